import PyProof.Rows.All
import Wide.All
import OpenK.AllK
import Wide.FinOn
import HandS.ForMost
import HandS.EndBits
import HandS.ExcInit
import HandS.WordsExc
import HandS.HeadHook1
import HandS.Wide
import HandS.IsInst
import PyProof.StrBlock2
import HandS.ExcField
import HandS.ExcIs
import HandS.TryOnly
import HandS.TupAny
import HandS.NoneIn
import HandS.Deep
import HandS.Defaults
import HandS.CallSlots
import HandS.Star
import HandS.SetKeys
import HandS.Small
import HandS.MakeKwOnly
import HandS.DictComp
import HandS.Zip
import KE.KUnpackStar
import HandS.FStr
import HandS.Ends
import HandS.HeadEnd
import HandS.HeadHook2
import HandS.HeadHook4
import HandS.Head0
import HandS.Head1
import HandS.Head2
import PySem.Challenge.RW_stillruns_k61_texts_of_no_kind
set_option Elab.async false
set_option linter.all false
set_option maxRecDepth 100000
set_option autoImplicit false
/-! Values as trees: tuples and lists that nobody changes are values, what is changed stands in a store. -/
namespace Sr
open PySem PySem.Spec PyProof.Rows L2

inductive DV where
  | non
  | bl (b : Bool)
  | int (i : Int)
  | str (x : Str)
  | tup (xs : List DV)
  | lst (xs : List DV)
  | rol (xs : List DV)
  /-- an instance, by its class's name; a dict of texts -/
  | ins (C : Str) (fs : List (Str × DV))
  | dic (kvs : List (Str × DV))
  | ref (a : Addr)
  | ty (n : String)
  /-- a def of the module; a table of defs (a module's dict), as far as it is told -/
  | fn (x : Str)
  | tab (kvs : List (Str × Option Str))

/-- what stands at an address that is changed -/
inductive MO where
  | lst (xs : List DV)
  | ins (C : Str) (fs : List (Str × DV))
  | dic (kvs : List (Str × DV))
abbrev Mu := Addr → Option MO
def upm (μ : Mu) (a : Addr) (o : MO) : Mu := fun b => if b = a then some o else μ b
theorem upm_same {μ : Mu} {a : Addr} {o : MO} : upm μ a o a = some o := if_pos rfl
theorem upm_ne {μ : Mu} {a b : Addr} {o : MO} (h : b ≠ a) : upm μ a o b = μ b := if_neg h
theorem upm_upm {μ : Mu} {a : Addr} {o u : MO} : upm (upm μ a o) a u = upm μ a u := by
  funext b; unfold upm; split <;> rfl
abbrev Ga := List (Option DV)
/-- a dict's rows as the house has them -/
def keyD {α : Type} (xs : List (Str × α)) : List (Key × α) := xs.map fun q => (.inr q.1, q.2)

def isStrV : V → Bool
  | .str _ => true
  | _ => false
/-- texts only, and some -/
def strsV : List V → Bool
  | [] => false
  | x :: xs => isStrV x && xs.all isStrV
/-- a tuple that is known exactly -/
def Exa (K : PySem.W.Frag) (B : Hp) (a : Addr) : Prop := (∃ (o : Obj) (u : HO), B a = some (.frz o u) ∧ o.cls = .type "tuple" ∧ o.dict = none) ∨ ∃ o : Obj, K.lookup a = some o ∧ o.cls = .type "tuple" ∧ o.dict = none
theorem Exa.to {K : PySem.W.Frag} {B B' : Hp} {a : Addr} (e : Same B B') (h : Exa K B a) : Exa K B' a := by
  rcases h with ⟨o, u, h, r⟩ | h
  · exact .inl ⟨o, u, e _ _ h, r⟩
  · exact .inr h
mutual
inductive Rep (K : PySem.W.Frag) (B : Hp) : V → DV → Prop
  | non : Rep K B .non .non
  | bl (b : Bool) : Rep K B (.bl b) (.bl b)
  | int (i : Int) : Rep K B (.int i) (.int i)
  | str (x : Str) : Rep K B (.str x) (.str x)
  | tup {a : Addr} {xs : List V} {ds : List DV} : SqT K B a xs → RepL K B xs ds → (strsV xs = true → Exa K B a) → Rep K B (.ref a) (.tup ds)
  | lst {a : Addr} {xs : List V} {ds : List DV} : B a = some (.lst xs) → RepL K B xs ds → Rep K B (.ref a) (.lst ds)
  | rol {a : Addr} {xs : List V} {ds : List DV} : SqL K B a xs → RepL K B xs ds → Rep K B (.ref a) (.rol ds)
  | ins {a dx : Addr} {C : Str} {xs : List (Str × V)} {ds : List (Str × DV)} : B a = some (.ins (He.ga K C) dx xs) → RepF K B xs ds → Rep K B (.ref a) (.ins C ds)
  | dic {a : Addr} {xs : List (Str × V)} {ds : List (Str × DV)} : B a = some (.dK (keyD xs)) → RepF K B xs ds → Rep K B (.ref a) (.dic ds)
  | ref (a : Addr) : Rep K B (.ref a) (.ref a)
  | ty (n : String) : Rep K B (.ty n) (.ty n)
  | fn (x : Str) : Rep K B (.ref (He.ga K x)) (.fn x)
inductive RepL (K : PySem.W.Frag) (B : Hp) : List V → List DV → Prop
  | nil : RepL K B [] []
  | cons {v : V} {vs : List V} {d : DV} {ds : List DV} : Rep K B v d → RepL K B vs ds → RepL K B (v :: vs) (d :: ds)
inductive RepF (K : PySem.W.Frag) (B : Hp) : List (Str × V) → List (Str × DV) → Prop
  | nil : RepF K B [] []
  | cons {f : Str} {v : V} {vs : List (Str × V)} {d : DV} {ds : List (Str × DV)} : Rep K B v d → RepF K B vs ds → RepF K B ((f, v) :: vs) ((f, d) :: ds)
end

theorem same_rd {B B' : Hp} {a : Addr} {u : HO} (e : Same B B') (h : Rd B a u) : Rd B' a u := by
  rcases h with h | ⟨o, h⟩
  · exact .inl (e _ _ h)
  · exact .inr ⟨o, e _ _ h⟩
theorem same_t {K : PySem.W.Frag} {B B' : Hp} {a : Addr} {xs : List V} (e : Same B B') (h : SqT K B a xs) : SqT K B' a xs := by
  rcases h with h | h
  · exact .inl (same_rd e h)
  · exact .inr h

mutual
theorem Rep.mono {K : PySem.W.Frag} {B B' : Hp} (e : Same B B') : ∀ (d : DV) (v : V), Rep K B v d → Rep K B' v d
  | .non, _, h => by cases h; exact .non
  | .bl b, _, h => by cases h; exact .bl b
  | .int i, _, h => by cases h; exact .int i
  | .str x, _, h => by cases h; exact .str x
  | .tup ds, _, h => by
    cases h with
    | tup h1 h2 h3 => exact .tup (same_t e h1) (RepL.mono e ds _ h2) fun k => (h3 k).to e
  | .lst ds, _, h => by
    cases h with
    | lst h1 h2 => exact .lst (e _ _ h1) (RepL.mono e ds _ h2)
  | .rol ds, _, h => by
    cases h with
    | rol h1 h2 => exact .rol (e.seq h1) (RepL.mono e ds _ h2)
  | .ins C ds, _, h => by
    cases h with
    | ins h1 h2 => exact .ins (e _ _ h1) (RepF.mono e ds _ h2)
  | .dic ds, _, h => by
    cases h with
    | dic h1 h2 => exact .dic (e _ _ h1) (RepF.mono e ds _ h2)
  | .ref a, _, h => by cases h; exact .ref a
  | .ty n, _, h => by cases h; exact .ty n
  | .fn x, _, h => by cases h; exact .fn x
  | .tab _, _, h => by cases h
theorem RepL.mono {K : PySem.W.Frag} {B B' : Hp} (e : Same B B') : ∀ (ds : List DV) (vs : List V), RepL K B vs ds → RepL K B' vs ds
  | [], _, h => by cases h; exact .nil
  | d :: ds, _, h => by
    cases h with
    | cons h1 h2 => exact .cons (Rep.mono e d _ h1) (RepL.mono e ds _ h2)
theorem RepF.mono {K : PySem.W.Frag} {B B' : Hp} (e : Same B B') : ∀ (ds : List (Str × DV)) (vs : List (Str × V)), RepF K B vs ds → RepF K B' vs ds
  | [], _, h => by cases h; exact .nil
  | (f, d) :: ds, _, h => by
    cases h with
    | cons h1 h2 => exact .cons (Rep.mono e d _ h1) (RepF.mono e ds _ h2)
end
section
variable {K : PySem.W.Frag} {B B' H H' : Hp} {μ : Mu}
theorem Rep.to {v : V} {d : DV} (h : Rep K B v d) (e : Same B B') : Rep K B' v d := Rep.mono e d v h
theorem RepL.to {v : List V} {d : List DV} (h : RepL K B v d) (e : Same B B') : RepL K B' v d := RepL.mono e d v h
theorem RepF.to {v : List (Str × V)} {d : List (Str × DV)} (h : RepF K B v d) (e : Same B B') : RepF K B' v d := RepF.mono e d v h
theorem RepL.length : ∀ {vs : List V} {ds : List DV}, RepL K B vs ds → vs.length = ds.length
  | [], _, h => by cases h; rfl
  | _ :: _, _, h => by
    cases h with
    | cons _ h2 => rw [List.length_cons, List.length_cons, RepL.length h2]
theorem RepL.get : ∀ {vs : List V} {ds : List DV} {i : Nat} {d : DV}, RepL K B vs ds → ds[i]? = some d → ∃ v, vs[i]? = some v ∧ Rep K B v d
  | [], _, _, _, h, e => by cases h; simp at e
  | v :: vs, _, i, d, h, e => by
    cases h with
    | cons h1 h2 =>
      cases i with
      | zero => simp at e; subst e; exact ⟨v, rfl, h1⟩
      | succ i =>
        obtain ⟨w, p, q⟩ := RepL.get (i := i) (d := d) h2 (by simpa using e)
        exact ⟨w, by simpa using p, q⟩
theorem RepL.getV : ∀ {vs : List V} {ds : List DV} {i : Nat} {v : V}, RepL K B vs ds → vs[i]? = some v → ∃ d, ds[i]? = some d ∧ Rep K B v d
  | [], _, _, _, h, e => by cases h; simp at e
  | w :: vs, _, i, v, h, e => by
    cases h with
    | cons h1 h2 =>
      cases i with
      | zero => simp at e; subst e; exact ⟨_, rfl, h1⟩
      | succ i =>
        obtain ⟨d, p, q⟩ := RepL.getV (i := i) (v := v) h2 (by simpa using e)
        exact ⟨d, by simpa using p, q⟩
theorem RepL.app : ∀ {vs ws : List V} {ds es : List DV}, RepL K B vs ds → RepL K B ws es → RepL K B (vs ++ ws) (ds ++ es)
  | [], _, _, _, h, q => by cases h; exact q
  | _ :: _, _, _, _, h, q => by
    cases h with
    | cons h1 h2 => exact .cons h1 (h2.app q)
theorem RepL.one {v : V} {d : DV} (h : Rep K B v d) : RepL K B [v] [d] := .cons h .nil
theorem RepL.take : ∀ {vs : List V} {ds : List DV} (n : Nat), RepL K B vs ds → RepL K B (vs.take n) (ds.take n)
  | _, _, 0, _ => .nil
  | [], _, _ + 1, h => by cases h; exact .nil
  | _ :: _, _, n + 1, h => by
    cases h with
    | cons h1 h2 => exact .cons h1 (h2.take n)
theorem RepL.drop : ∀ {vs : List V} {ds : List DV} (n : Nat), RepL K B vs ds → RepL K B (vs.drop n) (ds.drop n)
  | _, _, 0, h => h
  | [], _, _ + 1, h => by cases h; exact .nil
  | _ :: _, _, n + 1, h => by
    cases h with
    | cons h1 h2 => exact h2.drop n
theorem RepL.set : ∀ {vs : List V} {ds : List DV} (n : Nat) {v : V} {d : DV}, RepL K B vs ds → Rep K B v d → RepL K B (vs.set n v) (ds.set n d)
  | [], _, _, _, _, h, _ => by cases h; exact .nil
  | _ :: _, _, 0, _, _, h, q => by
    cases h with
    | cons h1 h2 => exact .cons q h2
  | _ :: _, _, n + 1, _, _, h, q => by
    cases h with
    | cons h1 h2 => exact .cons h1 (h2.set n q)
theorem RepL.eraseIdx : ∀ {vs : List V} {ds : List DV} (n : Nat), RepL K B vs ds → RepL K B (vs.eraseIdx n) (ds.eraseIdx n)
  | [], _, _, h => by cases h; exact .nil
  | _ :: _, _, 0, h => by
    cases h with
    | cons h1 h2 => exact h2
  | _ :: _, _, n + 1, h => by
    cases h with
    | cons h1 h2 => exact .cons h1 (h2.eraseIdx n)
theorem RepL.ints : ∀ {ns : List Int} {vs : List V}, RepL K B vs (ns.map DV.int) → vs = ns.map V.int
  | [], _, h => by cases h; rfl
  | n :: ns, _, h => by
    cases h with
    | cons h1 h2 => cases h1; rw [List.map_cons, RepL.ints h2]
theorem RepL.of_ints : ∀ (ns : List Int), RepL K B (ns.map V.int) (ns.map DV.int)
  | [] => .nil
  | n :: ns => .cons (.int n) (RepL.of_ints ns)
theorem RepL.strs : ∀ {ns : List Str} {vs : List V}, RepL K B vs (ns.map DV.str) → vs = ns.map V.str
  | [], _, h => by cases h; rfl
  | n :: ns, _, h => by
    cases h with
    | cons h1 h2 => cases h1; rw [List.map_cons, RepL.strs h2]
theorem RepL.of_strs : ∀ (ns : List Str), RepL K B (ns.map V.str) (ns.map DV.str)
  | [] => .nil
  | n :: ns => .cons (.str n) (RepL.of_strs ns)
theorem RepL.bls : ∀ {ns : List Bool} {vs : List V}, RepL K B vs (ns.map DV.bl) → vs = ns.map V.bl
  | [], _, h => by cases h; rfl
  | n :: ns, _, h => by
    cases h with
    | cons h1 h2 => cases h1; rw [List.map_cons, RepL.bls h2]
theorem RepF.length : ∀ {vs : List (Str × V)} {ds : List (Str × DV)}, RepF K B vs ds → vs.length = ds.length
  | [], _, h => by cases h; rfl
  | _ :: _, _, h => by
    cases h with
    | cons _ h2 => rw [List.length_cons, List.length_cons, RepF.length h2]
theorem RepF.look {f : Str} : ∀ {vs : List (Str × V)} {ds : List (Str × DV)} {d : DV}, RepF K B vs ds → ds.lookup f = some d → ∃ v, vs.lookup f = some v ∧ Rep K B v d
  | [], _, _, h, e => by cases h; simp at e
  | (g, v) :: vs, _, d, h, e => by
    cases h with
    | cons h1 h2 =>
      rw [List.lookup_cons] at e ⊢
      by_cases hg : (f == g) = true
      · rw [hg] at e ⊢
        cases e
        exact ⟨v, rfl, h1⟩
      · rw [Bool.not_eq_true] at hg
        rw [hg] at e ⊢
        exact RepF.look h2 e
end

def RepM (K : PySem.W.Frag) (B H : Hp) (a : Addr) : MO → Prop
  | .lst ds => ∃ xs, H a = some (.lst xs) ∧ RepL K B xs ds
  | .ins C fs => ∃ dx xs, H a = some (.ins (He.ga K C) dx xs) ∧ RepF K B xs fs
  | .dic kvs => ∃ xs, H a = some (.dK (keyD xs)) ∧ RepF K B xs kvs

structure Wf (K : PySem.W.Frag) (B H : Hp) (μ : Mu) : Prop where
  sub : Same B H
  ob : ∀ a m, μ a = some m → B a = none ∧ RepM K B H a m

structure RepSt (K : PySem.W.Frag) (B : Hp) (σ : L2.St) (γ : Ga) : Prop where
  len : σ.length = γ.length
  get : ∀ (i : Nat) (d : DV), γ[i]? = some (some d) → ∃ v, σ[i]? = some (some v) ∧ Rep K B v d
section
variable {K : PySem.W.Frag} {B B' H H' : Hp} {μ : Mu} {σ : L2.St} {γ : Ga} {v : V} {d : DV} {a : Addr}
theorem RepM.there {m : MO} (h : RepM K B H a m) : ∃ o, H a = some o := by
  cases m with
  | lst ds => obtain ⟨xs, e, _⟩ := h; exact ⟨_, e⟩
  | ins C fs => obtain ⟨dx, xs, e, _⟩ := h; exact ⟨_, e⟩
  | dic kvs => obtain ⟨xs, e, _⟩ := h; exact ⟨_, e⟩
theorem RepM.to {m : MO} (h : RepM K B H a m) (e : Same B B') (k : H' a = H a) : RepM K B' H' a m := by
  cases m with
  | lst ds => obtain ⟨xs, p, q⟩ := h; exact ⟨xs, k.trans p, q.to e⟩
  | ins C fs => obtain ⟨dx, xs, p, q⟩ := h; exact ⟨dx, xs, k.trans p, q.to e⟩
  | dic kvs => obtain ⟨xs, p, q⟩ := h; exact ⟨xs, k.trans p, q.to e⟩
theorem Wf.free (w : Wf K B H μ) (h : H a = none) : B a = none ∧ μ a = none := by
  constructor
  · cases q : B a with
    | none => rfl
    | some o => rw [w.sub a o q] at h; cases h
  · cases q : μ a with
    | none => rfl
    | some m =>
      obtain ⟨o, e⟩ := (w.ob a m q).2.there
      rw [e] at h; cases h
/-- something new that is not told -/
theorem Wf.junk {o : HO} (w : Wf K B H μ) (h : H a = none) : Wf K B (upd H a o) μ where
  sub := fun b u e => by rw [upd_ne (ne_of_none (w.sub b u e) h)]; exact w.sub b u e
  ob := fun b m e => by
    obtain ⟨p, q⟩ := w.ob b m e
    obtain ⟨u, hu⟩ := q.there
    exact ⟨p, q.to (Same.refl _) (upd_ne (ne_of_none hu h))⟩
/-- something new that is known for ever -/
theorem Wf.know {o : HO} (w : Wf K B H μ) (h : H a = none) : Wf K (upd B a o) (upd H a o) μ ∧ Same B (upd B a o) := by
  obtain ⟨hb, hm⟩ := w.free h
  have sb : Same B (upd B a o) := fun b u e => by rw [upd_ne (ne_of_none e hb)]; exact e
  refine ⟨⟨fun b u e => ?_, fun b m e => ?_⟩, sb⟩
  · by_cases hba : b = a
    · subst hba; rw [upd_same] at e ⊢; exact e
    · rw [upd_ne hba] at e ⊢; exact w.sub b u e
  · obtain ⟨p, q⟩ := w.ob b m e
    obtain ⟨u, hu⟩ := q.there
    have hba : b ≠ a := ne_of_none hu h
    exact ⟨by rw [upd_ne hba]; exact p, q.to sb (upd_ne hba)⟩
/-- something new that may be changed -/
theorem Wf.own {o : HO} {m : MO} (w : Wf K B H μ) (h : H a = none) (r : RepM K B (upd H a o) a m) : Wf K B (upd H a o) (upm μ a m) where
  sub := (w.junk h).sub
  ob := fun b n e => by
    by_cases hba : b = a
    · subst hba; rw [upm_same] at e; cases e; exact ⟨(w.free h).1, r⟩
    · rw [upm_ne hba] at e; exact (w.junk h).ob b n e
/-- what may be changed is changed -/
theorem Wf.put {o : HO} {m m' : MO} (w : Wf K B H μ) (h : μ a = some m) (r : RepM K B (upd H a o) a m') : Wf K B (upd H a o) (upm μ a m') where
  sub := fun b u e => by
    have hb : b ≠ a := fun z => by subst z; rw [(w.ob b m h).1] at e; cases e
    rw [upd_ne hb]; exact w.sub b u e
  ob := fun b n e => by
    by_cases hba : b = a
    · subst hba; rw [upm_same] at e; cases e; exact ⟨(w.ob b m h).1, r⟩
    · rw [upm_ne hba] at e
      obtain ⟨p, q⟩ := w.ob b n e
      exact ⟨p, q.to (Same.refl _) (upd_ne hba)⟩
theorem Wf.less {μ' : Mu} (w : Wf K B H μ) (h : ∀ a m, μ' a = some m → μ a = some m) : Wf K B H μ' := ⟨w.sub, fun a m e => w.ob a m (h a m e)⟩
theorem RepSt.to (h : RepSt K B σ γ) (e : Same B B') : RepSt K B' σ γ := ⟨h.len, fun i d q => let ⟨v, p, r⟩ := h.get i d q; ⟨v, p, r.to e⟩⟩
theorem RepSt.set (h : RepSt K B σ γ) (i : Nat) (r : Rep K B v d) : RepSt K B (σ.set i (some v)) (γ.set i (some d)) := by
  refine ⟨by rw [List.length_set, List.length_set, h.len], fun j u q => ?_⟩
  by_cases hj : i = j
  · subst hj
    rw [List.getElem?_set] at q
    rw [if_pos rfl] at q
    by_cases hl : i < γ.length
    · rw [if_pos hl] at q
      cases q
      refine ⟨v, ?_, r⟩
      rw [List.getElem?_set, if_pos rfl, if_pos (by rw [h.len]; exact hl)]
    · rw [if_neg hl] at q; cases q
  · rw [List.getElem?_set_ne hj] at q ⊢
    exact h.get j u q
theorem RepSt.drop (h : RepSt K B σ γ) (i : Nat) (o : Option V) : RepSt K B (σ.set i o) (γ.set i none) := by
  refine ⟨by rw [List.length_set, List.length_set, h.len], fun j u q => ?_⟩
  by_cases hj : i = j
  · subst hj
    rw [List.getElem?_set] at q
    rw [if_pos rfl] at q
    split at q <;> cases q
  · rw [List.getElem?_set_ne hj] at q ⊢
    exact h.get j u q
def wipeG (γ : Ga) : List Nat → Ga
  | [] => γ
  | v :: vs => (wipeG γ vs).set v none
theorem RepSt.wipe (h : RepSt K B σ γ) : ∀ vs : List Nat, RepSt K B (wipe σ vs) (wipeG γ vs)
  | [] => h
  | v :: vs => (h.wipe vs).drop v none
end

def rem (μ : Mu) (a : Addr) : Mu := fun b => if b = a then none else μ b
theorem rem_keep {μ : Mu} {a b : Addr} (h : μ b = none) : rem μ a b = none := by
  unfold rem; by_cases e : b = a
  · rw [if_pos e]
  · rw [if_neg e]; exact h
/-- from one moment to a later one -/
structure Nxt (K : PySem.W.Frag) (B H : Hp) (μ : Mu) (B' H' : Hp) (μ' : Mu) : Prop where
  s : Same B B'
  w : Wf K B' H' μ'
  f : ∀ a o, H a = some o → μ a = none → B a = none → H' a = some o ∧ μ' a = none ∧ B' a = none
section
variable {K : PySem.W.Frag} {B B' B2 H H' H2 : Hp} {μ μ' μ2 : Mu} {σ : L2.St} {γ : Ga} {v : V} {d : DV} {a : Addr}
theorem Nxt.refl (w : Wf K B H μ) : Nxt K B H μ B H μ := ⟨Same.refl _, w, fun _ _ h k l => ⟨h, k, l⟩⟩
theorem Nxt.trans (n : Nxt K B H μ B' H' μ') (m : Nxt K B' H' μ' B2 H2 μ2) : Nxt K B H μ B2 H2 μ2 :=
  ⟨n.s.trans m.s, m.w, fun a o h k l => let ⟨p, q, r⟩ := n.f a o h k l; m.f a o p q r⟩
theorem Wf.junkN {o : HO} (w : Wf K B H μ) (h : H a = none) : Nxt K B H μ B (upd H a o) μ :=
  ⟨Same.refl _, w.junk h, fun b u e k l => ⟨by rw [upd_ne (ne_of_none e h)]; exact e, k, l⟩⟩
theorem Wf.knowN {o : HO} (w : Wf K B H μ) (h : H a = none) : Nxt K B H μ (upd B a o) (upd H a o) μ :=
  ⟨(w.know h).2, (w.know h).1, fun b u e k l => ⟨by rw [upd_ne (ne_of_none e h)]; exact e, k, by rw [upd_ne (ne_of_none e h)]; exact l⟩⟩
theorem Wf.ownN {o : HO} {m : MO} (w : Wf K B H μ) (h : H a = none) (r : RepM K B (upd H a o) a m) : Nxt K B H μ B (upd H a o) (upm μ a m) :=
  ⟨Same.refl _, w.own h r, fun b u e k l => ⟨by rw [upd_ne (ne_of_none e h)]; exact e, by rw [upm_ne (ne_of_none e h)]; exact k, l⟩⟩
theorem Wf.putN {o : HO} {m m' : MO} (w : Wf K B H μ) (h : μ a = some m) (r : RepM K B (upd H a o) a m') : Nxt K B H μ B (upd H a o) (upm μ a m') :=
  ⟨Same.refl _, w.put h r, fun b u e k l => by
    have hb : b ≠ a := fun z => by subst z; rw [h] at k; cases k
    exact ⟨by rw [upd_ne hb]; exact e, by rw [upm_ne hb]; exact k, l⟩⟩
theorem Wf.freezeO {m : MO} {o : HO} (w : Wf K B H μ) (h : μ a = some m) (e : H a = some o) : Nxt K B H μ (upd B a o) H (rem μ a) := by
  obtain ⟨hb, _⟩ := w.ob a _ h
  have sb : Same B (upd B a o) := fun b u q => by rw [upd_ne (ne_of_none q hb)]; exact q
  refine ⟨sb, ⟨fun b u q => ?_, fun b m q => ?_⟩, fun b u q k l => ⟨q, rem_keep k, ?_⟩⟩
  · by_cases hba : b = a
    · subst hba; rw [upd_same] at q; cases q; exact e
    · rw [upd_ne hba] at q; exact w.sub b u q
  · by_cases hba : b = a
    · unfold rem at q; rw [if_pos hba] at q; cases q
    · unfold rem at q; rw [if_neg hba] at q
      obtain ⟨p, r2⟩ := w.ob b m q
      exact ⟨by rw [upd_ne hba]; exact p, r2.to sb rfl⟩
  · rw [upd_ne (fun z => by subst z; rw [h] at k; cases k)]; exact l
theorem Wf.freezeN {ds : List DV} (w : Wf K B H μ) (h : μ a = some (.lst ds)) :
    ∃ B', Nxt K B H μ B' H (rem μ a) ∧ Rep K B' (.ref a) (.lst ds) := by
  obtain ⟨hb, xs, e, r⟩ := w.ob a _ h
  have n := w.freezeO h e
  exact ⟨_, n, .lst upd_same (r.to n.s)⟩
theorem Wf.freezeIN {C : Str} {ds : List (Str × DV)} (w : Wf K B H μ) (h : μ a = some (.ins C ds)) :
    ∃ B', Nxt K B H μ B' H (rem μ a) ∧ Rep K B' (.ref a) (.ins C ds) := by
  obtain ⟨hb, dx, xs, e, r⟩ := w.ob a _ h
  have n := w.freezeO h e
  exact ⟨_, n, .ins upd_same (r.to n.s)⟩
theorem Wf.freezeDN {ds : List (Str × DV)} (w : Wf K B H μ) (h : μ a = some (.dic ds)) :
    ∃ B', Nxt K B H μ B' H (rem μ a) ∧ Rep K B' (.ref a) (.dic ds) := by
  obtain ⟨hb, xs, e, r⟩ := w.ob a _ h
  have n := w.freezeO h e
  exact ⟨_, n, .dic upd_same (r.to n.s)⟩
theorem less_none {μ μ' : Mu} {b : Addr} (h : ∀ a m, μ' a = some m → μ a = some m) (k : μ b = none) : μ' b = none := by
  cases q : μ' b with
  | none => rfl
  | some m => rw [h b m q] at k; cases k
theorem Wf.lessN {μ' : Mu} (w : Wf K B H μ) (h : ∀ a m, μ' a = some m → μ a = some m) : Nxt K B H μ B H μ' :=
  ⟨Same.refl _, w.less h, fun b u e k l => ⟨e, less_none h k, l⟩⟩
end

/-! ### the weakest readings -/
def WE (X : Cx) (e : Expr) : TE := fun σ H Q => ∀ pins s, Inv X pins σ H s → wpAny (model X.prog X.w) X.A (eval e X.env) (EP X pins σ Q) X.xe s
def WT (X : Cx) (e : Expr) : TT := fun σ H Q => ∀ pins s, Inv X pins σ H s → wpAny (model X.prog X.w) X.A (isTrue e X.env (eval e X.env)) (TP X pins σ Q) X.xe s
def WA (X : Cx) (es : List Expr) : TA := fun σ H Q => ∀ pos pins s, Inv X pins σ H s → wpAny (model X.prog X.w) X.A (spliced (backTo pos (starEach es X.env))) (AP X pins σ Q) X.xe s
def WS (X : Cx) (st : Stmt) : TS := fun D σ H => ∀ pins s, Inv X pins σ H s → wpAny (model X.prog X.w) X.A (exec st X.env) (SP X pins D) X.xe s
def WSs (X : Cx) (st : List Stmt) : TS := fun D σ H => ∀ pins s, Inv X pins σ H s → wpAny (model X.prog X.w) X.A (execs st X.env) (SP X pins D) X.xe s
def WG (X : Cx) (tg : Expr) : TG := fun v σ H Q => ∀ pins s u, Inv X pins σ H s → RelV v u → wpAny (model X.prog X.w) X.A (assign tg X.env u) (fun _ s' => ∃ σ' H', Inv X pins σ' H' s' ∧ Q σ' H') X.xe s
def WGs (X : Cx) (ts : List Expr) : TGs := fun vs σ H Q => ∀ pins s us, Inv X pins σ H s → Vals vs us → wpAny (model X.prog X.w) X.A (assignInOrder ((assignEach ts X.env).map (·.2)) us) (fun _ s' => ∃ σ' H', Inv X pins σ' H' s' ∧ Q σ' H') X.xe s
def WTs (X : Cx) (ifs : List Expr) : TT := fun σ H Q => ∀ pins s, Inv X pins σ H s →
    wpAny (model X.prog X.w) X.A (forIn ifs true fun c r => if r = true then do let ok ← isTrue c X.env (eval c X.env); pure (ForInStep.yield ok) else pure (ForInStep.yield r)) (TP X pins σ Q) X.xe s
section
variable {X : Cx} {e : Expr} {es : List Expr} {st : Stmt} {sts : List Stmt} {σ : L2.St} {H : Hp}
theorem pe_w : PE X e (WE X e) := ⟨fun pins s _ _ _ I h => h pins s I⟩
theorem pt_w : PT X e (WT X e) := ⟨fun pins s _ _ _ I h => h pins s I⟩
theorem pa_w : PA X es (WA X es) := ⟨fun pos pins s _ _ _ I h => h pos pins s I⟩
theorem ps_w : PS X st (WS X st) := ⟨fun pins s _ _ _ I h => h pins s I⟩
theorem pss_w : PSs X sts (WSs X sts) := ⟨fun pins s _ _ _ I h => h pins s I⟩
theorem pg_w : PG X e (WG X e) := ⟨fun pins s _ _ _ u _ I r h => h pins s u I r⟩
theorem pgs_w : PGs X es (WGs X es) := ⟨fun pins s _ _ _ us _ I r h => h pins s us I r⟩
theorem pts_w : PTs X es (WTs X es) := ⟨fun pins s _ _ _ I h => h pins s I⟩
theorem we_of {t : TE} {Q : VK} (p : PE X e t) (h : t σ H Q) : WE X e σ H Q := fun pins s I => p.run pins s σ H Q I h
theorem wt_of {t : TT} {Q : Bool → Hp → Prop} (p : PT X e t) (h : t σ H Q) : WT X e σ H Q := fun pins s I => p.run pins s σ H Q I h
theorem wa_of {t : TA} {Q : List V → Hp → Prop} (p : PA X es t) (h : t σ H Q) : WA X es σ H Q := fun pos pins s I => p.run pos pins s σ H Q I h
theorem ws_of {t : TS} {D : Ends} (p : PS X st t) (h : t D σ H) : WS X st D σ H := fun pins s I => p.run pins s σ H D I h
theorem wss_of {t : TS} {D : Ends} (p : PSs X sts t) (h : t D σ H) : WSs X sts D σ H := fun pins s I => p.run pins s σ H D I h
theorem wg_of {t : TG} {v : V} {Q : L2.St → Hp → Prop} (p : PG X e t) (h : t v σ H Q) : WG X e v σ H Q := fun pins s u I r => p.run pins s σ H v u Q I r h
theorem wgs_of {t : TGs} {v : List V} {Q : L2.St → Hp → Prop} (p : PGs X es t) (h : t v σ H Q) : WGs X es v σ H Q := fun pins s u I r => p.run pins s σ H v u Q I r h
theorem wts_of {t : TT} {Q : Bool → Hp → Prop} (p : PTs X es t) (h : t σ H Q) : WTs X es σ H Q := fun pins s I => p.run pins s σ H Q I h
end

/-! ### the judgements over trees -/
/-- what is wanted of an exception: its class, its fields -/
abbrev XD := Str → List (Str × DV) → Ga → Mu → Prop
def XOk (K : PySem.W.Frag) (B H : Hp) (μ : Mu) (Wd : XD) (W : WX) : Prop :=
  ∀ (cls : Str) (d : Option Addr) (fs : List (Str × DV)) (σ' : L2.St) (γ' : Ga) (B' H' : Hp) (μ' : Mu), Nxt K B H μ B' H' μ' → RepSt K B' σ' γ' →
    (fs = [] ∨ ∃ dx xs, d = some dx ∧ H' dx = some (.xd xs) ∧ RepF K B' xs fs) → Wd cls fs γ' μ' → W (.ref (He.ga K cls)) d σ' H'
structure Sit (X : Cx) (Wd : XD) (W : WX) (γ : Ga) (μ : Mu) (σ : L2.St) (B H : Hp) : Prop where
  st : RepSt X.K B σ γ
  wf : Wf X.K B H μ
  xo : XOk X.K B H μ Wd W
  tk : Takes X W
def DE (X : Cx) (Wd : XD) (e : Expr) (γ : Ga) (μ : Mu) (P : DV → Mu → Prop) : Prop := ∀ (W : WX) (σ : L2.St) (B H : Hp), Sit X Wd W γ μ σ B H →
  ∀ Q : VK, (∀ v d B' H' μ', Nxt X.K B H μ B' H' μ' → Rep X.K B' v d → P d μ' → Q v H') → WE X e σ H Q
def DT (X : Cx) (Wd : XD) (e : Expr) (γ : Ga) (μ : Mu) (P : Bool → Mu → Prop) : Prop := ∀ (W : WX) (σ : L2.St) (B H : Hp), Sit X Wd W γ μ σ B H →
  ∀ Q : Bool → Hp → Prop, (∀ b B' H' μ', Nxt X.K B H μ B' H' μ' → P b μ' → Q b H') → WT X e σ H Q
def DA (X : Cx) (Wd : XD) (es : List Expr) (γ : Ga) (μ : Mu) (P : List DV → Mu → Prop) : Prop := ∀ (W : WX) (σ : L2.St) (B H : Hp), Sit X Wd W γ μ σ B H →
  ∀ Q : List V → Hp → Prop, (∀ v d B' H' μ', Nxt X.K B H μ B' H' μ' → RepL X.K B' v d → P d μ' → Q v H') → WA X es σ H Q
structure DEnds where
  nx : Ga → Mu → Prop
  rt : DV → Mu → Prop
  bk : Ga → Mu → Prop := fun _ _ => False
  ct : Ga → Mu → Prop := fun _ _ => False
structure EOk (K : PySem.W.Frag) (B H : Hp) (μ : Mu) (D : DEnds) (E : Ends) : Prop where
  nx : ∀ σ' γ' B' H' μ', Nxt K B H μ B' H' μ' → RepSt K B' σ' γ' → D.nx γ' μ' → E.nx σ' H'
  rt : ∀ v d B' H' μ', Nxt K B H μ B' H' μ' → Rep K B' v d → D.rt d μ' → E.rt v H'
  bk : ∀ σ' γ' B' H' μ', Nxt K B H μ B' H' μ' → RepSt K B' σ' γ' → D.bk γ' μ' → E.bk σ' H'
  ct : ∀ σ' γ' B' H' μ', Nxt K B H μ B' H' μ' → RepSt K B' σ' γ' → D.ct γ' μ' → E.ct σ' H'
def DS1 (X : Cx) (Wd : XD) (st : Stmt) (γ : Ga) (μ : Mu) (D : DEnds) : Prop := ∀ (W : WX) (σ : L2.St) (B H : Hp), Sit X Wd W γ μ σ B H → ∀ E, EOk X.K B H μ D E → WS X st E σ H
def DS (X : Cx) (Wd : XD) (sts : List Stmt) (γ : Ga) (μ : Mu) (D : DEnds) : Prop := ∀ (W : WX) (σ : L2.St) (B H : Hp), Sit X Wd W γ μ σ B H → ∀ E, EOk X.K B H μ D E → WSs X sts E σ H
/-- only these slots are changed -/
def Els (vs : List Nat) (σ σ' : L2.St) : Prop := σ'.length = σ.length ∧ ∀ i, i ∉ vs → σ'[i]? = σ[i]?
/-- a value goes to a target -/
def DGo (X : Cx) (Wd : XD) (vs : List Nat) (tg : Expr) (d : DV) (γ : Ga) (μ : Mu) (P : Ga → Mu → Prop) : Prop := ∀ (W : WX) (σ : L2.St) (B H : Hp) (v : V), Sit X Wd W γ μ σ B H → Rep X.K B v d →
  ∀ Q : L2.St → Hp → Prop, (∀ σ' γ' B' H' μ', Nxt X.K B H μ B' H' μ' → Els vs σ σ' → RepSt X.K B' σ' γ' → P γ' μ' → Q σ' H') → WG X tg v σ H Q
def DGso (X : Cx) (Wd : XD) (vs : List Nat) (ts : List Expr) (ds : List DV) (γ : Ga) (μ : Mu) (P : Ga → Mu → Prop) : Prop := ∀ (W : WX) (σ : L2.St) (B H : Hp) (us : List V), Sit X Wd W γ μ σ B H → RepL X.K B us ds →
  ∀ Q : L2.St → Hp → Prop, (∀ σ' γ' B' H' μ', Nxt X.K B H μ B' H' μ' → Els vs σ σ' → RepSt X.K B' σ' γ' → P γ' μ' → Q σ' H') → WGs X ts us σ H Q
def DG (X : Cx) (Wd : XD) (tg : Expr) (d : DV) (γ : Ga) (μ : Mu) (P : Ga → Mu → Prop) : Prop := ∃ vs, DGo X Wd vs tg d γ μ P
theorem Els.refl {vs : List Nat} {σ : L2.St} : Els vs σ σ := ⟨rfl, fun _ _ => rfl⟩
theorem Els.trans {vs : List Nat} {σ σ' σ2 : L2.St} (h : Els vs σ σ') (k : Els vs σ' σ2) : Els vs σ σ2 := ⟨k.1.trans h.1, fun i hi => (k.2 i hi).trans (h.2 i hi)⟩
theorem Els.set {i : Nat} {vs : List Nat} {σ : L2.St} {o : Option V} (h : i ∈ vs) : Els vs σ (σ.set i o) := ⟨List.length_set, fun j hj => List.getElem?_set_ne fun e => hj (by rw [← e]; exact h)⟩
section
variable {X : Cx} {Wd : XD} {W : WX} {γ : Ga} {μ μ' : Mu} {σ σ' : L2.St} {B B' B2 H H' : Hp} {D D' : DEnds} {E : Ends}
theorem XOk.to (h : XOk X.K B H μ Wd W) (n : Nxt X.K B H μ B' H' μ') : XOk X.K B' H' μ' Wd W := fun cls d fs σ' γ' B2 H2 μ2 s => h cls d fs σ' γ' B2 H2 μ2 (n.trans s)
theorem Sit.next (S : Sit X Wd W γ μ σ B H) (n : Nxt X.K B H μ B' H' μ') : Sit X Wd W γ μ' σ B' H' := ⟨S.st.to n.s, n.w, S.xo.to n, S.tk⟩
theorem Sit.nextS {γ' : Ga} (S : Sit X Wd W γ μ σ B H) (n : Nxt X.K B H μ B' H' μ') (r : RepSt X.K B' σ' γ') : Sit X Wd W γ' μ' σ' B' H' := ⟨r, n.w, S.xo.to n, S.tk⟩
theorem EOk.to (h : EOk X.K B H μ D E) (n : Nxt X.K B H μ B' H' μ') : EOk X.K B' H' μ' D E :=
  ⟨fun a b c d f s => h.nx a b c d f (n.trans s), fun a b c d f s => h.rt a b c d f (n.trans s), fun a b c d f s => h.bk a b c d f (n.trans s), fun a b c d f s => h.ct a b c d f (n.trans s)⟩
end
end Sr

set_option Elab.async false
set_option linter.all false
set_option maxRecDepth 100000
set_option autoImplicit false
namespace Sr
open PySem PySem.Spec PyProof.Rows L2

section
variable {X : Cx} {Wd : XD} {γ γ' : Ga} {μ : Mu} {a b c e f l o : Expr} {es : List Expr} {pos pos' p : Pos} {P : DV → Mu → Prop} {d : DV} {D : DEnds} {st : Stmt} {sts : List Stmt}

/-! ### by values -/
/-- what an operation of two values asks, over trees -/
def R2D (X : Cx) (r : R2) (d1 d2 : DV) (μ : Mu) (P : DV → Mu → Prop) : Prop := ∀ (B H : Hp) (x y : V), Wf X.K B H μ → Rep X.K B x d1 → Rep X.K B y d2 →
  ∀ Q : VK, (∀ v d B' H' μ', Nxt X.K B H μ B' H' μ' → Rep X.K B' v d → P d μ' → Q v H') → r x y H Q
def R1D (X : Cx) (r : V → Hp → VK → Prop) (d1 : DV) (μ : Mu) (P : DV → Mu → Prop) : Prop := ∀ (B H : Hp) (x : V), Wf X.K B H μ → Rep X.K B x d1 →
  ∀ Q : VK, (∀ v d B' H' μ', Nxt X.K B H μ B' H' μ' → Rep X.K B' v d → P d μ' → Q v H') → r x H Q
def RLD (X : Cx) (r : List V → Hp → VK → Prop) (ds : List DV) (μ : Mu) (P : DV → Mu → Prop) : Prop := ∀ (B H : Hp) (xs : List V), Wf X.K B H μ → RepL X.K B xs ds →
  ∀ Q : VK, (∀ v d B' H' μ', Nxt X.K B H μ B' H' μ' → Rep X.K B' v d → P d μ' → Q v H') → r xs H Q
/-- a method of a built-in type: what is asked of the object's type, and of the call -/
def RMD (X : Cx) (T : String) (r : V → List V → Hp → VK → Prop) (o : DV) (ds : List DV) (μ : Mu) (P : DV → Mu → Prop) : Prop := ∀ (B H : Hp) (x : V) (xs : List V), Wf X.K B H μ → Rep X.K B x o → RepL X.K B xs ds →
  ∀ Q : VK, (∀ v d B' H' μ', Nxt X.K B H μ B' H' μ' → Rep X.K B' v d → P d μ' → Q v H') → r x xs H Q
def TyD (K : PySem.W.Frag) (T : String) (o : DV) (μ : Mu) : Prop := ∀ (B H : Hp) (x : V), Wf K B H μ → Rep K B x o → tyV K T x H

/-! ### names, constants -/
theorem de_name {i : Nat} {x : Str} (hN : X.N[i]? = some x) (hv : Vis X.env.scope x) (hd : (x == ("__debug__" : Str)) = false) (hcd : (x == ("__classdict__" : Str)) = false) (hg : γ[i]? = some (some d)) (h : P d μ) : DE X Wd (.Name x pos) γ μ P :=
  fun W σ B H S Q q => by
    obtain ⟨v, e, r⟩ := S.st.get i d hg
    exact we_of (pe_var hN hv hd hcd) ⟨v, e, q v d B H μ (Nxt.refl S.wf) r h⟩
theorem de_glob {x : Str} {v : V} {u : Value} (hg : Gl X x) (hm : X.mg x = some u) (r : RelV v u) (hr : ∀ B, Rep X.K B v d) (h : P d μ) (hd : (x == ("__debug__" : Str)) = false := by decide) : DE X Wd (.Name x pos) γ μ P :=
  fun W σ B H S Q q => we_of (pe_glob hg hm r hd) (q v d B H μ (Nxt.refl S.wf) (hr B) h)
theorem de_ty {x : Str} {n : String} (hg : Gl X x) (hm : X.mg x = none) (hv : bootBuiltins x = some (.type n)) (h : P (.ty n) μ) (hn : x ≠ "__name__" := by decide) (hd : (x == ("__debug__" : Str)) = false := by decide) : DE X Wd (.Name x pos) γ μ P :=
  fun W σ B H S Q q => we_of (pe_bltn (v := .ty n) hg hm hv rfl hn hd) (q _ _ B H μ (Nxt.refl S.wf) (.ty n) h)
theorem de_int {i : Int} {j : Nat} (h : P (.int i) μ) : DE X Wd (.Constant (.int i) j pos) γ μ P := fun W σ B H S Q q => we_of pe_int (q _ _ B H μ (Nxt.refl S.wf) (.int i) h)
theorem de_bl {i : Bool} {j : Nat} (h : P (.bl i) μ) : DE X Wd (.Constant (.bool i) j pos) γ μ P := fun W σ B H S Q q => we_of pe_bl (q _ _ B H μ (Nxt.refl S.wf) (.bl i) h)
theorem de_non {j : Nat} (h : P .non μ) : DE X Wd (.Constant .none j pos) γ μ P := fun W σ B H S Q q => we_of pe_non (q _ _ B H μ (Nxt.refl S.wf) .non h)
theorem de_str {x : Str} {j : Nat} (h : P (.str x) μ) : DE X Wd (.Constant (.str x) j pos) γ μ P := fun W σ B H S Q q => we_of pe_str (q _ _ B H μ (Nxt.refl S.wf) (.str x) h)

/-! ### weakening, freezing -/
theorem DE.imp {P' : DV → Mu → Prop} (h : DE X Wd e γ μ P) (hp : ∀ d μ', P d μ' → P' d μ') : DE X Wd e γ μ P' := fun W σ B H S Q q =>
  h W σ B H S Q fun v d B' H' μ' n r p => q v d B' H' μ' n r (hp d μ' p)
theorem DA.imp {P P' : List DV → Mu → Prop} (h : DA X Wd es γ μ P) (hp : ∀ d μ', P d μ' → P' d μ') : DA X Wd es γ μ P' := fun W σ B H S Q q =>
  h W σ B H S Q fun v d B' H' μ' n r p => q v d B' H' μ' n r (hp d μ' p)
theorem rem_upm {μ : Mu} {a : Addr} {o : MO} (h : μ a = none) : rem (upm μ a o) a = μ := by
  funext b; unfold rem upm; by_cases e : b = a
  · rw [if_pos e, e, h]
  · rw [if_neg e, if_neg e]
theorem rem_upm2 {μ : Mu} {a : Addr} {o : MO} : rem (upm μ a o) a = rem μ a := by
  funext b; unfold rem upm; by_cases e : b = a
  · rw [if_pos e, if_pos e]
  · rw [if_neg e, if_neg e, if_neg e]
theorem rem_ne {μ : Mu} {a b : Addr} {o : MO} (h : b ≠ a) : rem (upm μ a o) b = upm (rem μ b) a o := by
  funext c
  show (if c = b then none else if c = a then some o else μ c) = (if c = a then some o else if c = b then none else μ c)
  by_cases e : c = b
  · subst e; rw [if_pos rfl, if_neg h, if_pos rfl]
  · rw [if_neg e, if_neg e]
theorem rem_none {μ : Mu} {a : Addr} (h : μ a = none) : rem μ a = μ := by
  funext b; unfold rem; by_cases e : b = a
  · rw [if_pos e, e, h]
  · rw [if_neg e]
/-- the value is a list that is changed no more -/
theorem de_freeze (h : DE X Wd e γ μ fun d μ1 => ∃ a ds, d = .ref a ∧ μ1 a = some (.lst ds) ∧ P (.lst ds) (rem μ1 a)) : DE X Wd e γ μ P := fun W σ B H S Q q =>
  h W σ B H S Q fun v d B' H' μ' n r ⟨a, ds, e1, e2, p⟩ => by
    subst e1
    cases r
    obtain ⟨B2, n2, r2⟩ := n.w.freezeN e2
    exact q _ _ B2 H' _ (n.trans n2) r2 p
theorem de_less (h : DE X Wd e γ μ fun d μ1 => ∃ μ2, (∀ a m, μ2 a = some m → μ1 a = some m) ∧ P d μ2) : DE X Wd e γ μ P := fun W σ B H S Q q =>
  h W σ B H S Q fun v d B' H' μ' n r ⟨μ2, e2, p⟩ => q v d B' H' μ2 (n.trans (n.w.lessN e2)) r p

/-! ### operators -/
theorem de_bin {op : Operator} {r : R2} (ho : OpR X (binaryOp op) r) (h : DE X Wd a γ μ fun d1 μ1 => DE X Wd b γ μ1 fun d2 μ2 => R2D X r d1 d2 μ2 P) : DE X Wd (.BinOp a op b pos) γ μ P := fun W σ B H S Q q =>
  we_of (pe_op ho pe_w pe_w) (h W σ B H S _ fun x d1 B1 H1 μ1 n1 r1 h1 => h1 W σ B1 H1 (S.next n1) _ fun y d2 B2 H2 μ2 n2 r2 h2 =>
    h2 B2 H2 x y n2.w (r1.to n2.s) r2 Q fun v d B3 H3 μ3 n3 r3 p => q v d B3 H3 μ3 ((n1.trans n2).trans n3) r3 p)
theorem de_cmp {op : CmpOp} {r : R2} (ho : OpR X (compareOp op) r) (hm : behindInMarks op b = false) (h : DE X Wd a γ μ fun d1 μ1 => DE X Wd b γ μ1 fun d2 μ2 => R2D X r d1 d2 μ2 P) : DE X Wd (.Compare a [op] [b] pos) γ μ P := fun W σ B H S Q q =>
  we_of (pe_cmpR ho pe_w pe_w hm) (h W σ B H S _ fun x d1 B1 H1 μ1 n1 r1 h1 => h1 W σ B1 H1 (S.next n1) _ fun y d2 B2 H2 μ2 n2 r2 h2 =>
    h2 B2 H2 x y n2.w (r1.to n2.s) r2 Q fun v d B3 H3 μ3 n3 r3 p => q v d B3 H3 μ3 ((n1.trans n2).trans n3) r3 p)
theorem dt_cmp {op : CmpOp} {r : R2} {P : Bool → Mu → Prop} (ho : OpR X (compareOp op) r) (hm : behindInMarks op b = false) (h : DE X Wd a γ μ fun d1 μ1 => DE X Wd b γ μ1 fun d2 μ2 => R2D X r d1 d2 μ2 fun d μ' => ∃ k, d = .bl k ∧ P k μ') : DT X Wd (.Compare a [op] [b] pos) γ μ P := fun W σ B H S Q q =>
  wt_of (pt_cmpR ho pe_w pe_w hm) (h W σ B H S _ fun x d1 B1 H1 μ1 n1 r1 h1 => h1 W σ B1 H1 (S.next n1) _ fun y d2 B2 H2 μ2 n2 r2 h2 =>
    h2 B2 H2 x y n2.w (r1.to n2.s) r2 _ fun v d B3 H3 μ3 n3 r3 ⟨k, e, p⟩ => by
      subst e; cases r3
      exact ⟨k, rfl, q k B3 H3 μ3 ((n1.trans n2).trans n3) p⟩)
theorem de_un {op : UnaryOp} {r : V → Hp → VK → Prop} (ho : UnR X (unaryOp op) r) (h : DE X Wd a γ μ fun d1 μ1 => R1D X r d1 μ1 P) : DE X Wd (.UnaryOp op a pos) γ μ P := fun W σ B H S Q q =>
  we_of (pe_un ho pe_w) (h W σ B H S _ fun x d1 B1 H1 μ1 n1 r1 h1 => h1 B1 H1 x n1.w r1 Q fun v d B3 H3 μ3 n3 r3 p => q v d B3 H3 μ3 (n1.trans n3) r3 p)
theorem de_ix {r : R2} (ho : IxR X r) (hs : PlainIx b) (h : DE X Wd a γ μ fun d1 μ1 => DE X Wd b γ μ1 fun d2 μ2 => R2D X r d1 d2 μ2 P) : DE X Wd (.Subscript a b pos) γ μ P := fun W σ B H S Q q =>
  we_of (pe_ix ho pe_w pe_w hs) (h W σ B H S _ fun x d1 B1 H1 μ1 n1 r1 h1 => h1 W σ B1 H1 (S.next n1) _ fun y d2 B2 H2 μ2 n2 r2 h2 =>
    h2 B2 H2 x y n2.w (r1.to n2.s) r2 Q fun v d B3 H3 μ3 n3 r3 p => q v d B3 H3 μ3 ((n1.trans n2).trans n3) r3 p)
theorem r2_I {C : Int → Int → Prop} {g : Int → Int → V} {g' : Int → Int → DV} {i j : Int} (hc : C i j) (hr : ∀ B, Rep X.K B (g i j) (g' i j)) (h : P (g' i j) μ) : R2D X (rI C g) (.int i) (.int j) μ P := fun B H x y w rx ry Q q => by
  cases rx; cases ry
  exact ⟨i, j, rfl, rfl, hc, q _ _ B H μ (Nxt.refl w) (hr B) h⟩
theorem r2_I0 {g : Int → Int → V} {g' : Int → Int → DV} {i j : Int} (hr : ∀ B, Rep X.K B (g i j) (g' i j)) (h : P (g' i j) μ) : R2D X (rI0 g) (.int i) (.int j) μ P := fun B H x y w rx ry Q q => by
  cases rx; cases ry
  exact ⟨i, j, rfl, rfl, q _ _ B H μ (Nxt.refl w) (hr B) h⟩
/-- two ints -/
def I2 (d1 d2 : DV) (k : Int → Int → Prop) : Prop := ∃ i j, d1 = .int i ∧ d2 = .int j ∧ k i j
theorem r2i0 {g : Int → Int → V} {g' : Int → Int → DV} {d1 d2 : DV} (hr : ∀ i j B, Rep X.K B (g i j) (g' i j)) (h : I2 d1 d2 fun i j => P (g' i j) μ) : R2D X (rI0 g) d1 d2 μ P := by
  obtain ⟨i, j, rfl, rfl, h⟩ := h
  exact r2_I0 (hr i j) h
theorem r2i {C : Int → Int → Prop} {g : Int → Int → V} {g' : Int → Int → DV} {d1 d2 : DV} (hr : ∀ i j B, Rep X.K B (g i j) (g' i j)) (h : I2 d1 d2 fun i j => C i j ∧ P (g' i j) μ) : R2D X (rI C g) d1 d2 μ P := by
  obtain ⟨i, j, rfl, rfl, hc, h⟩ := h
  exact r2_I hc (hr i j) h
theorem de_add (h : DE X Wd a γ μ fun d1 μ1 => DE X Wd b γ μ1 fun d2 μ2 => I2 d1 d2 fun i j => P (.int (i + j)) μ2) : DE X Wd (.BinOp a .Add b pos) γ μ P :=
  de_bin op_add (h.imp fun d μ1 h1 => h1.imp fun d2 μ2 h2 => r2i0 (g' := fun i j => .int (i + j)) (fun i j B => .int _) h2)
theorem de_sub (h : DE X Wd a γ μ fun d1 μ1 => DE X Wd b γ μ1 fun d2 μ2 => I2 d1 d2 fun i j => P (.int (i - j)) μ2) : DE X Wd (.BinOp a .Sub b pos) γ μ P :=
  de_bin op_sub (h.imp fun d μ1 h1 => h1.imp fun d2 μ2 h2 => r2i0 (g' := fun i j => .int (i - j)) (fun i j B => .int _) h2)
theorem de_mul (h : DE X Wd a γ μ fun d1 μ1 => DE X Wd b γ μ1 fun d2 μ2 => I2 d1 d2 fun i j => CMulW i j ∧ P (.int (i * j)) μ2) : DE X Wd (.BinOp a .Mult b pos) γ μ P :=
  de_bin op_mulW (h.imp fun d μ1 h1 => h1.imp fun d2 μ2 h2 => r2i (g' := fun i j => .int (i * j)) (fun i j B => .int _) h2)
theorem de_mod (h : DE X Wd a γ μ fun d1 μ1 => DE X Wd b γ μ1 fun d2 μ2 => I2 d1 d2 fun i j => 0 < j ∧ P (.int (i % j)) μ2) : DE X Wd (.BinOp a .Mod b pos) γ μ P :=
  de_bin op_mod (h.imp fun d μ1 h1 => h1.imp fun d2 μ2 h2 => r2i (g' := fun i j => .int (i % j)) (fun i j B => .int _) h2)
theorem de_fdiv (h : DE X Wd a γ μ fun d1 μ1 => DE X Wd b γ μ1 fun d2 μ2 => I2 d1 d2 fun i j => CDiv i j ∧ P (.int (i / j)) μ2) : DE X Wd (.BinOp a .FloorDiv b pos) γ μ P :=
  de_bin op_fdiv (h.imp fun d μ1 h1 => h1.imp fun d2 μ2 h2 => r2i (g' := fun i j => .int (i / j)) (fun i j B => .int _) h2)
theorem de_pow (h : DE X Wd a γ μ fun d1 μ1 => DE X Wd b γ μ1 fun d2 μ2 => I2 d1 d2 fun i j => CPow i j ∧ P (.int (i ^ j.toNat)) μ2) : DE X Wd (.BinOp a .Pow b pos) γ μ P :=
  de_bin op_pow (h.imp fun d μ1 h1 => h1.imp fun d2 μ2 h2 => r2i (g' := fun i j => .int (i ^ j.toNat)) (fun i j B => .int _) h2)
theorem de_neg (h : DE X Wd a γ μ fun d1 μ1 => ∃ i, d1 = .int i ∧ P (.int (-i)) μ1) : DE X Wd (.UnaryOp .USub a pos) γ μ P :=
  de_un un_neg (h.imp fun d μ1 ⟨i, e, h1⟩ => fun B H x w r Q q => by
    subst e; cases r
    exact ⟨i, rfl, q _ _ B H μ1 (Nxt.refl w) (.int _) h1⟩)
/-- texts -/
theorem de_addS (h : DE X Wd a γ μ fun d1 μ1 => DE X Wd b γ μ1 fun d2 μ2 => ∃ i j, d1 = .str i ∧ d2 = .str j ∧ i.length + j.length ≤ sizeLine ∧ P (.str (i ++ j)) μ2) : DE X Wd (.BinOp a .Add b pos) γ μ P :=
  de_bin op_add_str (h.imp fun d μ1 h1 => h1.imp fun d2 μ2 ⟨i, j, e1, e2, hl, h2⟩ => fun B H x y w rx ry Q q => by
    subst e1 e2; cases rx; cases ry
    exact ⟨i, j, rfl, rfl, hl, q _ _ B H μ2 (Nxt.refl w) (.str _) h2⟩)
theorem op_mulS : OpR X (binaryOp .Mult) (fun x y H Q => ∃ i n, x = .str i ∧ y = .int n ∧ PySem.MulOk i n ∧ Q (.str (Txt.mul i n)) H) := by
  intro pins s σ H x y v u Q I rx ry h
  obtain ⟨i, n, rfl, rfl, hk, q⟩ := h
  obtain ⟨t, rfl⟩ := rx
  obtain ⟨t', rfl⟩ := ry
  exact PySem.SB.mul hk fun t2 k => ⟨.str _, H, I.tok _, ⟨_, rfl⟩, q⟩
theorem mulOk_small {i : Str} {n : Int} (h0 : 1 < n) (h1 : n ≤ 1000) (h2 : i.length ≤ 10000) : PySem.MulOk i n := by
  have hm : i.length * n.toNat ≤ 10000 * 1000 := Nat.mul_le_mul h2 (by omega)
  refine ⟨?_, fun _ _ => ?_, fun _ _ => ?_⟩
  · rw [decide_eq_false (by omega), decide_eq_false (by omega)]; rfl
  · have : (2 ^ 63 - 1 : Int) / 1000 ≤ (2 ^ 63 - 1) / n := by
      refine (Int.le_ediv_iff_mul_le (by omega)).mpr ?_
      have : (2 ^ 63 - 1 : Int) / 1000 * n ≤ (2 ^ 63 - 1 : Int) / 1000 * 1000 := Int.mul_le_mul_of_nonneg_left h1 (by decide)
      exact Int.le_trans this (by decide)
    have h3 : (10000 : Int) ≤ (2 ^ 63 - 1 : Int) / 1000 := by decide
    omega
  · show decide (i.length * n.toNat > sizeLine) = false
    exact decide_eq_false (by have : (sizeLine : Nat) = 16777216 := rfl; omega)
theorem de_mulS (h : DE X Wd a γ μ fun d1 μ1 => DE X Wd b γ μ1 fun d2 μ2 => ∃ i n, d1 = .str i ∧ d2 = .int n ∧ (1 < n ∧ n ≤ 1000) ∧ i.length ≤ 10000 ∧ P (.str (Txt.mul i n)) μ2) : DE X Wd (.BinOp a .Mult b pos) γ μ P :=
  de_bin op_mulS (h.imp fun d μ1 h1 => h1.imp fun d2 μ2 ⟨i, j, e1, e2, hn, hl, h2⟩ => fun B H x y w rx ry Q q => by
    subst e1 e2; cases rx; cases ry
    exact ⟨i, j, rfl, rfl, mulOk_small hn.1 hn.2 hl, q _ _ B H μ2 (Nxt.refl w) (.str _) h2⟩)

/-! ### comparisons -/
theorem cmp_i0 {g : Int → Int → Bool} {d1 d2 : DV} (h : I2 d1 d2 fun i j => P (.bl (g i j)) μ) : R2D X (rI0 fun i j => .bl (g i j)) d1 d2 μ P := r2i0 (g' := fun i j => .bl (g i j)) (fun i j B => .bl _) h
/-- flat things: ints, bools, texts, None -/
def fl : DV → Option V
  | .non => some .non
  | .bl b => some (.bl b)
  | .int i => some (.int i)
  | .str x => some (.str x)
  | _ => none
theorem fl_rep {K : PySem.W.Frag} {B : Hp} {v x : V} {d : DV} (h : fl d = some v) (r : Rep K B x d) : x = v := by
  cases d <;> simp only [fl, Option.some.injEq, reduceCtorEq] at h
  all_goals (cases r; exact h)
theorem rep_fl {K : PySem.W.Frag} {B : Hp} {v : V} {d : DV} (h : fl d = some v) : Rep K B v d := by
  cases d <;> simp only [fl, Option.some.injEq, reduceCtorEq] at h <;> subst h
  · exact .non
  · exact .bl _
  · exact .int _
  · exact .str _
theorem r2_eq {d1 d2 : DV} {v1 v2 : V} (e1 : fl d1 = some v1) (e2 : fl d2 = some v2) (hs : scal v1 v2 = true) (h : P (.bl (decide (v1 = v2))) μ) : R2D X rEq d1 d2 μ P := fun B H x y w rx ry Q q => by
  rw [fl_rep e1 rx, fl_rep e2 ry]
  exact ⟨hs, q _ _ B H μ (Nxt.refl w) (.bl _) h⟩
theorem r2_ne {d1 d2 : DV} {v1 v2 : V} (e1 : fl d1 = some v1) (e2 : fl d2 = some v2) (hs : scal v1 v2 = true) (h : P (.bl (!decide (v1 = v2))) μ) : R2D X rNe d1 d2 μ P := fun B H x y w rx ry Q q => by
  rw [fl_rep e1 rx, fl_rep e2 ry]
  exact ⟨hs, q _ _ B H μ (Nxt.refl w) (.bl _) h⟩
theorem r2_isN {d1 d2 : DV} (e2 : d2 = .non) (h : P (.bl (match d1 with | .non => true | _ => false)) μ) : R2D X (fun x y H Q => y = .non ∧ Q (.bl (decide (x = .non))) H) d1 d2 μ P := fun B H x y w rx ry Q q => by
  subst e2; cases ry
  refine ⟨rfl, q _ _ B H μ (Nxt.refl w) (.bl _) ?_⟩
  cases rx <;> exact h
theorem r2_notN {d1 d2 : DV} (e2 : d2 = .non) (h : P (.bl (match d1 with | .non => false | _ => true)) μ) : R2D X (fun x y H Q => y = .non ∧ Q (.bl (!decide (x = .non))) H) d1 d2 μ P := fun B H x y w rx ry Q q => by
  subst e2; cases ry
  refine ⟨rfl, q _ _ B H μ (Nxt.refl w) (.bl _) ?_⟩
  cases rx <;> exact h

/-! ### tests -/
theorem dt_val {P : Bool → Mu → Prop} (he : ∀ whole, isTrue e X.env whole = (do let v ← whole; standAt e.pos; holding [v] (truthy v))) (h : DE X Wd e γ μ fun d μ' => ∃ k, d = .bl k ∧ P k μ') : DT X Wd e γ μ P := fun W σ B H S Q q =>
  wt_of (pt_val pe_w he) (h W σ B H S _ fun v d B' H' μ' n r ⟨k, e1, p⟩ => by
    subst e1; cases r
    exact ⟨k, rfl, q k B' H' μ' n p⟩)
theorem DT.imp {P P' : Bool → Mu → Prop} (h : DT X Wd e γ μ P) (hp : ∀ d μ', P d μ' → P' d μ') : DT X Wd e γ μ P' := fun W σ B H S Q q =>
  h W σ B H S Q fun d B' H' μ' n p => q d B' H' μ' n (hp d μ' p)
theorem dt_not {P : Bool → Mu → Prop} (h : DT X Wd e γ μ fun k μ' => P (!k) μ') : DT X Wd (.UnaryOp .Not e pos) γ μ P := fun W σ B H S Q q =>
  wt_of (pt_not pt_w) (h W σ B H S _ fun k B' H' μ' n p => q _ B' H' μ' n p)
/-- the chain of an 'and' -/
def DW (X : Cx) (Wd : XD) (e : Expr) (γ : Ga) (μ : Mu) (P : Bool → Mu → Prop) : Prop := ∀ (W : WX) (σ : L2.St) (B H : Hp), Sit X Wd W γ μ σ B H →
  ∀ Q : Bool → Hp → Prop, (∀ b B' H' μ', Nxt X.K B H μ B' H' μ' → P b μ' → Q b H') → ∃ t, PW X e t ∧ t σ H Q
theorem dt_w {P : Bool → Mu → Prop} (h : DW X Wd e γ μ P) : DT X Wd e γ μ P := fun W σ B H S Q q => by
  obtain ⟨t, p, h⟩ := h W σ B H S Q q
  exact wt_of p.pt h
def WW (X : Cx) (e : Expr) : TT := fun σ H Q => ∀ (whole : Sem Value) pins s, Inv X pins σ H s → wpAny (model X.prog X.w) X.A (isTrue e X.env whole) (TP X pins σ Q) X.xe s
theorem pw_w : PW X e (WW X e) := ⟨fun whole pins s _ _ _ I h => h whole pins s I⟩
theorem ww_of {t : TT} {σ : L2.St} {H : Hp} {Q : Bool → Hp → Prop} (p : PW X e t) (h : t σ H Q) : WW X e σ H Q := fun whole pins s I => p.run whole pins s σ H Q I h
def DWW (X : Cx) (Wd : XD) (e : Expr) (γ : Ga) (μ : Mu) (P : Bool → Mu → Prop) : Prop := ∀ (W : WX) (σ : L2.St) (B H : Hp), Sit X Wd W γ μ σ B H →
  ∀ Q : Bool → Hp → Prop, (∀ b B' H' μ', Nxt X.K B H μ B' H' μ' → P b μ' → Q b H') → WW X e σ H Q
theorem dt_ww {P : Bool → Mu → Prop} (h : DWW X Wd e γ μ P) : DT X Wd e γ μ P := fun W σ B H S Q q => wt_of pw_w.pt (h W σ B H S Q q)
theorem dw_and1 {P : Bool → Mu → Prop} (h : DT X Wd a γ μ P) : DWW X Wd (.BoolOp .And [a] pos) γ μ P := fun W σ B H S Q q => ww_of (pw_and1 pt_w) (h W σ B H S Q q)
theorem dw_or1 {P : Bool → Mu → Prop} (h : DT X Wd a γ μ P) : DWW X Wd (.BoolOp .Or [a] pos) γ μ P := fun W σ B H S Q q => ww_of (pw_or1 pt_w) (h W σ B H S Q q)
theorem dw_and {P : Bool → Mu → Prop} (h : DT X Wd a γ μ fun k μ' => (k = true → DWW X Wd (.BoolOp .And (b :: es) pos) γ μ' P) ∧ (k = false → P false μ')) : DWW X Wd (.BoolOp .And (a :: b :: es) pos) γ μ P := fun W σ B H S Q q =>
  ww_of (pw_and pt_w pw_w) (h W σ B H S _ fun k B' H' μ' n p => by
    cases k with
    | true => exact iteT (p.1 rfl W σ B' H' (S.next n) Q fun k B2 H2 μ2 n2 p2 => q k B2 H2 μ2 (n.trans n2) p2)
    | false => exact iteF (q false B' H' μ' n (p.2 rfl)))
theorem dw_or {P : Bool → Mu → Prop} (h : DT X Wd a γ μ fun k μ' => (k = false → DWW X Wd (.BoolOp .Or (b :: es) pos) γ μ' P) ∧ (k = true → P true μ')) : DWW X Wd (.BoolOp .Or (a :: b :: es) pos) γ μ P := fun W σ B H S Q q =>
  ww_of (pw_or pt_w pw_w) (h W σ B H S _ fun k B' H' μ' n p => by
    cases k with
    | false => exact iteF (p.1 rfl W σ B' H' (S.next n) Q fun k B2 H2 μ2 n2 p2 => q k B2 H2 μ2 (n.trans n2) p2)
    | true => exact iteT (q true B' H' μ' n (p.2 rfl)))
/-- and, or as values -/
theorem de_one {op : BoolOp} (h : DE X Wd a γ μ P) : DE X Wd (.BoolOp op [a] pos) γ μ P := fun W σ B H S Q q => we_of (pe_one pe_w) (h W σ B H S Q q)
theorem de_and (h : DE X Wd a γ μ fun d μ' => ∃ k, d = .bl k ∧ (k = true → DE X Wd (.BoolOp .And (b :: es) pos) γ μ' P) ∧ (k = false → P (.bl false) μ')) : DE X Wd (.BoolOp .And (a :: b :: es) pos) γ μ P := fun W σ B H S Q q =>
  we_of (pe_and pe_w pe_w) (h W σ B H S _ fun v d B' H' μ' n r ⟨k, e, p⟩ => by
    subst e; cases r
    cases k with
    | true => exact ⟨true, rfl, iteT (p.1 rfl W σ B' H' (S.next n) Q fun v d B2 H2 μ2 n2 r2 p2 => q v d B2 H2 μ2 (n.trans n2) r2 p2)⟩
    | false => exact ⟨false, rfl, iteF (q _ _ B' H' μ' n (.bl false) (p.2 rfl))⟩)
theorem de_or (h : DE X Wd a γ μ fun d μ' => ∃ k, d = .bl k ∧ (k = false → DE X Wd (.BoolOp .Or (b :: es) pos) γ μ' P) ∧ (k = true → P (.bl true) μ')) : DE X Wd (.BoolOp .Or (a :: b :: es) pos) γ μ P := fun W σ B H S Q q =>
  we_of (pe_or pe_w pe_w) (h W σ B H S _ fun v d B' H' μ' n r ⟨k, e, p⟩ => by
    subst e; cases r
    cases k with
    | false => exact ⟨false, rfl, iteF (p.1 rfl W σ B' H' (S.next n) Q fun v d B2 H2 μ2 n2 r2 p2 => q v d B2 H2 μ2 (n.trans n2) r2 p2)⟩
    | true => exact ⟨true, rfl, iteT (q _ _ B' H' μ' n (.bl true) (p.2 rfl))⟩)
theorem de_not (h : DE X Wd a γ μ fun d μ' => ∃ k, d = .bl k ∧ P (.bl (!k)) μ') : DE X Wd (.UnaryOp .Not a pos) γ μ P := fun W σ B H S Q q =>
  we_of (pe_not pe_w) (h W σ B H S _ fun v d B' H' μ' n r ⟨k, e, p⟩ => by
    subst e; cases r
    exact ⟨k, rfl, q _ _ B' H' μ' n (.bl _) p⟩)
theorem de_ifExp (h : DT X Wd c γ μ fun k μ' => (k = true → DE X Wd a γ μ' P) ∧ (k = false → DE X Wd b γ μ' P)) : DE X Wd (.IfExp c a b pos) γ μ P := fun W σ B H S Q q =>
  we_of (pe_ifExp pt_w pe_w pe_w) (h W σ B H S _ fun k B' H' μ' n p => by
    cases k with
    | true => exact iteT (p.1 rfl W σ B' H' (S.next n) Q fun v d B2 H2 μ2 n2 r2 p2 => q v d B2 H2 μ2 (n.trans n2) r2 p2)
    | false => exact iteF (p.2 rfl W σ B' H' (S.next n) Q fun v d B2 H2 μ2 n2 r2 p2 => q v d B2 H2 μ2 (n.trans n2) r2 p2))

/-! ### rows of expressions, displays -/
theorem da_nil {P : List DV → Mu → Prop} (h : P [] μ) : DA X Wd [] γ μ P := fun W σ B H S Q q => wa_of pa_nil (q [] [] B H μ (Nxt.refl S.wf) .nil h)
theorem da_cons {P : List DV → Mu → Prop} (hs : starEach (e :: es) X.env = (false, eval e X.env) :: starEach es X.env) (h : DE X Wd e γ μ fun d μ1 => DA X Wd es γ μ1 fun ds μ2 => P (d :: ds) μ2) : DA X Wd (e :: es) γ μ P := fun W σ B H S Q q =>
  wa_of (pa_cons pe_w pa_w hs) (h W σ B H S _ fun v d B1 H1 μ1 n1 r1 h1 => h1 W σ B1 H1 (S.next n1) _ fun vs ds B2 H2 μ2 n2 r2 p => q _ _ B2 H2 μ2 (n1.trans n2) (.cons (r1.to n2.s) r2) p)
/-- a new tuple, known exactly -/
def NewT (Q : VK) (H : Hp) (xs : List V) : Prop := ∀ (p : Addr) (o : Obj), H p = none → o.cls = .type "tuple" → o.dict = none → Q (.ref p) (upd H p (.frz o (.tup xs)))
theorem laidT {pins : List (Addr × Obj)} {σ : L2.St} {H : Hp} {s : Shared} {vs : List V} {us : List Value} {Q : VK} {k : Nat} (I : Inv X pins σ H s) (r : Vals vs us) (hz : vs.length ≤ sizeLine) (h : NewT Q H vs) :
    EP X pins σ Q (.ref s.heap.objs.size) { s with toks := k, heap := s.heap.push { cls := .type "tuple", data := .seq us.toArray } } :=
  ⟨.ref s.heap.objs.size, upd H s.heap.objs.size (.frz _ (.tup vs)), I.laid (fun b u q => Heap.get?_push_of_some _ q) (Nat.le_refl _) ⟨Heap.get?_push_size _ rfl, hz, us, r, IsTup.new _ _⟩, rfl, h _ _ (I.hok.fresh (Nat.le_refl _)) rfl rfl⟩
theorem newT_ok {K : PySem.W.Frag} {B H : Hp} {Q : VK} {vs : List V} {ds : List DV} (w : Wf K B H μ) (r : RepL K B vs ds) (q : ∀ v d B' H' μ', Nxt K B H μ B' H' μ' → Rep K B' v d → P d μ' → Q v H') (h : P (.tup ds) μ) : NewT Q H vs := fun p o hp hc hd => by
  have n := w.knowN (o := .frz o (.tup vs)) hp
  exact q _ _ _ _ μ n (.tup (.inl (.inr ⟨o, upd_same⟩)) (r.to n.s) fun _ => .inl ⟨o, _, upd_same, hc, hd⟩) h
theorem pe_tupX {k : Nat} {t : TA} (h : PA X es t) : PE X (.Tuple es k pos) (fun σ H Q => t σ H fun xs H1 => xs.length ≤ sizeLine ∧ NewT Q H1 xs) := by
  refine ⟨fun pins s σ H Q I hq => ?_⟩
  refine wpAny_Tuple_spliced (thn (h.run pos pins s σ H _ I hq) fun us s1 ⟨xs, H1, I1, r, z, q⟩ => ⟨by rw [← r.length]; exact z, ?_⟩)
  exact laidT (k := s1.toks) I1 r z q
theorem de_tup {k : Nat} (h : DA X Wd es γ μ fun ds μ1 => ds.length ≤ sizeLine ∧ P (.tup ds) μ1) : DE X Wd (.Tuple es k pos) γ μ P := fun W σ B H S Q q =>
  we_of (pe_tupX pa_w) (h W σ B H S _ fun vs ds B1 H1 μ1 n1 r1 ⟨hl, p⟩ => ⟨by rw [r1.length]; exact hl,
    newT_ok n1.w r1 (fun v d B2 H2 μ2 n2 r2 p2 => q v d B2 H2 μ2 (n1.trans n2) r2 p2) p⟩)
/-- a list that nobody changes -/
theorem de_lst (h : DA X Wd es γ μ fun ds μ1 => ds.length ≤ sizeLine ∧ P (.lst ds) μ1) : DE X Wd (.List es pos) γ μ P := fun W σ B H S Q q =>
  we_of (pe_lst pa_w) (h W σ B H S _ fun vs ds B1 H1 μ1 n1 r1 ⟨hl, p⟩ => ⟨by rw [r1.length]; exact hl, fun t ht => by
    have n2 := n1.w.knowN (o := .lst vs) ht
    exact q _ _ _ _ μ1 (n1.trans n2) (.lst upd_same (r1.to n2.s)) p⟩)
/-- a list that will be changed -/
theorem de_lstO (h : DA X Wd es γ μ fun ds μ1 => ds.length ≤ sizeLine ∧ ∀ a, μ1 a = none → P (.ref a) (upm μ1 a (.lst ds))) : DE X Wd (.List es pos) γ μ P := fun W σ B H S Q q =>
  we_of (pe_lst pa_w) (h W σ B H S _ fun vs ds B1 H1 μ1 n1 r1 ⟨hl, p⟩ => ⟨by rw [r1.length]; exact hl, fun t ht =>
    q _ _ B1 _ _ (n1.trans (n1.w.ownN (m := .lst ds) ht ⟨vs, upd_same, r1⟩)) (.ref t) (p t (n1.w.free ht).2)⟩)

/-! ### subscripts -/
theorem atI_rep {K : PySem.W.Frag} {B : Hp} {xs : List V} {ds : List DV} {i : Int} {d : DV} (r : RepL K B xs ds) (h : atI ds i = some d) : ∃ v, atI xs i = some v ∧ Rep K B v d := by
  unfold atI at h ⊢
  rw [r.length]
  cases e : ixN ds.length i with
  | none => rw [e] at h; cases h
  | some j => rw [e] at h; exact r.get h
theorem r2_ixT {ds : List DV} {i : Int} {d1 d2 : DV} (e1 : d1 = .tup ds) (e2 : d2 = .int i) (ha : atI ds i = some d) (h : P d μ) : R2D X (rIxT X.K) d1 d2 μ P := fun B H x y w rx ry Q q => by
  subst e1 e2; cases ry
  cases rx with
  | tup hs r =>
    obtain ⟨v, hv, rv⟩ := atI_rep r ha
    exact ⟨_, _, i, v, rfl, rfl, same_t w.sub hs, hv, q v d B H μ (Nxt.refl w) rv h⟩
theorem r2_ixL {ds : List DV} {i : Int} {d1 d2 : DV} (e1 : d1 = .lst ds) (e2 : d2 = .int i) (ha : atI ds i = some d) (h : P d μ) : R2D X (rIxL X.K) d1 d2 μ P := fun B H x y w rx ry Q q => by
  subst e1 e2; cases ry
  cases rx with
  | lst hs r =>
    obtain ⟨v, hv, rv⟩ := atI_rep r ha
    exact ⟨_, _, i, v, rfl, rfl, SqL.of (w.sub _ _ hs), hv, q v d B H μ (Nxt.refl w) rv h⟩
theorem r2_ixO {ds : List DV} {i : Int} {d1 d2 : DV} {a : Addr} (e1 : d1 = .ref a) (hm : μ a = some (.lst ds)) (e2 : d2 = .int i) (ha : atI ds i = some d) (h : P d μ) : R2D X (rIxL X.K) d1 d2 μ P := fun B H x y w rx ry Q q => by
  subst e1 e2; cases ry; cases rx
  obtain ⟨hb, xs, hx, r⟩ := w.ob a _ hm
  obtain ⟨v, hv, rv⟩ := atI_rep r ha
  exact ⟨_, _, i, v, rfl, rfl, SqL.of hx, hv, q v d B H μ (Nxt.refl w) rv h⟩
theorem de_ixT (hs : PlainIx b) (h : DE X Wd a γ μ fun d1 μ1 => DE X Wd b γ μ1 fun d2 μ2 => ∃ ds i d, d1 = .tup ds ∧ d2 = .int i ∧ atI ds i = some d ∧ P d μ2) : DE X Wd (.Subscript a b pos) γ μ P :=
  de_ix ix_tup hs (h.imp fun d1 μ1 h1 => h1.imp fun d2 μ2 ⟨ds, i, d, e1, e2, ha, p⟩ => r2_ixT e1 e2 ha p)
theorem de_ixL (hs : PlainIx b) (h : DE X Wd a γ μ fun d1 μ1 => DE X Wd b γ μ1 fun d2 μ2 => ∃ ds i d, d1 = .lst ds ∧ d2 = .int i ∧ atI ds i = some d ∧ P d μ2) : DE X Wd (.Subscript a b pos) γ μ P :=
  de_ix ix_list hs (h.imp fun d1 μ1 h1 => h1.imp fun d2 μ2 ⟨ds, i, d, e1, e2, ha, p⟩ => r2_ixL e1 e2 ha p)
theorem de_ixO (hs : PlainIx b) (h : DE X Wd a γ μ fun d1 μ1 => DE X Wd b γ μ1 fun d2 μ2 => ∃ t ds i d, d1 = .ref t ∧ μ2 t = some (.lst ds) ∧ d2 = .int i ∧ atI ds i = some d ∧ P d μ2) : DE X Wd (.Subscript a b pos) γ μ P :=
  de_ix ix_list hs (h.imp fun d1 μ1 h1 => h1.imp fun d2 μ2 ⟨t, ds, i, d, e1, hm, e2, ha, p⟩ => r2_ixO e1 hm e2 ha p)
theorem de_ixS (hs : PlainIx b) (h : DE X Wd a γ μ fun d1 μ1 => DE X Wd b γ μ1 fun d2 μ2 => ∃ z i c, d1 = .str z ∧ d2 = .int i ∧ z.length ≤ sizeLine ∧ atI z.cps.toList i = some c ∧ P (.str ⟨#[c]⟩) μ2) : DE X Wd (.Subscript a b pos) γ μ P :=
  de_ix ix_str hs (h.imp fun d1 μ1 h1 => h1.imp fun d2 μ2 ⟨z, i, c, e1, e2, hl, ha, p⟩ => fun B H x y w rx ry Q q => by
    subst e1 e2; cases rx; cases ry
    exact ⟨z, i, c, rfl, rfl, hl, ha, q _ _ B H μ2 (Nxt.refl w) (.str _) p⟩)

/-! ### slices -/
def DO (X : Cx) (Wd : XD) (o : Option Expr) (γ : Ga) (μ : Mu) (P : Option Int → Mu → Prop) : Prop := match o with
  | none => P none μ
  | some e => DE X Wd e γ μ fun d μ' => ∃ i, d = .int i ∧ P (some i) μ'
def WO (X : Cx) (o : Option Expr) : TO := match o with
  | none => tNoPart
  | some e => tPart (WE X e)
theorem po_w : ∀ {o : Option Expr}, PO X o (WO X o)
  | none => po_none
  | some e => po_some pe_w
theorem wo_of {o : Option Expr} {P : Option Int → Mu → Prop} {W : WX} {σ : L2.St} {B H : Hp} (h : DO X Wd o γ μ P) (S : Sit X Wd W γ μ σ B H) {Q : Option Int → Hp → Prop} (q : ∀ i B' H' μ', Nxt X.K B H μ B' H' μ' → P i μ' → Q i H') : WO X o σ H Q := by
  cases o with
  | none => exact q none B H μ (Nxt.refl S.wf) h
  | some e =>
    refine (show DE X Wd e γ μ _ from h) W σ B H S _ fun v d B' H' μ' n r hp => ?_
    obtain ⟨i, e1, p⟩ := hp
    subst e1; cases r
    exact ⟨i, rfl, q (some i) B' H' μ' n p⟩
theorem de_slice {r : V → Option Int → Option Int → Hp → VK → Prop} {lo hi : Option Expr} {p2 : Pos} (hr : SlR X r) (h : DE X Wd a γ μ fun d1 μ1 => DO X Wd lo γ μ1 fun i μ2 => DO X Wd hi γ μ2 fun j μ3 => R1D X (fun x H Q => r x i j H Q) d1 μ3 P) :
    DE X Wd (.Subscript a (.Slice lo hi none p2) pos) γ μ P := fun W σ B H S Q q =>
  we_of (pe_slice hr pe_w po_w po_w) (h W σ B H S _ fun x d1 B1 H1 μ1 n1 r1 h1 => wo_of h1 (S.next n1) fun i B2 H2 μ2 n2 h2 => wo_of h2 (S.next (n1.trans n2)) fun j B3 H3 μ3 n3 h3 =>
    h3 B3 H3 x n3.w (r1.to (n2.s.trans n3.s)) Q fun v d B4 H4 μ4 n4 r4 p => q v d B4 H4 μ4 ((n1.trans (n2.trans n3)).trans n4) r4 p)
def cutD (xs : List DV) (lo hi : Option Int) : List DV := (xs.drop (HT.sIx xs.length 0 lo)).take (HT.sIx xs.length xs.length hi - HT.sIx xs.length 0 lo)
theorem RepL.cut {K : PySem.W.Frag} {B : Hp} {xs : List V} {ds : List DV} (r : RepL K B xs ds) (lo hi : Option Int) : RepL K B (cutV xs lo hi) (cutD ds lo hi) := by
  unfold cutV cutD
  rw [r.length]
  exact (r.drop _).take _
theorem de_sliceS {lo hi : Option Expr} {p2 : Pos} (h : DE X Wd a γ μ fun d1 μ1 => DO X Wd lo γ μ1 fun i μ2 => DO X Wd hi γ μ2 fun j μ3 => ∃ z, d1 = .str z ∧ z.length ≤ sizeLine ∧ P (.str (cutS z i j)) μ3) :
    DE X Wd (.Subscript a (.Slice lo hi none p2) pos) γ μ P := by
  refine de_slice sl_str (h.imp fun d1 μ1 h1 => ?_)
  have g : ∀ {o : Option Expr} {γ : Ga} {μ : Mu} {P P' : Option Int → Mu → Prop}, DO X Wd o γ μ P → (∀ i μ, P i μ → P' i μ) → DO X Wd o γ μ P' := fun {o γ μ P P'} h hp => by
    cases o with
    | none => exact hp _ _ h
    | some e => exact DE.imp h fun d μ' ⟨i, e, p⟩ => ⟨i, e, hp _ _ p⟩
  refine g h1 fun i μ2 h2 => g h2 fun j μ3 ⟨z, e, hl, p⟩ => fun B H x w rx Q q => ?_
  subst e; cases rx
  exact ⟨z, rfl, hl, q _ _ B H μ3 (Nxt.refl w) (.str _) p⟩
theorem DO.imp {o : Option Expr} {P P' : Option Int → Mu → Prop} (h : DO X Wd o γ μ P) (hp : ∀ i μ, P i μ → P' i μ) : DO X Wd o γ μ P' := by
  cases o with
  | none => exact hp _ _ h
  | some e => exact DE.imp h fun d μ' ⟨i, e, p⟩ => ⟨i, e, hp _ _ p⟩
/-- a slice of a list: a new list that nobody changes -/
theorem de_sliceL {lo hi : Option Expr} {p2 : Pos} (h : DE X Wd a γ μ fun d1 μ1 => DO X Wd lo γ μ1 fun i μ2 => DO X Wd hi γ μ2 fun j μ3 => ∃ ds, (d1 = .lst ds ∨ d1 = .rol ds) ∧ P (.lst (cutD ds i j)) μ3) :
    DE X Wd (.Subscript a (.Slice lo hi none p2) pos) γ μ P := by
  refine de_slice sl_list (h.imp fun d1 μ1 h1 => h1.imp fun i μ2 h2 => h2.imp fun j μ3 ⟨ds, e, p⟩ => fun B H x w rx Q q => ?_)
  obtain ⟨a, xs, rfl, hs, r⟩ : ∃ a xs, x = .ref a ∧ SqL X.K H a xs ∧ RepL X.K B xs ds := by
    rcases e with rfl | rfl
    · cases rx with
      | lst hs r => exact ⟨_, _, rfl, SqL.of (w.sub _ _ hs), r⟩
    · cases rx with
      | rol hs r => exact ⟨_, _, rfl, (show Same B H from w.sub).seq hs, r⟩
  refine ⟨a, xs, rfl, hs, fun t ht => ?_⟩
  have n2 := w.knowN (o := .lst (cutV xs i j)) ht
  exact q _ _ _ _ μ3 n2 (.lst upd_same ((r.cut i j).to n2.s)) p
/-! ### statements -/
theorem dss_nil (h : D.nx γ μ) : DS X Wd [] γ μ D := fun W σ B H S E q => wss_of pss_nil (q.nx σ γ B H μ (Nxt.refl S.wf) S.st h)
theorem dss_cons (h : DS1 X Wd st γ μ { nx := fun γ' μ' => DS X Wd sts γ' μ' D, rt := D.rt, bk := D.bk, ct := D.ct }) : DS X Wd (st :: sts) γ μ D := fun W σ B H S E q =>
  wss_of (pss_cons ps_w pss_w) (h W σ B H S _ ⟨fun σ' γ' B' H' μ' n r p => p W σ' B' H' (S.nextS n r) E (q.to n), q.rt, q.bk, q.ct⟩)
theorem DS.imp {D' : DEnds} (h : DS X Wd sts γ μ D) (h1 : ∀ γ' μ', D.nx γ' μ' → D'.nx γ' μ') (h2 : ∀ d μ', D.rt d μ' → D'.rt d μ') (h3 : ∀ γ' μ', D.bk γ' μ' → D'.bk γ' μ') (h4 : ∀ γ' μ', D.ct γ' μ' → D'.ct γ' μ') : DS X Wd sts γ μ D' := fun W σ B H S E q =>
  h W σ B H S E ⟨fun σ' γ' B' H' μ' n r p => q.nx σ' γ' B' H' μ' n r (h1 _ _ p), fun v d B' H' μ' n r p => q.rt v d B' H' μ' n r (h2 _ _ p), fun σ' γ' B' H' μ' n r p => q.bk σ' γ' B' H' μ' n r (h3 _ _ p), fun σ' γ' B' H' μ' n r p => q.ct σ' γ' B' H' μ' n r (h4 _ _ p)⟩
theorem ds_pass (h : D.nx γ μ) : DS1 X Wd (.Pass pos) γ μ D := fun W σ B H S E q => ws_of ps_pass (q.nx σ γ B H μ (Nxt.refl S.wf) S.st h)
theorem ds_break (h : D.bk γ μ) : DS1 X Wd (.Break pos) γ μ D := fun W σ B H S E q => ws_of ps_break (q.bk σ γ B H μ (Nxt.refl S.wf) S.st h)
theorem ds_continue (h : D.ct γ μ) : DS1 X Wd (.Continue pos) γ μ D := fun W σ B H S E q => ws_of ps_continue (q.ct σ γ B H μ (Nxt.refl S.wf) S.st h)
theorem ds_doc {x : Str} {j : Nat} (h : D.nx γ μ) : DS1 X Wd (.Expr (.Constant (.str x) j pos) pos') γ μ D := fun W σ B H S E q => ws_of ps_doc (q.nx σ γ B H μ (Nxt.refl S.wf) S.st h)
theorem ds_expr (hs : swapsWith e none pos.line X.env = pure false) (h : DE X Wd e γ μ fun _ μ' => D.nx γ μ') : DS1 X Wd (.Expr e pos) γ μ D := fun W σ B H S E q =>
  ws_of (ps_expr pe_w hs) (h W σ B H S _ fun v d B' H' μ' n r p => q.nx σ γ B' H' μ' n (S.st.to n.s) p)
theorem ds_ret (h : DE X Wd e γ μ D.rt) : DS1 X Wd (.Return (some e) pos) γ μ D := fun W σ B H S E q =>
  ws_of (ps_ret pe_w) (h W σ B H S _ fun v d B' H' μ' n r p => q.rt v d B' H' μ' n r p)
theorem ds_retN (h : D.rt .non μ) : DS1 X Wd (.Return none pos) γ μ D := fun W σ B H S E q => ws_of ps_retN (q.rt .non .non B H μ (Nxt.refl S.wf) .non h)
theorem ds_if {s1 s2 : List Stmt} (h : DT X Wd c γ μ fun k μ' => if k = true then DS X Wd s1 γ μ' D else DS X Wd s2 γ μ' D) : DS1 X Wd (.If c s1 s2 pos) γ μ D := fun W σ B H S E q =>
  ws_of (ps_if pt_w pss_w pss_w) (h W σ B H S _ fun k B' H' μ' n p => by
    cases k with
    | true => exact iteT ((if_pos rfl).mp p W σ B' H' (S.next n) E (q.to n))
    | false => exact iteF ((if_neg Bool.false_ne_true).mp p W σ B' H' (S.next n) E (q.to n)))
theorem ds_never (h : False) : DS1 X Wd st γ μ D := h.elim
theorem ds_asg {tg : Expr} (hs : swapsWithSole [tg] e pos.line X.env = pure false) (hw : swappedStores [tg] e X.env = pure none) (h1 : (assignEach [tg] X.env).map (·.2) = [assign tg X.env]) (h : DE X Wd e γ μ fun d μ' => DG X Wd tg d γ μ' D.nx) : DS1 X Wd (.Assign [tg] e pos) γ μ D := fun W σ B H S E q =>
  ws_of (ps_asg pe_w pg_w hs hw h1) (h W σ B H S _ fun v d B' H' μ' n r ⟨_, p⟩ => p W σ B' H' v (S.next n) r _ fun σ' γ' B2 H2 μ2 n2 _ r2 m => q.nx σ' γ' B2 H2 μ2 (n.trans n2) r2 m)
/-- targets -/
theorem DG.of {vs : List Nat} {tg : Expr} {P : Ga → Mu → Prop} (h : DGo X Wd vs tg d γ μ P) : DG X Wd tg d γ μ P := ⟨vs, h⟩
theorem dg_name {i : Nat} {x : Str} {vs : List Nat} {P : Ga → Mu → Prop} (hN : X.N.Nodup) (hi : X.N[i]? = some x) (hx : Loc X.env.scope x) (hf : X.fn x = true ∨ X.env.scope.names.lookup x = some .local) (hv : i ∈ vs) (h : P (γ.set i (some d)) μ) : DGo X Wd vs (.Name x pos) d γ μ P := fun W σ B H v S r Q q =>
  wg_of (pg_name hN hi hx hf) (q _ _ B H μ (Nxt.refl S.wf) (Els.set hv) (S.st.set i r) h)
theorem dgs_nil {ds : List DV} {vs : List Nat} {P : Ga → Mu → Prop} (e : ds = []) (h : P γ μ) : DGso X Wd vs [] ds γ μ P := fun W σ B H v S r Q q => by
  subst e; cases r
  exact wgs_of pgs_nil ⟨rfl, q σ γ B H μ (Nxt.refl S.wf) Els.refl S.st h⟩
theorem dgs_cons {ds dr : List DV} {vs : List Nat} {P : Ga → Mu → Prop} (hs : (assignEach (e :: es) X.env).map (·.2) = assign e X.env :: (assignEach es X.env).map (·.2)) (e1 : ds = d :: dr) (h : DGo X Wd vs e d γ μ fun γ' μ' => DGso X Wd vs es dr γ' μ' P) : DGso X Wd vs (e :: es) ds γ μ P := fun W σ B H v S r Q q => by
  subst e1
  cases r with
  | cons r1 r2 =>
    exact wgs_of (pgs_cons pg_w pgs_w hs) ⟨_, _, rfl, h W σ B H _ S r1 _ fun σ' γ' B' H' μ' n el rs p => p W σ' B' H' _ (S.nextS n rs) (r2.to n.s) Q fun σ2 γ2 B2 H2 μ2 n2 el2 rs2 p2 => q σ2 γ2 B2 H2 μ2 (n.trans n2) (el.trans el2) rs2 p2⟩
theorem dg_tup {k n : Nat} {vs : List Nat} {P : Ga → Mu → Prop} {ds : List DV} (hc : X.calm = true) (hn : (assignEach es X.env).length = n) (hst : (assignEach es X.env).findIdx? (·.1) = none) (e1 : d = .tup ds) (hl : ds.length = n) (h : DGso X Wd vs es ds γ μ P) : DGo X Wd vs (.Tuple es k pos) d γ μ P := fun W σ B H v S r Q q => by
  subst e1
  cases r with
  | tup hs r => exact wg_of (pg_tup hc pgs_w hn hst) ⟨_, _, rfl, same_t S.wf.sub hs, by rw [r.length]; exact hl, h W σ B H _ S r Q q⟩
theorem DGo.imp {vs : List Nat} {tg : Expr} {P P' : Ga → Mu → Prop} (h : DGo X Wd vs tg d γ μ P) (hp : ∀ γ' μ', P γ' μ' → P' γ' μ') : DGo X Wd vs tg d γ μ P' := fun W σ B H v S r Q q =>
  h W σ B H v S r Q fun σ' γ' B' H' μ' n el rs p => q σ' γ' B' H' μ' n el rs (hp _ _ p)
end
end Sr

set_option Elab.async false
set_option linter.all false
set_option maxRecDepth 100000
set_option autoImplicit false
/-! Exceptions: what is asked of their classes; the suites of except clauses as trees. -/
namespace Sr
open PySem PySem.Spec PyProof.Rows L2
/-! ### the classes -/
/-- what is asked of an exception's class at C: the def of its __init__ at fI, its fields -/
def oexB (K : PySem.W.Frag) (C : Addr) : Bool := match K.lookup C with
  | some ⟨.type "type", _, .cls cd, sl⟩ => (match cd.mro, sl.toList with
    | .ref C' :: bm, [_, _, _, _, some (.builtin n), _] => C' == C && n == "ValueError.__new__" && !cd.hasDel && cd.hasDict && PySem.HandSPX.refsVE bm
    | _, _ => false)
  | _ => false
theorem oexB_ok {K : PySem.W.Frag} {C : Addr} (q : oexB K C = true) : ∃ nm qn N bs bm sn sub ab col dd k0 k1 k2 k3 k5, K.lookup C = some (excClassObj nm qn C N bs bm true sn sub ab col dd k0 k1 k2 k3 k5 "ValueError.__new__") ∧ PySem.HandSPX.refsVE bm = true := by
  unfold oexB at q
  split at q
  · rename_i dd cd sl ho
    split at q
    · rename_i C' bm k0 k1 k2 k3 n k5 hm hs
      simp only [Bool.and_eq_true, beq_iff_eq, Bool.not_eq_true'] at q
      obtain ⟨⟨⟨⟨rfl, rfl⟩, hdel⟩, hd⟩, ht⟩ := q
      obtain ⟨nm, bs, mro, ns, qn, hdd, sn, sub, ab, col, del⟩ := cd
      dsimp only at hm hdel hd
      subst hm hdel hd
      have hsl : sl = #[k0, k1, k2, k3, some (.builtin "ValueError.__new__"), k5] := by
        obtain ⟨l⟩ := sl
        simp only at hs
        rw [hs]
      subst hsl
      exact ⟨nm, qn, ns, bs, bm, sn, sub, ab, col, dd, k0, k1, k2, k3, k5, ho, ht⟩
    · cases q
  · cases q
def xcB (K : PySem.W.Frag) (C : Str) (fs : List Str) : Bool :=
  oexB K (He.ga K C) && (decide (PySem.W.findIn K (.ref (He.ga K C)) "__setattr__" = some (some (.builtin "object.__setattr__"))) && (decide (PySem.W.subIn K (.ref (He.ga K C)) (.type "BaseException") = some true) &&
  (decide (PySem.W.typeIn K (.ref (He.ga K C)) = some (.type "type")) && (PySem.W.keepIn K (.ref (He.ga K C)) && (decide (PySem.W.findIn K (.ref (He.ga K C)) "__init__" = some (some (.ref (He.fAd K (C, some "__init__"))))) &&
  (decide (PySem.W.typeIn K (.ref (He.fAd K (C, some "__init__"))) = some (.type "function")) && fs.all fun f => decide (PySem.W.findIn K (.ref (He.ga K C)) f = some none)))))))
structure Xc (K : PySem.W.Frag) (C : Str) (fs : List Str) : Prop where
  T : OexC K (He.ga K C)
  ini : PySem.W.findIn K (.ref (He.ga K C)) "__init__" = some (some (.ref (He.fAd K (C, some "__init__"))))
  tI : PySem.W.typeIn K (.ref (He.fAd K (C, some "__init__"))) = some (.type "function")
  no : ∀ f ∈ fs, PySem.W.findIn K (.ref (He.ga K C)) f = some none
theorem xcB_ok {K : PySem.W.Frag} {C : Str} {fs : List Str} (h : xcB K C fs = true) : Xc K C fs := by
  unfold xcB at h
  simp only [Bool.and_eq_true, decide_eq_true_eq, List.all_eq_true] at h
  obtain ⟨h1, h2, h3, h4, h5, h6, h7, h8⟩ := h
  exact ⟨⟨oexB_ok h1, h2, h3, h4, h5⟩, h6, h7, h8⟩
/-! ### __init__ -/
/-- what the def __init__ of an exception promises -/
def xSp (K : PySem.W.Frag) (C : Str) (fs : List Str) : Sp := fun vs H Q E => vs.length = fs.length + 1 ∧ ∃ (a : Addr) (ws : List V), vs = .ref a :: ws ∧ H a = some (exo a (He.ga K C) none) ∧
  ∀ (dx : Addr) (H2 : Hp), H dx = none → dx ≠ a → H2 a = some (exo a (He.ga K C) (some dx)) → H2 dx = some (exd dx (fs.zip ws).reverse) → (∀ b, b ≠ a → b ≠ dx → H2 b = H b) → Q .non H2
def XcAt (X : Cx) (C : Str) (fs : List Str) : Prop := ∃ (k : Nat) (fd : FuncData) (N : List Str), X.mg C = some (.ref (He.ga X.K C)) ∧ Xc X.K C fs ∧
  FnOk X.prog X.w X.K X.mg X.base (L2.CX X.prog X.w) k (He.fAd X.K (C, some "__init__")) fd N (xSp X.K C fs) ∧ Room (k + 1) X.A ∧ Binds X.K fd N []
/-- a class that isinstance is asked of -/
inductive Cl where
  | own (c : Str) | blt (n : String)
  deriving DecidableEq
def Cl.nm : Cl → Str
  | own c => c
  | blt n => n
def Cl.v (K : PySem.W.Frag) : Cl → V
  | own c => .ref (He.ga K c)
  | blt n => .ty n
def Cl.val (K : PySem.W.Frag) : Cl → Value
  | own c => .ref (He.ga K c)
  | blt n => .type n
theorem Cl.rel {K : PySem.W.Frag} {c : Cl} {u : Value} (h : RelV (c.v K) u) : u = c.val K := by cases c <;> exact h
def ClM (K : PySem.W.Frag) (mg : Str → Option Value) : Cl → Prop
  | .own c => mg c = some (.ref (He.ga K c))
  | .blt n => mg n = none ∧ bootBuiltins (n : Str) = some (.type n) ∧ (n : Str) ≠ "__name__"
abbrev ClAt (X : Cx) : Cl → Prop := ClM X.K X.mg
/-- what a caught exception's class must say -/
structure Xf (K : PySem.W.Frag) (C : Str) : Prop where
  f : XfC K (He.ga K C)
  c : ExcC K (He.ga K C)
def exB (K : PySem.W.Frag) (D : Addr) : Bool :=
  decide (PySem.W.findIn K (.ref D) "__getattribute__" = some (some (.builtin "BaseException.__getattribute__"))) && (decide (PySem.W.findIn K (.ref D) "__getattr__" = some none) && (decide (PySem.W.subIn K (.ref D) (.type "BaseException") = some true) && (PySem.W.hasDictIn K D &&
  (decide (PySem.W.findIn K (.ref D) "__class__" = some (some (.builtin "object.__class__"))) && (decide (PySem.W.specialIn K (.builtin "object.__class__") "__get__" = some (some (.builtin "getset_descriptor.__get__"))) && (decide (PySem.W.takesIn K (.builtin "object.__class__") = some true) && decide (PySem.W.mroIn K D (.type "object") = some true)))))))
theorem exB_ok {K : PySem.W.Frag} {D : Addr} (h : exB K D = true) : ExcC K D := by
  unfold exB at h
  simp only [Bool.and_eq_true, decide_eq_true_eq] at h
  obtain ⟨h1, h2, h3, h4, h5, h6, h7, h8⟩ := h
  exact ⟨h1, h2, h3, h4, h5, h6, h7, h8⟩
/-- all that is asked of an exception's class -/
def xeB (K : PySem.W.Frag) (C : Str) (fs : List Str) : Bool := xcB K C fs && (xfB K (He.ga K C) && exB K (He.ga K C))
theorem xeB_ok {K : PySem.W.Frag} {C : Str} {fs : List Str} (h : xeB K C fs = true) : Xc K C fs ∧ Xf K C := by
  unfold xeB at h
  simp only [Bool.and_eq_true] at h
  exact ⟨xcB_ok h.1, xfB_ok h.2.1, exB_ok h.2.2⟩
def xiB (K : PySem.W.Frag) (D : Str) (c : Cl) (b : Bool) : Bool := decide (PySem.W.kitOne K (.ref (He.ga K D)) (c.val K) = some b)
/-! ### suites -/
inductive XE1 where
  | fld (f : Str) | isa (cs : List Cl) (tup : Bool) (r : List (Str × Bool))
/-- what an item is, of an exception of that class with these fields -/
def XE1.d (cls : Str) (fs : List (Str × DV)) : XE1 → Option DV
  | fld f => fs.lookup f
  | isa _ _ r => (r.lookup cls).map DV.bl
def xds (cls : Str) (fs : List (Str × DV)) : List XE1 → Option (List DV)
  | [] => some []
  | x :: xs => match x.d cls fs, xds cls fs xs with
    | some d, some ds => some (d :: ds)
    | _, _ => none
inductive KCo where
  | non | bl (b : Bool) | str (x : Str)
def KCo.d : KCo → DV
  | non => .non
  | bl b => .bl b
  | str x => .str x
/-- a suite of one statement -/
inductive Sx where
  | asgC (i : Nat) (k : KCo) | retC (k : KCo) | asg (i : Nat) (x : XE1) | asgL (i : Nat) (xs : List XE1) | ret (x : XE1) | retL (xs : List XE1)
def Sx.its : Sx → List XE1
  | asgC _ _ => []
  | retC _ => []
  | asg _ x => [x]
  | asgL _ xs => xs
  | ret x => [x]
  | retL xs => xs
end Sr

set_option Elab.async false
set_option linter.all false
set_option maxRecDepth 100000
set_option autoImplicit false
/-! What operators and built-ins do to trees; the small language. -/
namespace Sr
open PySem PySem.Spec PyProof.Rows L2

/-- the items of a list that is read -/
def lc (μ : Mu) : DV → Option (List DV)
  | .lst xs => some xs
  | .ref a => match μ a with
    | some (.lst xs) => some xs
    | _ => none
  | _ => none
/-- a list or a tuple that is read -/
def sq (μ : Mu) : DV → Option (List DV)
  | .lst xs => some xs
  | .rol xs => some xs
  | .tup xs => some xs
  | .ref a => match μ a with
    | some (.lst xs) => some xs
    | _ => none
  | _ => none
/-- the rows of a dict that is read; an instance's class and fields -/
def dc (μ : Mu) : DV → Option (List (Str × DV))
  | .dic kvs => some kvs
  | .ref a => match μ a with
    | some (.dic kvs) => some kvs
    | _ => none
  | _ => none
def insAt (μ : Mu) : DV → Option (Str × List (Str × DV))
  | .ins C fs => some (C, fs)
  | .ref a => match μ a with
    | some (.ins C fs) => some (C, fs)
    | _ => none
  | _ => none
/-- a row put into a dict: in its place, or at the end; a field stored -/
def putA {α : Type} (xs : List (Str × α)) (k : Str) (v : α) : List (Str × α) :=
  if (xs.any fun q => decide (q.1 = k)) = true then xs.map (fun q => if q.1 = k then (q.1, v) else q) else xs ++ [(k, v)]
def putI {α : Type} (f : Str) (v : α) : List (Str × α) → List (Str × α)
  | [] => [(f, v)]
  | (g, x) :: r => if g = f then (g, v) :: r else (g, x) :: putI f v r
/-- a new list: one that is changed later (o), or one that never is -/
def newL (o : Bool) (xs : List DV) (μ : Mu) (P : DV → Mu → Prop) : Prop :=
  if o = true then ∀ a, μ a = none → P (.ref a) (upm μ a (.lst xs)) else P (.lst xs) μ

/-! ### data -/
mutual
def pyD : DV → PyData
  | .non => .none
  | .bl b => .bool b
  | .int i => .int i
  | .str x => .str x
  | .tup xs => .tuple (pyDs xs)
  | .lst xs => .list (pyDs xs)
  | .rol xs => .list (pyDs xs)
  | _ => .none
def pyDs : List DV → List PyData
  | [] => []
  | d :: ds => pyD d :: pyDs ds
end
mutual
/-- plain data: no object -/
def isD : DV → Bool
  | .non => true
  | .bl _ => true
  | .int _ => true
  | .str _ => true
  | .tup xs => isDs xs
  | .lst xs => isDs xs
  | .rol xs => isDs xs
  | _ => false
def isDs : List DV → Bool
  | [] => true
  | d :: ds => isD d && isDs ds
end
mutual
theorem dp_of {K : PySem.W.Frag} {B H : Hp} (sb : Same B H) : ∀ (d : DV) (v : V), Rep K B v d → isD d = true → Dp K H v (pyD d)
  | .non, _, h, _ => by cases h; exact .non
  | .bl b, _, h, _ => by cases h; exact .bl _
  | .int i, _, h, _ => by cases h; exact .int _
  | .str x, _, h, _ => by cases h; exact .str _
  | .tup xs, _, h, k => by
    cases h with
    | tup h1 h2 => exact .tup (same_t sb h1) (dps_of sb xs _ h2 k)
  | .lst xs, _, h, k => by
    cases h with
    | lst h1 h2 => exact .lst (SqL.of (sb _ _ h1)) (dps_of sb xs _ h2 k)
  | .rol xs, _, h, k => by
    cases h with
    | rol h1 h2 => exact .lst (sb.seq h1) (dps_of sb xs _ h2 k)
  | .ins C fs, _, h, k => by simp [isD] at k
  | .ref a, _, h, k => by simp [isD] at k
  | .ty n, _, h, k => by simp [isD] at k
theorem dps_of {K : PySem.W.Frag} {B H : Hp} (sb : Same B H) : ∀ (ds : List DV) (vs : List V), RepL K B vs ds → isDs ds = true → DpAll K H vs (pyDs ds)
  | [], _, h, _ => by cases h; exact .nil
  | d :: ds, _, h, k => by
    cases h with
    | cons h1 h2 =>
      simp only [isDs, Bool.and_eq_true] at k
      exact .cons (dp_of sb d _ h1 k.1) (dps_of sb ds _ h2 k.2)
end
/-- an owned list stands for its items -/
def dl (μ : Mu) : DV → DV
  | .ref a => match μ a with
    | some (.lst xs) => .lst xs
    | _ => .ref a
  | d => d
def okD (d : DV) : Prop := isD d = true ∧ (pyD d).canLay0 = true ∧ (pyD d).depth ≤ 150
def eqvD (d e : DV) : Bool := PyData.eqv (pyD d) (pyD e)

inductive O2 where
  | add (o : Bool) | sub | mul | fdiv | mod | pow | eq | ne | lt | le | gt | ge | isN | notN | inn | nin | ix | kin | knin | dix
inductive Bf where
  | len | abs | max2 | min2 | int | str | tuple | list (o : Bool) | sum | max | min | all | any | sortS (o : Bool)
inductive Bm where
  | append | extend | pop | popAt | insert | clear | reverse | join | split (o : Bool) | count | part | cntL

/-- one sign of a text -/
def sgn (c : Nat) : Str := ⟨#[c]⟩
/-- is the item there -/
def inD (d : DV) (xs : List DV) : Bool := xs.any fun x => eqvD x d
def isNon : DV → Bool
  | .non => true
  | _ => false

/-- may be looked for in a list -/
def okS (d : DV) : Prop := isD d = true ∧ SeqAt.shaped (pyD d) = true
/-- is it there, of trees -/
def inW (neg : Bool) (d e : DV) (μ : Mu) (P : DV → Mu → Prop) : Prop := ∃ xs, dl μ e = .lst xs ∧ okS d ∧ okS (.lst xs) ∧ P (.bl (if neg then !inD d xs else inD d xs)) μ
def o2W : O2 → DV → DV → Mu → (DV → Mu → Prop) → Prop
  | .add o, .int i, .int j, μ, P => P (.int (i + j)) μ
  | .add o, .str x, .str y, μ, P => x.length + y.length ≤ sizeLine ∧ P (.str (x ++ y)) μ
  | .add o, .tup xs, .tup ys, μ, P => xs.length + ys.length ≤ sizeLine ∧ P (.tup (xs ++ ys)) μ
  | .add o, d, e, μ, P => ∃ xs ys, lc μ d = some xs ∧ lc μ e = some ys ∧ xs.length + ys.length ≤ sizeLine ∧ newL o (xs ++ ys) μ P
  | .sub, .int i, .int j, μ, P => P (.int (i - j)) μ
  | .mul, .int i, .int j, μ, P => CMulW i j ∧ P (.int (i * j)) μ
  | .mul, .str x, .int n, μ, P => PySem.MulOk x n ∧ P (.str (Txt.mul x n)) μ
  | .fdiv, .int i, .int j, μ, P => CDivW i j ∧ P (.int (i / j)) μ
  | .mod, .int i, .int j, μ, P => 0 < j ∧ P (.int (i % j)) μ
  | .pow, .int i, .int j, μ, P => CPow i j ∧ P (.int (i ^ j.toNat)) μ
  | .eq, d, e, μ, P => okD (dl μ d) ∧ okD (dl μ e) ∧ P (.bl (eqvD (dl μ d) (dl μ e))) μ
  | .ne, d, e, μ, P => okD (dl μ d) ∧ okD (dl μ e) ∧ P (.bl (!eqvD (dl μ d) (dl μ e))) μ
  | .lt, .int i, .int j, μ, P => P (.bl (decide (i < j))) μ
  | .le, .int i, .int j, μ, P => P (.bl (decide (i ≤ j))) μ
  | .gt, .int i, .int j, μ, P => P (.bl (decide (j < i))) μ
  | .ge, .int i, .int j, μ, P => P (.bl (decide (j ≤ i))) μ
  | .isN, d, .non, μ, P => P (.bl (isNon d)) μ
  | .notN, d, .non, μ, P => P (.bl (!isNon d)) μ
  | .inn, .str x, .str y, μ, P => ∃ c, x = sgn c ∧ P (.bl (decide (c ∈ y.cps.toList))) μ
  | .inn, .non, e, μ, P => inW false .non e μ P
  | .inn, .tup ds, e, μ, P => inW false (.tup ds) e μ P
  | .inn, d, e, μ, P => ∃ xs, sq μ e = some xs ∧ isD d = true ∧ (fl d).isSome = true ∧ xs.all (fun x => (fl x).isSome) = true ∧ P (.bl (inD d xs)) μ
  | .nin, .str x, .str y, μ, P => ∃ c, x = sgn c ∧ P (.bl (!decide (c ∈ y.cps.toList))) μ
  | .nin, .non, e, μ, P => inW true .non e μ P
  | .nin, .tup ds, e, μ, P => inW true (.tup ds) e μ P
  | .nin, d, e, μ, P => ∃ xs, sq μ e = some xs ∧ isD d = true ∧ (fl d).isSome = true ∧ xs.all (fun x => (fl x).isSome) = true ∧ P (.bl (!inD d xs)) μ
  | .kin, .str x, e, μ, P => ∃ kvs, dc μ e = some kvs ∧ P (.bl (kvs.lookup x).isSome) μ
  | .knin, .str x, e, μ, P => ∃ kvs, dc μ e = some kvs ∧ P (.bl (!(kvs.lookup x).isSome)) μ
  | .dix, e, .str x, μ, P => ∃ kvs v, dc μ e = some kvs ∧ kvs.lookup x = some v ∧ P v μ
  | .ix, .str x, .int i, μ, P => x.length ≤ sizeLine ∧ ∃ c, atI x.cps.toList i = some c ∧ P (.str (sgn c)) μ
  | .ix, d, .int i, μ, P => ∃ xs x, sq μ d = some xs ∧ atI xs i = some x ∧ P x μ
  | _, _, _, _, _ => False

/-- a slice -/
def slW (o : Bool) : DV → Option Int → Option Int → Mu → (DV → Mu → Prop) → Prop
  | .str x, i, j, μ, P => x.length ≤ sizeLine ∧ P (.str (cutS x i j)) μ
  | .tup xs, i, j, μ, P => P (.tup (cutD xs i j)) μ
  | d, i, j, μ, P => ∃ xs, sq μ d = some xs ∧ newL o (cutD xs i j) μ P

def intsD : List DV → Option (List Int)
  | [] => some []
  | .int i :: ds => (intsD ds).map (i :: ·)
  | _ :: _ => none
def strsD : List DV → Option (List Str)
  | [] => some []
  | .str i :: ds => (strsD ds).map (i :: ·)
  | _ :: _ => none
def blsD : List DV → Option (List Bool)
  | [] => some []
  | .bl i :: ds => (blsD ds).map (i :: ·)
  | _ :: _ => none

def bfW : Bf → List DV → Mu → (DV → Mu → Prop) → Prop
  | .len, [.str x], μ, P => x.length ≤ sizeLine ∧ P (.int x.length) μ
  | .len, [d], μ, P => ∃ xs, sq μ d = some xs ∧ P (.int xs.length) μ
  | .abs, [.int i], μ, P => P (.int (if i < 0 then -i else i)) μ
  | .max2, [.int i, .int j], μ, P => P (.int (if j > i then j else i)) μ
  | .min2, [.int i, .int j], μ, P => P (.int (if j < i then j else i)) μ
  | .int, [.int i], μ, P => P (.int i) μ
  | .int, [.bl k], μ, P => P (.int (if k then 1 else 0)) μ
  | .int, [.str x], μ, P => ∃ n, PySem.intText? x = some n ∧ x.length ≤ 640 ∧ P (.int n) μ
  | .str, [.int i], μ, P => i.natAbs.log2 < 1920 ∧ P (.str (toString i)) μ
  | .tuple, [.tup xs], μ, P => P (.tup xs) μ
  | .tuple, [d], μ, P => ∃ xs, sq μ d = some xs ∧ P (.tup xs) μ
  | .list o, [d], μ, P => ∃ xs, sq μ d = some xs ∧ newL o xs μ P
  | .sum, [d], μ, P => ∃ xs ns, sq μ d = some xs ∧ intsD xs = some ns ∧ (∀ t, d ≠ .tup t) ∧ P (.int ns.sum) μ
  | .max, [d], μ, P => ∃ xs ns, sq μ d = some xs ∧ intsD xs = some ns ∧ (∀ t, d ≠ .tup t) ∧ 0 < ns.length ∧ ∀ m, m ∈ ns → (∀ y, y ∈ ns → y ≤ m) → P (.int m) μ
  | .min, [d], μ, P => ∃ xs ns, sq μ d = some xs ∧ intsD xs = some ns ∧ (∀ t, d ≠ .tup t) ∧ 0 < ns.length ∧ ∀ m, m ∈ ns → (∀ y, y ∈ ns → m ≤ y) → P (.int m) μ
  | .all, [d], μ, P => ∃ xs ns, sq μ d = some xs ∧ blsD xs = some ns ∧ (∀ t, d ≠ .tup t) ∧ P (.bl (ns.all id)) μ
  | .any, [d], μ, P => ∃ xs ns, sq μ d = some xs ∧ blsD xs = some ns ∧ (∀ t, d ≠ .tup t) ∧ P (.bl (ns.any id)) μ
  | .sortS o, [d], μ, P => ∃ xs ns, sq μ d = some xs ∧ strsD xs = some ns ∧ (∀ t, d ≠ .tup t) ∧ ns.length < 64 ∧ ∀ ys : List Str, ys.Perm ns → sortedS ys = true → newL o (ys.map DV.str) μ P
  | _, _, _, _ => False

/-- what a method changes -/
def mutW (d : DV) (μ : Mu) (k : Addr → List DV → Prop) : Prop := ∃ a xs, d = .ref a ∧ μ a = some (.lst xs) ∧ k a xs
def bmW : Bm → DV → List DV → Mu → (DV → Mu → Prop) → Prop
  | .append, d, [x], μ, P => mutW d μ fun a xs => xs.length < sizeLine ∧ P .non (upm μ a (.lst (xs ++ [x])))
  | .extend, d, [x], μ, P => mutW d μ fun a xs => ∃ ys, lc μ x = some ys ∧ xs.length + ys.length ≤ sizeLine ∧ P .non (upm μ a (.lst (xs ++ ys)))
  | .pop, d, [], μ, P => mutW d μ fun a xs => ∃ y, xs[xs.length - 1]? = some y ∧ P y (upm μ a (.lst xs.dropLast))
  | .popAt, d, [.int i], μ, P => mutW d μ fun a xs => -(2 ^ 63) ≤ i ∧ i < 2 ^ 63 ∧ ∃ k y, seqIndex? i xs.length = some k ∧ xs[k]? = some y ∧ P y (upm μ a (.lst (xs.eraseIdx k)))
  | .insert, d, [.int i, x], μ, P => mutW d μ fun a xs => xs.length < sizeLine ∧ 0 ≤ i ∧ i < 2 ^ 63 ∧ P .non (upm μ a (.lst (xs.take i.toNat ++ [x] ++ xs.drop i.toNat)))
  | .clear, d, [], μ, P => mutW d μ fun a xs => P .non (upm μ a (.lst []))
  | .reverse, d, [], μ, P => mutW d μ fun a xs => P .non (upm μ a (.lst xs.reverse))
  | .join, .str x, [d], μ, P => ∃ xs ns, sq μ d = some xs ∧ strsD xs = some ns ∧ (ns.map (·.length)).sum + ns.length * x.length ≤ 16777216 ∧ P (.str (Txt.join x ns)) μ
  | .split o, .str x, [.str y], μ, P => (y.length == 0) = false ∧ x.length + 2 ≤ sizeLine ∧ newL o ((Txt.split x y).map DV.str) μ P
  | .count, .str x, [.str y], μ, P => P (.int (Txt.count x y)) μ
  | .cntL, d, [e], μ, P => ∃ xs, sq μ d = some xs ∧ (∀ t, d ≠ .tup t) ∧ (fl e).isSome = true ∧ xs.all (fun x => (fl x).isSome) = true ∧ P (.int ((xs.countP fun x => eqvD x e : Nat) : Int)) μ
  | .part, .str x, [.str y], μ, P => (y.length == 0) = false ∧ x.length ≤ sizeLine ∧ P (.tup [.str (Txt.partition x y).1, .str (Txt.partition x y).2.1, .str (Txt.partition x y).2.2]) μ
  | _, _, _, _, _ => False

/-! ### the small language -/
mutual
inductive E where
  | var (i : Nat) | int (i : Int) | str (x : Str) | bl (b : Bool) | non | glob (g : Str)
  | op (o : O2) (a b : E) | neg (a : E) | not_ (a : E)
  | ite (c : T) (a b : E) | and_ (a b : E) | or_ (a b : E)
  | tup (as : Es) | lst (o : Bool) (as : Es)
  | sl (o : Bool) (a lo hi : E)
  | call (f : Str) (as : Es) | callk (f : Str) (kn : List Str) (pm : List Nat) (as ks : Es)
  | bf (f : Bf) (as : Es) | bm (m : Bm) (a : E) (as : Es) | isi (a : E) (t : String)
  | comp (o : Bool) (own : List Nat) (elt : E) (g : G) (it : It) (c : Ts)
  | comp2 (o : Bool) (own own1 : List Nat) (elt : E) (g : G) (it : It) (c : Ts) (g1 : G) (it1 : It) (c1 : Ts)
  | frz (a : E)
  | fs (as : Es)
  | tget (g : Str) (a : E) | calll (i : Nat) (fs : List Str) (as : Es)
  /-- a field; a method (its def's name told, too); an instance made, by places (globals for what is left out) or by keywords -/
  | fld (C : Str) (a : E) (f : Str) | meth (C m q : Str) (a : E) (as : Es)
  | mk (o : Bool) (C q : Str) (dg : List Str) (as : Es) | mkk (o : Bool) (C q : Str) (kn : List Str) (pm : List Nat) (as ks : Es)
  /-- dicts: {}, get, setdefault, a comprehension -/
  | tcnt (a b : E) | dnew | dg1 (a k : E) | dg2 (a k x : E) | dsd (a k x : E) | dcomp (own : List Nat) (k v : E) (g : G) (it : It) (c : Ts)
  | no
inductive Es where
  | nil
  | cons (a : E) (as : Es)
inductive T where
  | e (a : E) | tin (g : Str) (a : E) | cmp (o : O2) (a b : E) | not_ (a : T) | and_ (a b : T) | or_ (a b : T)
inductive Ts where
  | nil
  | one (a : T)
inductive It where
  | seq (a : E) | rng1 (a : E) | rng2 (a b : E) | enum (a : E) | zip (a b : E) | str (a : E)
inductive G where
  | var (i : Nat) | tup (gs : Gs) | ix (a b : E) | dix (a b : E)
inductive Gs where
  | nil
  | cons (g : G) (gs : Gs)
end
mutual
inductive S where
  | asg (g : G) (e : E) | par (g h : Nat) (a b : E) | aug (i : Nat) (o : O2) (e : E) | star (gs : Gs) (i : Nat) (hs : Gs) (o : Bool) (e : E)
  | expr (e : E) | ret (e : E) | ret0 | ite (c : T) (a b : Ss)
  | while_ (c : T) (b : Ss) | for_ (g : G) (it : It) (b : Ss)
  | pass | brk | cont | doc | never
  | setf (C : Str) (a : E) (f : Str) (e : E) | raise (C : Str) (fs : List Str) (as : Es)
  | try_ (b : Ss) (C : Str) (nm : Option Nat) (su : Sx) (tbl : List (Str × Bool))
inductive Ss where
  | nil
  | cons (s : S) (ss : Ss)
end
end Sr

set_option Elab.async false
set_option linter.all false
set_option maxRecDepth 100000
set_option autoImplicit false
/-! The operators of the small language are sound. -/
namespace Sr
open PySem PySem.Spec PyProof.Rows L2

/-- the weakest readings by values -/
def WO2 (X : Cx) (f : Value → Value → Sem Value) : R2 := fun x y H Q => ∀ pins s (σ : L2.St) v u, Inv X pins σ H s → RelV x v → RelV y u → wpAny (model X.prog X.w) X.A (f v u) (EP X pins σ Q) X.xe s
def WIx (X : Cx) : R2 := fun x y H Q => ∀ (value slice : Expr) pins s (σ : L2.St) v u, Inv X pins σ H s → RelV x v → RelV y u → subscripted slice false v u = operate [v, u] (getItem v u) → wpAny (model X.prog X.w) X.A (subscriptTail value slice v u) (EP X pins σ Q) X.xe s
def WCl (X : Cx) (f : Value) : List V → Hp → VK → Prop := fun xs H Q => ∀ pins s (σ : L2.St) us, Inv X pins σ H s → Vals xs us → wpAny (model X.prog X.w) X.A (call f us) (EP X pins σ Q) X.xe s
def WMt (X : Cx) (id : String) : V → List V → Hp → VK → Prop := fun x xs H Q => ∀ pins s (σ : L2.St) v us, Inv X pins σ H s → RelV x v → Vals xs us → wpAny (model X.prog X.w) X.A (call (.builtin id) (v :: us)) (EP X pins σ Q) X.xe s
def WSl (X : Cx) : V → Option Int → Option Int → Hp → VK → Prop := fun x lo hi H Q => ∀ pins s (σ : L2.St) v vl vu sl, Inv X pins σ H s → RelV x v → s.heap.IsSliceOf sl vl vu .none → IsPart vl lo → IsPart vu hi →
    ∃ T id, typeLookup (.type T) "__getitem__" = pure (some (.builtin id)) ∧ s.TypeIs v T ∧ wpAny (model X.prog X.w) X.A (getItem v (.ref sl)) (EP X pins σ Q) X.xe s
section
variable {X : Cx} {μ : Mu} {P : DV → Mu → Prop} {d1 d2 d : DV} {ds : List DV}
theorem opR_w {f : Value → Value → Sem Value} : OpR X f (WO2 X f) := fun pins s σ H x y v u Q I rx ry h => h pins s σ v u I rx ry
theorem ixR_w : IxR X (WIx X) := fun value slice pins s σ H x y v u Q I rx ry h => h value slice pins s σ v u I rx ry
theorem callR_w {f : Value} : CallR X f (WCl X f) := fun pins s σ H xs us Q I r h => h pins s σ us I r
theorem mtR_w {id : String} : MtR X id (WMt X id) := fun pins s σ H x xs v us Q I rx rs h => h pins s σ v us I rx rs
theorem slR_w : SlR X (WSl X) := fun pins s σ H x v vl vu lo hi sl Q I rx hs pl pu h => h pins s σ v vl vu sl I rx hs pl pu
theorem r2_of {f : Value → Value → Sem Value} {r : R2} (ho : OpR X f r) (h : R2D X r d1 d2 μ P) : R2D X (WO2 X f) d1 d2 μ P := fun B H x y w rx ry Q q pins s σ v u I rv ru => ho pins s σ H x y v u Q I rv ru (h B H x y w rx ry Q q)
theorem ix_of {r : R2} (ho : IxR X r) (h : R2D X r d1 d2 μ P) : R2D X (WIx X) d1 d2 μ P := fun B H x y w rx ry Q q value slice pins s σ v u I rv ru hs => ho value slice pins s σ H x y v u Q I rv ru (h B H x y w rx ry Q q) hs
theorem cl_of {f : Value} {r : List V → Hp → VK → Prop} (ho : CallR X f r) (h : RLD X r ds μ P) : RLD X (WCl X f) ds μ P := fun B H xs w rx Q q pins s σ us I rv => ho pins s σ H xs us Q I rv (h B H xs w rx Q q)
theorem mt_of {T : String} {id : String} {r : V → List V → Hp → VK → Prop} (ho : MtR X id r) (h : RMD X T r d ds μ P) : RMD X T (WMt X id) d ds μ P := fun B H x xs w rx rs Q q pins s σ v us I rv rvs => ho pins s σ H x xs v us Q I rv rvs (h B H x xs w rx rs Q q)
theorem sl_of {r : V → Option Int → Option Int → Hp → VK → Prop} {i j : Option Int} (ho : SlR X r) (h : R1D X (fun x H Q => r x i j H Q) d μ P) : R1D X (fun x H Q => WSl X x i j H Q) d μ P := fun B H x w rx Q q pins s σ v vl vu sl I rv hs pl pu => ho pins s σ H x v vl vu i j sl Q I rv hs pl pu (h B H x w rx Q q)

/-! ### lists -/
variable {K : PySem.W.Frag} {B H : Hp} {v : V} {xs : List DV}
/-- a list that is read stands in the heap -/
theorem lc_at (e : lc μ d = some xs) (w : Wf K B H μ) (r : Rep K B v d) : ∃ a vs, v = .ref a ∧ H a = some (.lst vs) ∧ RepL K B vs xs := by
  cases d with
  | lst ys =>
    cases e
    cases r with
    | lst h1 h2 => exact ⟨_, _, rfl, w.sub _ _ h1, h2⟩
  | ref a =>
    simp only [lc] at e
    split at e
    · rename_i ys hm
      cases e
      obtain ⟨_, vs, h1, h2⟩ := w.ob a _ hm
      cases r
      exact ⟨_, _, rfl, h1, h2⟩
    · cases e
  | _ => cases e
/-! ### dicts, instances -/
theorem keyD_val {α : Type} {xs : List (Str × V)} {x : Str} : valV (keyD xs) (.inr x : Key) = xs.lookup x := by
  induction xs with
  | nil => rfl
  | cons q xs ih =>
    show valV ((.inr q.1, q.2) :: keyD xs) (.inr x : Key) = _
    by_cases h : q.1 = x
    · rw [valV_pos (show ((.inr q.1, q.2) : Key × V).1 = .inr x by rw [h]), List.lookup_cons, show (x == q.1) = true from beq_iff_eq.mpr h.symm]
    · rw [valV_neg (show ¬ ((.inr q.1, q.2) : Key × V).1 = .inr x from fun z => h (Sum.inr.inj z)), ih, List.lookup_cons, show (x == q.1) = false from beq_eq_false_iff_ne.mpr fun z => h z.symm]
theorem keyD_put {xs : List (Str × V)} {x : Str} {v : V} : putK (keyD xs) (.inr x : Key) v = keyD (putA xs x v) := by
  have e1 : ((keyD xs).any fun kv => decide (kv.1 = (.inr x : Key))) = xs.any fun q => decide (q.1 = x) := by
    unfold keyD
    rw [List.any_map]
    congr 1
    funext q
    show decide ((.inr q.1 : Key) = .inr x) = decide (q.1 = x)
    by_cases h : q.1 = x
    · rw [h, decide_eq_true rfl, decide_eq_true rfl]
    · rw [decide_eq_false h, decide_eq_false fun z => h (Sum.inr.inj z)]
  unfold putK putA
  rw [e1]
  split
  · unfold keyD
    rw [List.map_map, List.map_map]
    apply List.map_congr_left
    intro q _
    show (if (.inr q.1 : Key) = .inr x then ((.inr q.1 : Key), v) else (.inr q.1, q.2)) = ((.inr (if q.1 = x then (q.1, v) else q).1 : Key), (if q.1 = x then (q.1, v) else q).2)
    by_cases h : q.1 = x
    · rw [if_pos h, if_pos (by rw [h])]
    · rw [if_neg h, if_neg fun z => h (Sum.inr.inj z)]
  · unfold keyD
    rw [List.map_append]
    rfl
theorem keyD_len {α : Type} {xs : List (Str × α)} : (keyD xs).length = xs.length := List.length_map _
theorem RepF.lookO {f : Str} : ∀ {vs : List (Str × V)} {ds : List (Str × DV)}, RepF K B vs ds → (vs.lookup f = none ∧ ds.lookup f = none) ∨ ∃ v d, vs.lookup f = some v ∧ ds.lookup f = some d ∧ Rep K B v d
  | [], _, h => by cases h; exact .inl ⟨rfl, rfl⟩
  | (g, v) :: vs, _, h => by
    cases h with
    | cons h1 h2 =>
      rw [List.lookup_cons, List.lookup_cons]
      cases e : f == g with
      | true => exact .inr ⟨_, _, rfl, rfl, h1⟩
      | false => exact RepF.lookO h2
theorem RepF.any {x : Str} : ∀ {vs : List (Str × V)} {ds : List (Str × DV)}, RepF K B vs ds → (vs.any fun q => decide (q.1 = x)) = ds.any fun q => decide (q.1 = x)
  | [], _, h => by cases h; rfl
  | (g, v) :: vs, _, h => by
    cases h with
    | cons h1 h2 => rw [List.any_cons, List.any_cons, RepF.any h2]
theorem RepF.mapA {x : Str} {d : DV} (r : Rep K B v d) : ∀ {vs : List (Str × V)} {ds : List (Str × DV)}, RepF K B vs ds → RepF K B (vs.map fun q => if q.1 = x then (q.1, v) else q) (ds.map fun q => if q.1 = x then (q.1, d) else q)
  | [], _, h => by cases h; exact .nil
  | (g, u) :: vs, _, h => by
    cases h with
    | cons h1 h2 =>
      rw [List.map_cons, List.map_cons]
      by_cases e : g = x
      · rw [if_pos e, if_pos e]; exact .cons r (RepF.mapA r h2)
      · rw [if_neg e, if_neg e]; exact .cons h1 (RepF.mapA r h2)
theorem RepF.snoc {x : Str} {d : DV} (r : Rep K B v d) : ∀ {vs : List (Str × V)} {ds : List (Str × DV)}, RepF K B vs ds → RepF K B (vs ++ [(x, v)]) (ds ++ [(x, d)])
  | [], _, h => by cases h; exact .cons r .nil
  | (g, u) :: vs, _, h => by
    cases h with
    | cons h1 h2 => exact .cons h1 (RepF.snoc r h2)
theorem RepF.put {x : Str} {d : DV} (r : Rep K B v d) {vs : List (Str × V)} {ds : List (Str × DV)} (h : RepF K B vs ds) : RepF K B (putA vs x v) (putA ds x d) := by
  unfold putA
  rw [h.any]
  split
  · exact h.mapA r
  · exact h.snoc r
theorem RepF.putI {x : Str} {d : DV} (r : Rep K B v d) : ∀ {vs : List (Str × V)} {ds : List (Str × DV)}, RepF K B vs ds → RepF K B (putF x v vs) (Sr.putI x d ds)
  | [], _, h => by cases h; exact .cons r .nil
  | (g, u) :: vs, _, h => by
    cases h with
    | cons h1 h2 =>
      show RepF K B (if g = x then (g, v) :: vs else (g, u) :: putF x v vs) (if g = x then (g, d) :: _ else (g, _) :: Sr.putI x d _)
      by_cases e : g = x
      · rw [if_pos e, if_pos e]; exact .cons r h2
      · rw [if_neg e, if_neg e]; exact .cons h1 (RepF.putI r h2)
/-- a dict that is read stands in the heap -/
theorem dc_at {kvs : List (Str × DV)} (e : dc μ d = some kvs) (w : Wf K B H μ) (r : Rep K B v d) : ∃ a vs, v = .ref a ∧ H a = some (.dK (keyD vs)) ∧ RepF K B vs kvs := by
  cases d with
  | dic ys =>
    cases e
    cases r with
    | dic h1 h2 => exact ⟨_, _, rfl, w.sub _ _ h1, h2⟩
  | ref a =>
    simp only [dc] at e
    split at e
    · rename_i ys hm
      cases e
      obtain ⟨_, vs, h1, h2⟩ := w.ob a _ hm
      cases r
      exact ⟨_, _, rfl, h1, h2⟩
    · cases e
  | _ => cases e
theorem ins_at {C : Str} {fs : List (Str × DV)} (e : insAt μ d = some (C, fs)) (w : Wf K B H μ) (r : Rep K B v d) : ∃ a dx vs, v = .ref a ∧ H a = some (.ins (He.ga K C) dx vs) ∧ RepF K B vs fs := by
  cases d with
  | ins D ys =>
    cases e
    cases r with
    | ins h1 h2 => exact ⟨_, _, _, rfl, w.sub _ _ h1, h2⟩
  | ref a =>
    simp only [insAt] at e
    split at e
    · rename_i D ys hm
      cases e
      obtain ⟨_, dx, vs, h1, h2⟩ := w.ob a _ hm
      cases r
      exact ⟨_, _, _, rfl, h1, h2⟩
    · cases e
  | _ => cases e
/-- k in d, d[k] by values -/
theorem op_kin (hu : X.A.units + 1 < cLine) : OpR X (compareOp .In) (fun y x H Q => ∃ a o, x = .ref a ∧ DGet H a y o ∧ Q (.bl o.isSome) H) := by
  intro pins s σ H y x iv u Q I ry rx h
  obtain ⟨a, ov, ex, g, q⟩ := h
  subst ex
  obtain rfl : u = Value.ref a := rx
  exact d_in hu I g ry fun s3 I3 => ⟨.bl ov.isSome, H, I3, rfl, q⟩
theorem op_knin (hu : X.A.units + 1 < cLine) : OpR X (compareOp .NotIn) (fun y x H Q => ∃ a o, x = .ref a ∧ DGet H a y o ∧ Q (.bl (!o.isSome)) H) := by
  intro pins s σ H y x iv u Q I ry rx h
  obtain ⟨a, ov, ex, g, q⟩ := h
  subst ex
  obtain rfl : u = Value.ref a := rx
  exact d_notIn hu I g ry fun s3 I3 => ⟨.bl (!ov.isSome), H, I3, rfl, q⟩
theorem dget_of {a : Addr} {vs : List (Str × V)} {x : Str} (h : H a = some (.dK (keyD vs))) : DGet H a (.str x) (vs.lookup x) := by
  have := DGet.k (k := (.inr x : Key)) h
  rw [keyD_val (α := V)] at this
  exact this
theorem sq_at (e : sq μ d = some xs) (w : Wf K B H μ) (r : Rep K B v d) : ∃ a vs, v = .ref a ∧ RepL K B vs xs ∧ ((SqL K H a vs ∧ ∀ t, d ≠ .tup t) ∨ (SqT K H a vs ∧ d = .tup xs)) := by
  cases d with
  | lst ys =>
    cases e
    cases r with
    | lst h1 h2 => exact ⟨_, _, rfl, h2, .inl ⟨SqL.of (w.sub _ _ h1), fun t z => by cases z⟩⟩
  | rol ys =>
    cases e
    cases r with
    | rol h1 h2 => exact ⟨_, _, rfl, h2, .inl ⟨(show Same B H from w.sub).seq h1, fun t z => by cases z⟩⟩
  | tup ys =>
    cases e
    cases r with
    | tup h1 h2 => exact ⟨_, _, rfl, h2, .inr ⟨same_t w.sub h1, rfl⟩⟩
  | ref a =>
    simp only [sq] at e
    split at e
    · rename_i ys hm
      cases e
      obtain ⟨_, vs, h1, h2⟩ := w.ob a _ hm
      cases r
      exact ⟨_, _, rfl, h2, .inl ⟨SqL.of h1, fun t z => by cases z⟩⟩
    · cases e
  | _ => cases e
/-- a new list: known for ever, or changed later -/
theorem newL_ok {o : Bool} {a : Addr} {vs : List V} {μ0 : Mu} {B0 H0 : Hp} {Q : VK} (n : Nxt K B0 H0 μ0 B H μ) (h : newL o xs μ P) (ht : H a = none) (r : RepL K B vs xs)
    (q : ∀ v d B' H' μ', Nxt K B0 H0 μ0 B' H' μ' → Rep K B' v d → P d μ' → Q v H') : Q (.ref a) (upd H a (.lst vs)) := by
  unfold newL at h
  cases o with
  | true =>
    rw [if_pos rfl] at h
    exact q _ _ _ _ _ (n.trans (n.w.ownN (m := .lst xs) ht ⟨vs, upd_same, r⟩)) (.ref a) (h a (n.w.free ht).2)
  | false =>
    rw [if_neg Bool.false_ne_true] at h
    have n2 := n.w.knowN (o := .lst vs) ht
    exact q _ _ _ _ _ (n.trans n2) (.lst upd_same (r.to n2.s)) h
theorem dl_dp (w : Wf K B H μ) (r : Rep K B v d) (hd : isD (dl μ d) = true) : Dp K H v (pyD (dl μ d)) := by
  cases d with
  | ref a =>
    simp only [dl] at hd ⊢
    split at hd
    · rename_i ys hm
      obtain ⟨_, vs, h1, h2⟩ := w.ob a _ hm
      cases r
      try simp only [hm]
      exact .lst (SqL.of h1) (dps_of w.sub ys _ h2 hd)
    · simp [isD] at hd
  | _ => exact dp_of w.sub _ _ r hd
end

/-! ### equality -/
def rEqX (K : PySem.W.Frag) (neg : Bool) : R2 := fun x y H Q => ∃ d e, Dp K H x d ∧ Dp K H y e ∧ d.canLay0 = true ∧ e.canLay0 = true ∧ d.depth ≤ 150 ∧ Q (.bl (if neg then !PyData.eqv d e else PyData.eqv d e)) H
section
variable {X : Cx}
theorem op_eqX (hu : X.A.units + 160 < cLine) : OpR X (compareOp .Eq) (rEqX X.K false) := by
  intro pins s σ H x y v u Q I rx ry h
  obtain ⟨d, e, hd, he, sd, se, hdp, q⟩ := h
  obtain ⟨as, r1⟩ := Dp.reads I d x v hd rx
  obtain ⟨bs, r2⟩ := Dp.reads I e y u he ry
  exact SeqAt.compareEq_reads r1 r2 sd se (by have := Nat.min_le_left d.depth e.depth; omega) ⟨.bl _, H, I, rfl, q⟩
theorem op_neX (hu : X.A.units + 160 < cLine) : OpR X (compareOp .NotEq) (rEqX X.K true) := by
  intro pins s σ H x y v u Q I rx ry h
  obtain ⟨d, e, hd, he, sd, se, hdp, q⟩ := h
  obtain ⟨as, r1⟩ := Dp.reads I d x v hd rx
  obtain ⟨bs, r2⟩ := Dp.reads I e y u he ry
  exact SeqAt.compareNe_reads r1 r2 sd se (by have := Nat.min_le_left d.depth e.depth; omega) ⟨.bl _, H, I, rfl, q⟩
end

/-! ### flat things -/
theorem fl_flat {d : DV} {v : V} (h : fl d = some v) : flatV v = true := by
  cases d <;> simp only [fl, Option.some.injEq, reduceCtorEq] at h <;> subst h <;> rfl
theorem fl_eqv {d e : DV} {v u : V} (h : fl d = some v) (k : fl e = some u) : eqvD d e = eqV v u := by
  cases d <;> simp only [fl, Option.some.injEq, reduceCtorEq] at h <;> subst h <;>
    cases e <;> simp only [fl, Option.some.injEq, reduceCtorEq] at k <;> subst k <;> simp [eqvD, pyD, PyData.eqv, eqV]
theorem rep_flat {K : PySem.W.Frag} {B : Hp} {v : V} {d : DV} (r : Rep K B v d) (h : (fl d).isSome = true) : fl d = some v := by
  obtain ⟨u, e⟩ := Option.isSome_iff_exists.mp h
  rw [e, fl_rep e r]
theorem inD_V {K : PySem.W.Frag} {B : Hp} {x : V} {d : DV} (r : Rep K B x d) (h : (fl d).isSome = true) : ∀ {vs : List V} {xs : List DV}, RepL K B vs xs → xs.all (fun x => (fl x).isSome) = true → vs.all flatV = true ∧ inV x vs = inD d xs
  | [], _, .nil, _ => ⟨rfl, rfl⟩
  | v :: vs, _, .cons r1 r2, k => by
    simp only [List.all_cons, Bool.and_eq_true] at k
    obtain ⟨p, q⟩ := inD_V r h r2 k.2
    have e1 := rep_flat r1 k.1
    refine ⟨by rw [List.all_cons, fl_flat e1, p]; rfl, ?_⟩
    show (eqV v x || inV x vs) = (eqvD _ d || inD d _)
    rw [fl_eqv e1 (rep_flat r h), q]
section
variable {X : Cx} {μ : Mu} {P : DV → Mu → Prop} {d1 d2 : DV}
theorem rd_int {f : Value → Value → Sem Value} {C : Int → Int → Prop} {g : Int → Int → V} {i j : Int} {d : DV} (ho : OpR X f (rI C g)) (hc : C i j) (hr : ∀ B, Rep X.K B (g i j) d) (h : P d μ) : R2D X (WO2 X f) (.int i) (.int j) μ P :=
  r2_of ho (r2_I (g' := fun _ _ => d) hc hr h)
theorem rd_int0 {f : Value → Value → Sem Value} {g : Int → Int → V} {i j : Int} {d : DV} (ho : OpR X f (rI0 g)) (hr : ∀ B, Rep X.K B (g i j) d) (h : P d μ) : R2D X (WO2 X f) (.int i) (.int j) μ P :=
  r2_of ho (r2_I0 (g' := fun _ _ => d) hr h)
theorem cat_ok {o : Bool} (h : ∃ xs ys, lc μ d1 = some xs ∧ lc μ d2 = some ys ∧ xs.length + ys.length ≤ sizeLine ∧ newL o (xs ++ ys) μ P) : R2D X (WO2 X (binaryOp .Add)) d1 d2 μ P := by
  obtain ⟨xs, ys, e1, e2, hl, h⟩ := h
  refine r2_of op_cat fun B H x y w rx ry Q q => ?_
  obtain ⟨a, vs, rfl, h1, r1⟩ := lc_at e1 w rx
  obtain ⟨b, us, rfl, h2, r2⟩ := lc_at e2 w ry
  exact ⟨a, b, vs, us, rfl, rfl, h1, h2, by rw [r1.length, r2.length]; exact hl, fun p hp => newL_ok (Nxt.refl w) h hp (r1.app r2) q⟩
/-- t + u, known exactly -/
def rCatX (K : PySem.W.Frag) : R2 := fun x y H Q => ∃ a b xs ys, x = .ref a ∧ y = .ref b ∧ SqT K H a xs ∧ SqT K H b ys ∧ xs.length + ys.length ≤ sizeLine ∧
  (xs = [] → Q (.ref b) H) ∧ (xs ≠ [] → ys = [] → Q (.ref a) H) ∧ (xs ≠ [] → ys ≠ [] → NewT Q H (xs ++ ys))
theorem op_catX : OpR X (binaryOp .Add) (rCatX X.K) := by
  intro pins s σ H x y v u Q I rx ry h
  obtain ⟨a, b, xs, ys, rfl, rfl, ha, hb, hz, q0, q1, q2⟩ := h
  cases rx
  cases ry
  obtain ⟨its, r1, p1, _⟩ := I.tuple ha
  obtain ⟨its2, r2, p2, _⟩ := I.tuple hb
  by_cases hx : xs = []
  · subst hx
    cases r1
    exact cat_tup0 p1 p2 ⟨.ref b, H, I, rfl, q0 rfl⟩
  · refine HT.cat_tup p1 p2 (fun z => hx (r1.nil_iff.mp z)) (fun z => ⟨.ref a, H, I, rfl, q1 hx (r2.nil_iff.mp z)⟩) (fun z => ?_) (by rw [← r1.length, ← r2.length]; exact hz)
    exact laidT (k := s.toks) I (r1.append r2) (by rw [List.length_append]; exact hz) (q2 hx fun w => z (r2.nil_iff.mpr w))
theorem tcat_ok {xs ys : List DV} (hl : xs.length + ys.length ≤ sizeLine) (h : P (.tup (xs ++ ys)) μ) : R2D X (WO2 X (binaryOp .Add)) (.tup xs) (.tup ys) μ P := by
  refine r2_of op_catX fun B H x y w rx ry Q q => ?_
  cases rx with
  | tup s1 r1 e1 =>
    cases ry with
    | tup s2 r2 e2 =>
      refine ⟨_, _, _, _, rfl, rfl, same_t w.sub s1, same_t w.sub s2, by rw [r1.length, r2.length]; exact hl, fun e => ?_, fun _ e => ?_, fun _ _ => ?_⟩
      · subst e; cases r1
        exact q _ _ B H μ (Nxt.refl w) (.tup s2 r2 e2) h
      · subst e; cases r2
        rw [List.append_nil] at h
        exact q _ _ B H μ (Nxt.refl w) (.tup s1 r1 e1) h
      · exact newT_ok w (r1.app r2) q h
def binO : O2 → Option Operator
  | .add _ => some .Add
  | .sub => some .Sub
  | .mul => some .Mult
  | .fdiv => some .FloorDiv
  | .mod => some .Mod
  | .pow => some .Pow
  | _ => none
def cmpO : O2 → Option CmpOp
  | .eq => some .Eq
  | .ne => some .NotEq
  | .lt => some .Lt
  | .le => some .LtE
  | .gt => some .Gt
  | .ge => some .GtE
  | .isN => some .Is
  | .notN => some .IsNot
  | .inn => some .In
  | .nin => some .NotIn
  | .kin => some .In
  | .knin => some .NotIn
  | _ => none
theorem o2_bin {o : O2} {op : Operator} (e : binO o = some op) (h : o2W o d1 d2 μ P) : R2D X (WO2 X (binaryOp op)) d1 d2 μ P := by
  cases o <;> simp only [binO, Option.some.injEq, reduceCtorEq] at e <;> subst e
  case add o =>
    cases d1 <;> cases d2 <;> simp only [o2W] at h
    case int.int => exact rd_int0 op_add (fun B => .int _) h
    case str.str =>
      exact r2_of op_add_str fun B H x y w rx ry Q q => by
        cases rx; cases ry
        exact ⟨_, _, rfl, rfl, h.1, q _ _ B H μ (Nxt.refl w) (.str _) h.2⟩
    case tup.tup => exact tcat_ok h.1 h.2
    all_goals exact cat_ok h
  case sub =>
    cases d1 <;> cases d2 <;> simp only [o2W] at h
    exact rd_int0 op_sub (fun B => .int _) h
  case mul =>
    cases d1 <;> cases d2 <;> simp only [o2W] at h
    case int.int => exact rd_int op_mulW h.1 (fun B => .int _) h.2
    case str.int =>
      exact r2_of op_mulS fun B H x y w rx ry Q q => by
        cases rx; cases ry
        exact ⟨_, _, rfl, rfl, h.1, q _ _ B H μ (Nxt.refl w) (.str _) h.2⟩
  case fdiv =>
    cases d1 <;> cases d2 <;> simp only [o2W] at h
    exact rd_int op_fdivW h.1 (fun B => .int _) h.2
  case mod =>
    cases d1 <;> cases d2 <;> simp only [o2W] at h
    exact rd_int op_mod h.1 (fun B => .int _) h.2
  case pow =>
    cases d1 <;> cases d2 <;> simp only [o2W] at h
    exact rd_int op_pow h.1 (fun B => .int _) h.2
theorem flat_ok {op : CmpOp} {neg : Bool} (ho : OpR X (compareOp op) (rIn X.K neg)) (h : ∃ xs, sq μ d2 = some xs ∧ isD d1 = true ∧ (fl d1).isSome = true ∧ xs.all (fun x => (fl x).isSome) = true ∧ P (.bl (if neg then !inD d1 xs else inD d1 xs)) μ) : R2D X (WO2 X (compareOp op)) d1 d2 μ P := by
  obtain ⟨xs, e, _, f, fa, p⟩ := h
  refine r2_of ho fun B H x y w rx ry Q q => ?_
  obtain ⟨a, vs, rfl, r, s⟩ := sq_at e w ry
  obtain ⟨f1, f2⟩ := inD_V rx f r fa
  refine ⟨a, vs, rfl, s.elim (fun z => .inl z.1) fun z => .inr z.1, fl_flat (rep_flat rx f), f1, q _ _ B H μ (Nxt.refl w) (.bl _) ?_⟩
  rw [f2]; exact p
theorem any_pys {d : DV} : ∀ {xs : List DV}, ((pyDs xs).any fun z => PyData.eqv z (pyD d)) = inD d xs
  | [] => rfl
  | x :: xs => by
    show (PyData.eqv (pyD x) (pyD d) || (pyDs xs).any fun z => PyData.eqv z (pyD d)) = (eqvD x d || inD d xs)
    rw [any_pys]; rfl
theorem deep_ok {neg : Bool} (hu : X.A.units + 160 < cLine) (h : inW neg d1 d2 μ P) : R2D X (WO2 X (compareOp (if neg then .NotIn else .In))) d1 d2 μ P := by
  obtain ⟨xs, e, s1, s2, p⟩ := h
  have k2 : ∀ {B H : Hp} {y : V}, Wf X.K B H μ → Rep X.K B y d2 → Dp X.K H y (.list (pyDs xs)) := fun {B H y} w ry => by
    have g := dl_dp w ry (show isD (dl μ d2) = true by rw [e]; exact s2.1)
    rw [e] at g
    exact g
  cases neg with
  | false => exact r2_of (op_inD (by omega)) fun B H x y w rx ry Q q => ⟨pyD d1, pyDs xs, dp_of w.sub _ _ rx s1.1, k2 w ry, s1.2, s2.2, by rw [any_pys]; exact q _ _ B H μ (Nxt.refl w) (.bl _) p⟩
  | true => exact r2_of (op_notInD (by omega)) fun B H x y w rx ry Q q => ⟨pyD d1, pyDs xs, dp_of w.sub _ _ rx s1.1, k2 w ry, s1.2, s2.2, by rw [any_pys]; exact q _ _ B H μ (Nxt.refl w) (.bl _) p⟩
theorem o2_cmp {o : O2} {op : CmpOp} (hu : X.A.units + 160 < cLine) (e : cmpO o = some op) (h : o2W o d1 d2 μ P) : R2D X (WO2 X (compareOp op)) d1 d2 μ P := by
  cases o <;> simp only [cmpO, Option.some.injEq, reduceCtorEq] at e <;> subst e
  case eq =>
    have h : okD (dl μ d1) ∧ okD (dl μ d2) ∧ P (.bl (eqvD (dl μ d1) (dl μ d2))) μ := by cases d1 <;> cases d2 <;> exact h
    exact r2_of (op_eqX hu) fun B H x y w rx ry Q q => ⟨_, _, dl_dp w rx h.1.1, dl_dp w ry h.2.1.1, h.1.2.1, h.2.1.2.1, h.1.2.2, q _ _ B H μ (Nxt.refl w) (.bl _) h.2.2⟩
  case ne =>
    have h : okD (dl μ d1) ∧ okD (dl μ d2) ∧ P (.bl (!eqvD (dl μ d1) (dl μ d2))) μ := by cases d1 <;> cases d2 <;> exact h
    exact r2_of (op_neX hu) fun B H x y w rx ry Q q => ⟨_, _, dl_dp w rx h.1.1, dl_dp w ry h.2.1.1, h.1.2.1, h.2.1.2.1, h.1.2.2, q _ _ B H μ (Nxt.refl w) (.bl _) h.2.2⟩
  case lt =>
    cases d1 <;> cases d2 <;> simp only [o2W] at h
    exact rd_int0 op_lt (fun B => .bl _) h
  case le =>
    cases d1 <;> cases d2 <;> simp only [o2W] at h
    exact rd_int0 op_le (fun B => .bl _) h
  case gt =>
    cases d1 <;> cases d2 <;> simp only [o2W] at h
    exact rd_int0 op_gt (fun B => .bl _) h
  case ge =>
    cases d1 <;> cases d2 <;> simp only [o2W] at h
    exact rd_int0 op_ge (fun B => .bl _) h
  case isN =>
    cases d2 <;> simp only [o2W] at h
    refine r2_of op_isN fun B H x y w rx ry Q q => ?_
    cases ry
    refine ⟨rfl, q _ _ B H μ (Nxt.refl w) (.bl _) ?_⟩
    cases rx <;> exact h
  case notN =>
    cases d2 <;> simp only [o2W] at h
    refine r2_of op_notN fun B H x y w rx ry Q q => ?_
    cases ry
    refine ⟨rfl, q _ _ B H μ (Nxt.refl w) (.bl _) ?_⟩
    cases rx <;> exact h
  case inn =>
    cases d1 <;> cases d2 <;> simp only [o2W] at h
    case str.str =>
      obtain ⟨c, rfl, p⟩ := h
      exact r2_of op_in_sign fun B H x y w rx ry Q q => by
        cases rx; cases ry
        exact ⟨c, _, rfl, rfl, q _ _ B H μ (Nxt.refl w) (.bl _) p⟩
    all_goals first | exact deep_ok (neg := false) hu h | exact flat_ok (neg := false) op_in_seq h
  case nin =>
    cases d1 <;> cases d2 <;> simp only [o2W] at h
    case str.str =>
      obtain ⟨c, rfl, p⟩ := h
      exact r2_of op_notIn_sign fun B H x y w rx ry Q q => by
        cases rx; cases ry
        exact ⟨c, _, rfl, rfl, q _ _ B H μ (Nxt.refl w) (.bl _) p⟩
    all_goals first | exact deep_ok (neg := true) hu h | exact flat_ok (neg := true) op_notIn_seq h
  case kin =>
    cases d1 <;> simp only [o2W] at h
    obtain ⟨kvs, e, p⟩ := h
    exact r2_of (op_kin (by omega)) fun B H x y w rx ry Q q => by
      cases rx
      obtain ⟨a, vs, rfl, hh, rf⟩ := dc_at e w ry
      refine ⟨a, _, rfl, dget_of hh, q _ _ B H μ (Nxt.refl w) (.bl _) ?_⟩
      rcases rf.lookO (f := _) with ⟨e1, e2⟩ | ⟨v, d, e1, e2, _⟩
      · rw [e1]; rw [e2] at p; exact p
      · rw [e1]; rw [e2] at p; exact p
  case knin =>
    cases d1 <;> simp only [o2W] at h
    obtain ⟨kvs, e, p⟩ := h
    exact r2_of (op_knin (by omega)) fun B H x y w rx ry Q q => by
      cases rx
      obtain ⟨a, vs, rfl, hh, rf⟩ := dc_at e w ry
      refine ⟨a, _, rfl, dget_of hh, q _ _ B H μ (Nxt.refl w) (.bl _) ?_⟩
      rcases rf.lookO (f := _) with ⟨e1, e2⟩ | ⟨v, d, e1, e2, _⟩
      · rw [e1]; rw [e2] at p; exact p
      · rw [e1]; rw [e2] at p; exact p
theorem o2_ix (h : o2W .ix d1 d2 μ P) : R2D X (WIx X) d1 d2 μ P := by
  have g : ∀ {i : Int} {d : DV}, (∃ xs x, sq μ d = some xs ∧ atI xs i = some x ∧ P x μ) → R2D X (WIx X) d (.int i) μ P := fun {i d} ⟨xs, x, e, ha, p⟩ => by
    refine ix_of (ix_list.or ix_tup) fun B H x y w rx ry Q q => ?_
    obtain ⟨a, vs, rfl, r, s⟩ := sq_at e w rx
    obtain ⟨v, hv, rv⟩ := atI_rep r ha
    cases ry
    rcases s with s | s
    · exact .inl ⟨a, vs, i, v, rfl, rfl, s.1, hv, q _ _ B H μ (Nxt.refl w) rv p⟩
    · exact .inr ⟨a, vs, i, v, rfl, rfl, s.1, hv, q _ _ B H μ (Nxt.refl w) rv p⟩
  cases d2 <;> cases d1 <;> simp only [o2W] at h
  case int.str =>
    obtain ⟨hl, c, ha, p⟩ := h
    exact ix_of ix_str fun B H x y w rx ry Q q => by
      cases rx; cases ry
      exact ⟨_, _, c, rfl, rfl, hl, ha, q _ _ B H μ (Nxt.refl w) (.str _) p⟩
  all_goals exact g h
end
end Sr

set_option Elab.async false
set_option linter.all false
set_option maxRecDepth 100000
set_option autoImplicit false
/-! Slices, built-ins, methods of the small language are sound. -/
namespace Sr
open PySem PySem.Spec PyProof.Rows L2

/-! ### types -/
def tyD (μ : Mu) : DV → Option String
  | .non => some "NoneType"
  | .bl _ => some "bool"
  | .int _ => some "int"
  | .str _ => some "str"
  | .tup _ => some "tuple"
  | .lst _ => some "list"
  | .rol _ => some "list"
  | .ref a => match μ a with
    | some (.lst _) => some "list"
    | _ => none
  | _ => none
/-- is a thing of type a of type b -/
def isT (a b : String) : Bool := a == b || (a == "bool" && b == "int")
theorem kit_isT : ∀ a ∈ ["NoneType", "bool", "int", "str", "tuple", "list"], ∀ b ∈ ["bool", "int", "str", "tuple", "list"], kitB a b = some (isT a b) := by decide +kernel
section
variable {X : Cx} {μ : Mu} {P : DV → Mu → Prop} {d d1 d2 : DV} {ds xs : List DV} {K : PySem.W.Frag} {B H : Hp} {v : V} {T : String}
theorem tyD_mem (h : tyD μ d = some T) : T ∈ ["NoneType", "bool", "int", "str", "tuple", "list"] := by
  cases d <;> simp only [tyD, Option.some.injEq, reduceCtorEq] at h
  case ref a =>
    split at h
    · cases h; decide
    · cases h
  all_goals (subst h; decide)
theorem tyx_sl {a : Addr} {vs : List V} (h : SqL K H a vs) : TyX K H (.ref a) (.type "list") := by
  rcases h with (h | ⟨o, h⟩) | ⟨o, n, its, h, e, _⟩
  · exact .base (.lst h)
  · exact .base (.frz h)
  · exact .kList h e
theorem tyx_st {a : Addr} {vs : List V} (h : SqT K H a vs) : TyX K H (.ref a) (.type "tuple") := by
  rcases h with (h | ⟨o, h⟩) | ⟨o, n, its, h, e, _⟩
  · exact .base (.tup h)
  · exact .fTuple h
  · exact .kTuple h e
theorem tyD_ok (h : tyD μ d = some T) (w : Wf K B H μ) (r : Rep K B v d) : TyX K H v (.type T) := by
  cases d <;> simp only [tyD, Option.some.injEq, reduceCtorEq] at h
  case non => subst h; cases r; exact .base .non
  case bl => subst h; cases r; exact .base (.bl _)
  case int => subst h; cases r; exact .base (.int _)
  case str => subst h; cases r; exact .base (.str _)
  case tup =>
    subst h
    cases r with
    | tup h1 h2 => exact tyx_st (same_t w.sub h1)
  case lst =>
    subst h
    cases r with
    | lst h1 h2 => exact .base (.lst (w.sub _ _ h1))
  case rol =>
    subst h
    cases r with
    | rol h1 h2 => exact tyx_sl ((show Same B H from w.sub).seq h1)
  case ref a =>
    split at h
    · rename_i ys hm
      cases h
      obtain ⟨_, vs, h1, h2⟩ := w.ob a _ hm
      cases r
      exact .base (.lst h1)
    · cases h
/-! ### slices -/
/-- t[lo:hi], known exactly -/
def rSlX (K : PySem.W.Frag) : V → Option Int → Option Int → Hp → VK → Prop := fun x lo hi H Q => ∃ a xs, x = .ref a ∧ SqT K H a xs ∧
  (HT.sIx xs.length 0 lo = 0 ∧ HT.sIx xs.length xs.length hi = xs.length → Q (.ref a) H) ∧ (¬ (HT.sIx xs.length 0 lo = 0 ∧ HT.sIx xs.length xs.length hi = xs.length) → NewT Q H (cutV xs lo hi))
theorem sl_tupX : SlR X (rSlX X.K) := by
  intro pins s σ H x v vl vu lo hi sl Q I rx hs pl pu h
  obtain ⟨a, xs, rfl, hx, q1, q2⟩ := h
  cases rx
  obtain ⟨its, r, ht, hz⟩ := I.tuple hx
  have hlen : its.toArray.size = xs.length := by rw [List.size_toArray]; exact r.length.symm
  refine ⟨"tuple", _, PyProof.Rows.slot_tuple_getitem.lookup, ht.typeIs, ?_⟩
  by_cases hw : HT.sIx xs.length 0 lo = 0 ∧ HT.sIx xs.length xs.length hi = xs.length
  · exact getItem_tuple_whole ht hs pl pu (by rw [hlen]; exact hw) ⟨.ref a, H, I, rfl, q1 hw⟩
  · refine HT.getItem_tuple_cut ht hs pl pu (by rw [hlen]; exact hw) ?_ (by rw [hlen]; exact hz)
    rw [hlen]
    exact laidT (k := s.toks) I ((r.drop (HT.sIx xs.length 0 lo)).take (HT.sIx xs.length xs.length hi - HT.sIx xs.length 0 lo)) (Nat.le_trans (cutV_length xs lo hi) hz) (q2 hw)
/-- tuple(x), known exactly -/
theorem call_tupleX : CallR X (.type "tuple") (fun xs H Q => ∃ p ys, xs = [.ref p] ∧ ((SqL X.K H p ys ∧ NewT Q H ys) ∨ (SqT X.K H p ys ∧ Q (.ref p) H))) := by
  intro pins s σ H xs us Q I r h
  obtain ⟨p, ys, rfl, h⟩ := h
  obtain ⟨u, rfl, rx⟩ := vals1 r
  cases rx
  rcases h with ⟨hq, q⟩ | ⟨hq, q⟩
  · obtain ⟨its, r', pl, hz⟩ := I.list hq
    have hlen := r'.length
    refine call_tuple_list pl.isList (fun h' kp => ?_) (by simp only [List.size_toArray] <;> omega)
    have I1 : Inv X pins σ H { s with heap := h' } := I.kept (t' := s.toks) kp
    exact laidT (k := s.toks) I1 r' hz q
  · obtain ⟨its, r', pl, hz⟩ := I.tuple hq
    exact call_tuple_same pl ⟨.ref p, H, I, rfl, q⟩
/-- x.partition(y), known exactly -/
theorem mt_partX : MtR X "str.partition" (fun x xs H Q => ∃ a b, x = .str a ∧ xs = [.str b] ∧ (b.length == 0) = false ∧ a.length ≤ sizeLine ∧
    NewT Q H [.str (Txt.partition a b).1, .str (Txt.partition a b).2.1, .str (Txt.partition a b).2.2]) := by
  intro pins s σ H x xs v us Q I rx rs h
  obtain ⟨a, b, rfl, rfl, hb, hz, h⟩ := h
  obtain ⟨t, rfl⟩ := rx
  cases rs with
  | cons r1 rs =>
    cases rs
    obtain ⟨u, rfl⟩ := r1
    have parts : ∀ {x y z : Str} {t u v : Tok} {k : Nat}, NewT Q H [.str x, .str y, .str z] → EP X pins σ Q (.ref s.heap.objs.size) { s with toks := k, heap := s.heap.push { cls := .type "tuple", data := .seq [Value.str x t, .str y u, .str z v].toArray } } :=
      fun h => laidT (vs := [.str _, .str _, .str _]) I (.cons ⟨_, rfl⟩ (.cons ⟨_, rfl⟩ (.cons ⟨_, rfl⟩ .nil))) (by show 3 ≤ sizeLine; decide) h
    refine call_meets PySem.F.slot_str_partition (typeIs_str _ _ _) PySem.F.entry_str_partition (PySem.F.args_str_partition_2 _ _) (meets_str_partition a b t u hb hz) ?_
    unfold Txt.partition at h
    revert h
    cases Builtin.Str.occurrences a b 0 a.length 1 with
    | nil => intro h; exact parts h
    | cons i r => intro h; exact parts h
theorem cutsL {o : Bool} {i j : Option Int} (h : ∃ xs, sq μ d = some xs ∧ (∀ t, d ≠ .tup t) ∧ newL o (cutD xs i j) μ P) : R1D X (fun x H Q => WSl X x i j H Q) d μ P := by
  obtain ⟨xs, e, ht, h⟩ := h
  refine sl_of sl_list fun B H x w rx Q q => ?_
  obtain ⟨a, vs, rfl, r, s⟩ := sq_at e w rx
  rcases s with s | s
  · exact ⟨a, vs, rfl, s.1, fun p hp => newL_ok (Nxt.refl w) h hp (r.cut i j) q⟩
  · exact absurd s.2 (ht _)
theorem cutD_all {xs : List DV} {i j : Option Int} (h : HT.sIx xs.length 0 i = 0 ∧ HT.sIx xs.length xs.length j = xs.length) : cutD xs i j = xs := by
  unfold cutD
  rw [h.1, h.2, List.drop_zero, Nat.sub_zero, List.take_length]
theorem sl_ok {o : Bool} {i j : Option Int} (h : slW o d i j μ P) : R1D X (fun x H Q => WSl X x i j H Q) d μ P := by
  cases d <;> simp only [slW] at h
  case str =>
    exact sl_of sl_str fun B H x w rx Q q => by
      cases rx
      exact ⟨_, rfl, h.1, q _ _ B H μ (Nxt.refl w) (.str _) h.2⟩
  case tup ys =>
    refine sl_of sl_tupX fun B H x w rx Q q => ?_
    cases rx with
    | tup hs r ex =>
      refine ⟨_, _, rfl, same_t w.sub hs, fun e => ?_, fun _ => ?_⟩
      · rw [r.length] at e
        rw [cutD_all e] at h
        exact q _ _ B H μ (Nxt.refl w) (.tup hs r ex) h
      · exact newT_ok w (r.cut i j) q h
  all_goals
    obtain ⟨xs, e, h⟩ := h
    exact cutsL ⟨xs, e, (fun t z => by cases z), h⟩
/-! ### built-ins by name -/
def bfV : Bf → Value
  | .len => .builtin "len"
  | .abs => .builtin "abs"
  | .max2 => .builtin "max"
  | .min2 => .builtin "min"
  | .int => .type "int"
  | .str => .type "str"
  | .tuple => .type "tuple"
  | .list _ => .type "list"
  | .sum => .builtin "sum"
  | .max => .builtin "max"
  | .min => .builtin "min"
  | .all => .builtin "all"
  | .any => .builtin "any"
  | .sortS _ => .builtin "sorted"
def bfN : Bf → Str
  | .len => "len"
  | .abs => "abs"
  | .max2 => "max"
  | .min2 => "min"
  | .int => "int"
  | .str => "str"
  | .tuple => "tuple"
  | .list _ => "list"
  | .sum => "sum"
  | .max => "max"
  | .min => "min"
  | .all => "all"
  | .any => "any"
  | .sortS _ => "sorted"
theorem repL_ints {B : Hp} : ∀ {xs : List DV} {ns : List Int} {vs : List V}, intsD xs = some ns → RepL K B vs xs → vs = ns.map V.int
  | [], ns, vs, h, r => by
    cases r
    simp [intsD] at h
    subst h; rfl
  | d :: xs, ns, vs, h, r => by
    cases r with
    | cons r1 r2 =>
      cases d <;> simp only [intsD, Option.map_eq_some_iff, reduceCtorEq] at h
      obtain ⟨ms, e, h⟩ := h
      subst h
      cases r1
      rw [List.map_cons, repL_ints (xs := xs) e r2]
theorem repL_strs {B : Hp} : ∀ {xs : List DV} {ns : List Str} {vs : List V}, strsD xs = some ns → RepL K B vs xs → vs = ns.map V.str
  | [], ns, vs, h, r => by
    cases r
    simp [strsD] at h
    subst h; rfl
  | d :: xs, ns, vs, h, r => by
    cases r with
    | cons r1 r2 =>
      cases d <;> simp only [strsD, Option.map_eq_some_iff, reduceCtorEq] at h
      obtain ⟨ms, e, h⟩ := h
      subst h
      cases r1
      rw [List.map_cons, repL_strs (xs := xs) e r2]
theorem repL_bls {B : Hp} : ∀ {xs : List DV} {ns : List Bool} {vs : List V}, blsD xs = some ns → RepL K B vs xs → vs = ns.map V.bl
  | [], ns, vs, h, r => by
    cases r
    simp [blsD] at h
    subst h; rfl
  | d :: xs, ns, vs, h, r => by
    cases r with
    | cons r1 r2 =>
      cases d <;> simp only [blsD, Option.map_eq_some_iff, reduceCtorEq] at h
      obtain ⟨ms, e, h⟩ := h
      subst h
      cases r1
      rw [List.map_cons, repL_bls (xs := xs) e r2]
theorem rl1 {r : V → Hp → VK → Prop} (h : R1D X r d μ P) : RLD X (fun xs H Q => ∃ x, xs = [x] ∧ r x H Q) [d] μ P := fun B H xs w rx Q q => by
  cases rx with
  | cons r1 r2 =>
    cases r2
    exact ⟨_, rfl, h B H _ w r1 Q q⟩
theorem rl_val {f : Value} {r : List V → Hp → VK → Prop} {e : DV} (ho : CallR X f r) (hr : ∀ (B H : Hp) (vs : List V) (Q : VK), Wf X.K B H μ → RepL X.K B vs ds → (∀ v, Rep X.K B v e → Q v H) → r vs H Q) (p : P e μ) : RLD X (WCl X f) ds μ P :=
  cl_of ho fun B H vs w rx Q q => hr B H vs Q w rx fun v rv => q v e B H μ (Nxt.refl w) rv p
theorem seqL (e : sq μ d = some xs) (ht : ∀ t, d ≠ .tup t) (w : Wf K B H μ) (r : Rep K B v d) : ∃ a vs, v = .ref a ∧ SqL K H a vs ∧ RepL K B vs xs := by
  obtain ⟨a, vs, rfl, r, s⟩ := sq_at e w r
  rcases s with s | s
  · exact ⟨a, vs, rfl, s.1, r⟩
  · exact absurd s.2 (ht _)
theorem bf_ok {f : Bf} (hc : X.calm = true) (h : bfW f ds μ P) : RLD X (WCl X (bfV f)) ds μ P := by
  have one : ∀ {g : Value} {d : DV}, R1D X (fun x H Q => WCl X g [x] H Q) d μ P → RLD X (WCl X g) [d] μ P := fun h B H vs w rx Q q => by
    cases rx with
    | cons r1 r2 =>
      cases r2
      exact h B H _ w r1 Q q
  match ds, h with
  | [], h2 => cases f <;> exact (show False from h2).elim
  | [d], h2 =>
    cases f
    case len =>
      have g : (∃ xs, sq μ d = some xs ∧ P (.int xs.length) μ) → RLD X (WCl X (.builtin "len")) [d] μ P := fun ⟨xs, e, p⟩ => by
        refine rl_val call_len_seq (fun B H vs Q w rx q => ?_) p
        cases rx with
        | cons r1 r2 =>
          cases r2
          obtain ⟨a, us, rfl, r, s⟩ := sq_at e w r1
          refine ⟨a, us, rfl, s.elim (fun z => .inl z.1) fun z => .inr z.1, ?_⟩
          rw [r.length]; exact q _ (.int _)
      cases d
      case str x =>
        have h : x.length ≤ sizeLine ∧ P (.int x.length) μ := h2
        exact rl_val call_len_str (fun B H vs Q w rx q => by
          cases rx with
          | cons r1 r2 =>
            cases r2; cases r1
            exact ⟨_, rfl, h.1, q _ (.int _)⟩) h.2
      all_goals exact g h2
    case abs =>
      cases d <;> try exact (show False from h2).elim
      exact rl_val call_abs (fun B H vs Q w rx q => by
        cases rx with
        | cons r1 r2 =>
          cases r2; cases r1
          exact ⟨_, rfl, q _ (.int _)⟩) h2
    case max2 => cases d <;> exact (show False from h2).elim
    case min2 => cases d <;> exact (show False from h2).elim
    case int =>
      cases d <;> try exact (show False from h2).elim
      case int =>
        exact rl_val call_int1 (fun B H vs Q w rx q => by
          cases rx with
          | cons r1 r2 =>
            cases r2; cases r1
            exact .inl ⟨_, rfl, q _ (.int _)⟩) h2
      case bl =>
        exact rl_val call_int1 (fun B H vs Q w rx q => by
          cases rx with
          | cons r1 r2 =>
            cases r2; cases r1
            exact .inr ⟨_, rfl, q _ (.int _)⟩) h2
      case str x =>
        obtain ⟨n, e, hl, p⟩ := (show ∃ n, PySem.intText? x = some n ∧ x.length ≤ 640 ∧ P (.int n) μ from h2)
        exact rl_val call_int_str (fun B H vs Q w rx q => by
          cases rx with
          | cons r1 r2 =>
            cases r2; cases r1
            exact ⟨_, _, rfl, e, hl, q _ (.int _)⟩) p
    case str =>
      cases d <;> try exact (show False from h2).elim
      have h : _ ∧ _ := h2
      exact rl_val call_str_int (fun B H vs Q w rx q => by
        cases rx with
        | cons r1 r2 =>
          cases r2; cases r1
          exact ⟨_, rfl, h.1, q _ (.str _)⟩) h.2
    case tuple =>
      have g : (∃ xs, sq μ d = some xs ∧ P (.tup xs) μ) → RLD X (WCl X (.type "tuple")) [d] μ P := fun ⟨xs, e, p⟩ => by
        refine cl_of call_tupleX fun B H vs w rx Q q => ?_
        cases rx with
        | cons r1 r2 =>
          cases r2
          obtain ⟨a, us, rfl, r, s⟩ := sq_at e w r1
          refine ⟨a, us, rfl, ?_⟩
          rcases s with s | s
          · exact .inl ⟨s.1, newT_ok w r q p⟩
          · refine .inr ⟨s.1, q _ _ B H μ (Nxt.refl w) ?_ p⟩
            rw [← s.2]; exact r1
      cases d
      case tup ys => exact g ⟨ys, rfl, h2⟩
      all_goals exact g h2
    case list o =>
      obtain ⟨xs, e, p⟩ := (show ∃ xs, sq μ d = some xs ∧ newL o xs μ P from by cases d <;> exact h2)
      refine cl_of call_list_of fun B H vs w rx Q q => ?_
      cases rx with
      | cons r1 r2 =>
        cases r2
        obtain ⟨a, us, rfl, r, s⟩ := sq_at e w r1
        exact ⟨a, us, rfl, s.elim (fun z => .inl z.1) fun z => .inr z.1, fun l hl => newL_ok (Nxt.refl w) p hl r q⟩
    case sum =>
      obtain ⟨xs, ns, e, hi, ht, p⟩ := (show ∃ xs ns, sq μ d = some xs ∧ intsD xs = some ns ∧ (∀ t, d ≠ .tup t) ∧ P (.int ns.sum) μ from by cases d <;> exact h2)
      refine rl_val (cr_sum hc) (fun B H vs Q w rx q => ?_) p
      cases rx with
      | cons r1 r2 =>
        cases r2
        obtain ⟨a, us, rfl, s, r⟩ := seqL e ht w r1
        rw [repL_ints hi r] at s
        exact ⟨a, ns, rfl, s, q _ (.int _)⟩
    case max =>
      obtain ⟨xs, ns, e, hi, ht, h0, p⟩ := (show ∃ xs ns, sq μ d = some xs ∧ intsD xs = some ns ∧ (∀ t, d ≠ .tup t) ∧ 0 < ns.length ∧ ∀ m, m ∈ ns → (∀ y, y ∈ ns → y ≤ m) → P (.int m) μ from by cases d <;> exact h2)
      refine cl_of (cr_max hc) fun B H vs w rx Q q => ?_
      cases rx with
      | cons r1 r2 =>
        cases r2
        obtain ⟨a, us, rfl, s, r⟩ := seqL e ht w r1
        rw [repL_ints hi r] at s
        exact ⟨a, ns, rfl, s, h0, fun m h1 h2 => q _ _ B H μ (Nxt.refl w) (.int _) (p m h1 h2)⟩
    case min =>
      obtain ⟨xs, ns, e, hi, ht, h0, p⟩ := (show ∃ xs ns, sq μ d = some xs ∧ intsD xs = some ns ∧ (∀ t, d ≠ .tup t) ∧ 0 < ns.length ∧ ∀ m, m ∈ ns → (∀ y, y ∈ ns → m ≤ y) → P (.int m) μ from by cases d <;> exact h2)
      refine cl_of (cr_min hc) fun B H vs w rx Q q => ?_
      cases rx with
      | cons r1 r2 =>
        cases r2
        obtain ⟨a, us, rfl, s, r⟩ := seqL e ht w r1
        rw [repL_ints hi r] at s
        exact ⟨a, ns, rfl, s, h0, fun m h1 h2 => q _ _ B H μ (Nxt.refl w) (.int _) (p m h1 h2)⟩
    case all =>
      obtain ⟨xs, ns, e, hi, ht, p⟩ := (show ∃ xs ns, sq μ d = some xs ∧ blsD xs = some ns ∧ (∀ t, d ≠ .tup t) ∧ P (.bl (ns.all id)) μ from by cases d <;> exact h2)
      refine rl_val (cr_all hc) (fun B H vs Q w rx q => ?_) p
      cases rx with
      | cons r1 r2 =>
        cases r2
        obtain ⟨a, us, rfl, s, r⟩ := seqL e ht w r1
        rw [repL_bls hi r] at s
        exact ⟨a, ns, rfl, s, q _ (.bl _)⟩
    case any =>
      obtain ⟨xs, ns, e, hi, ht, p⟩ := (show ∃ xs ns, sq μ d = some xs ∧ blsD xs = some ns ∧ (∀ t, d ≠ .tup t) ∧ P (.bl (ns.any id)) μ from by cases d <;> exact h2)
      refine rl_val (cr_any hc) (fun B H vs Q w rx q => ?_) p
      cases rx with
      | cons r1 r2 =>
        cases r2
        obtain ⟨a, us, rfl, s, r⟩ := seqL e ht w r1
        rw [repL_bls hi r] at s
        exact ⟨a, ns, rfl, s, q _ (.bl _)⟩
    case sortS o =>
      obtain ⟨xs, ns, e, hi, ht, h0, p⟩ := (show ∃ xs ns, sq μ d = some xs ∧ strsD xs = some ns ∧ (∀ t, d ≠ .tup t) ∧ ns.length < 64 ∧ ∀ ys : List Str, ys.Perm ns → sortedS ys = true → newL o (ys.map DV.str) μ P from by cases d <;> exact h2)
      refine cl_of cr_sortedS fun B H vs w rx Q q => ?_
      cases rx with
      | cons r1 r2 =>
        cases r2
        obtain ⟨a, us, rfl, s, r⟩ := seqL e ht w r1
        rw [repL_strs hi r] at s
        exact ⟨a, ns, rfl, s, h0, fun ys p1 h1 h2 h3 => newL_ok (Nxt.refl w) (p ys h1 h2) h3 (RepL.of_strs ys) q⟩
  | [d, e], h2 =>
    cases f <;> try first | exact (show False from h2).elim | (cases d <;> exact (show False from h2).elim)
    case max2 =>
      cases d <;> try exact (show False from h2).elim
      cases e <;> try exact (show False from h2).elim
      exact rl_val (call_max2 hc) (fun B H vs Q w rx q => by
        cases rx with
        | cons r1 r2 =>
          cases r2 with
          | cons r2 r3 =>
            cases r3; cases r1; cases r2
            exact ⟨_, _, rfl, q _ (.int _)⟩) h2
    case min2 =>
      cases d <;> try exact (show False from h2).elim
      cases e <;> try exact (show False from h2).elim
      exact rl_val (call_min2 hc) (fun B H vs Q w rx q => by
        cases rx with
        | cons r1 r2 =>
          cases r2 with
          | cons r2 r3 =>
            cases r3; cases r1; cases r2
            exact ⟨_, _, rfl, q _ (.int _)⟩) h2
  | a1 :: a2 :: a3 :: a4, h2 => cases f <;> first | exact (show False from h2).elim | (cases a1 <;> first | exact (show False from h2).elim | (cases a2 <;> exact (show False from h2).elim))

/-! ### methods -/
def bmT (m : Bm) (d : DV) (μ : Mu) : Prop := match m with
  | .join => ∃ x, d = .str x
  | .split _ => ∃ x, d = .str x
  | .count => ∃ x, d = .str x
  | .part => ∃ x, d = .str x
  | .cntL => (∃ xs, sq μ d = some xs) ∧ ∀ t, d ≠ .tup t
  | _ => ∃ a xs, d = .ref a ∧ μ a = some (.lst xs)
def bmTy : Bm → String
  | .join => "str"
  | .split _ => "str"
  | .count => "str"
  | .part => "str"
  | _ => "list"
def bmI : Bm → String
  | .append => "list.append"
  | .extend => "list.extend"
  | .pop => "list.pop"
  | .popAt => "list.pop"
  | .insert => "list.insert"
  | .clear => "list.clear"
  | .reverse => "list.reverse"
  | .join => "str.join"
  | .split _ => "str.split"
  | .count => "str.count"
  | .part => "str.partition"
  | .cntL => "list.count"
def bmN : Bm → Str
  | .append => "append"
  | .extend => "extend"
  | .pop => "pop"
  | .popAt => "pop"
  | .insert => "insert"
  | .clear => "clear"
  | .reverse => "reverse"
  | .join => "join"
  | .split _ => "split"
  | .count => "count"
  | .part => "partition"
  | .cntL => "count"
theorem bm_facts (m : Bm) : PlainAttrs (bmTy m) ∧ Slot (bmTy m) (bmN m) (bmI m) ∧ typeOf (.builtin (bmI m)) = pure (.type "method_descriptor") := by
  cases m
  case append => exact ⟨PySem.F.plainAttrs_list, PySem.F.slot_list_append, PySem.F.type_list_append⟩
  case extend => exact ⟨PySem.F.plainAttrs_list, PySem.F.slot_list_extend, PySem.F.type_list_extend⟩
  case pop => exact ⟨PySem.F.plainAttrs_list, PySem.F.slot_list_pop, PySem.F.type_list_pop⟩
  case popAt => exact ⟨PySem.F.plainAttrs_list, PySem.F.slot_list_pop, PySem.F.type_list_pop⟩
  case insert => exact ⟨PySem.F.plainAttrs_list, PySem.F.slot_list_insert, PySem.F.type_list_insert⟩
  case clear => exact ⟨PySem.F.plainAttrs_list, PySem.F.slot_list_clear, PySem.F.type_list_clear⟩
  case reverse => exact ⟨PySem.F.plainAttrs_list, PySem.F.slot_list_reverse, PySem.F.type_list_reverse⟩
  case join => exact ⟨PySem.F.plainAttrs_str, PySem.F.slot_str_join, PySem.F.type_str_join⟩
  case split => exact ⟨PySem.F.plainAttrs_str, PySem.F.slot_str_split, PySem.F.type_str_split⟩
  case count => exact ⟨PySem.F.plainAttrs_str, PySem.F.slot_str_count, PySem.F.type_str_count⟩
  case part => exact ⟨PySem.F.plainAttrs_str, PySem.F.slot_str_partition, PySem.F.type_str_partition⟩
  case cntL => exact ⟨PySem.F.plainAttrs_list, PySem.F.slot_list_count, PySem.F.type_list_count⟩
theorem bmT_ok {m : Bm} (h : bmT m d μ) (w : Wf K B H μ) (r : Rep K B v d) : tyV K (bmTy m) v H := by
  have g : (∃ a xs, d = .ref a ∧ μ a = some (.lst xs)) → tyV K "list" v H := fun ⟨a, xs, e, hm⟩ => by
    subst e; cases r
    obtain ⟨_, vs, h1, _⟩ := w.ob a _ hm
    exact .inl ⟨rfl, vs, SqL.of h1⟩
  have s : (∃ x, d = .str x) → tyV K "str" v H := fun ⟨x, e⟩ => by
    subst e; cases r; rfl
  have l : ((∃ xs, sq μ d = some xs) ∧ ∀ t, d ≠ .tup t) → tyV K "list" v H := fun ⟨⟨xs, e⟩, n⟩ => by
    obtain ⟨a, vs, rfl, _, s⟩ := sq_at e w r
    rcases s with s | s
    · exact .inl ⟨rfl, vs, s.1⟩
    · exact absurd s.2 (n _)
  cases m <;> first | exact g h | exact s h | exact l h
theorem mut_at {a : Addr} (h : μ a = some (.lst xs)) (w : Wf K B H μ) : ∃ vs, H a = some (.lst vs) ∧ RepL K B vs xs := (w.ob a _ h).2
theorem mut_to {a : Addr} {ys : List DV} {us : List V} {o : MO} (h : μ a = some o) (w : Wf K B H μ) (r : RepL K B us ys) : Nxt K B H μ B (upd H a (.lst us)) (upm μ a (.lst ys)) :=
  w.putN h (m' := .lst ys) ⟨us, upd_same, r⟩
theorem RepL.dropLast {vs : List V} (r : RepL K B vs xs) : RepL K B vs.dropLast xs.dropLast := by
  rw [List.dropLast_eq_take, List.dropLast_eq_take, r.length]; exact r.take _
theorem RepL.rev : ∀ {vs : List V} {xs : List DV}, RepL K B vs xs → RepL K B vs.reverse xs.reverse
  | [], _, r => by cases r; exact .nil
  | v :: vs, _, r => by
    cases r with
    | cons r1 r2 =>
      rw [List.reverse_cons, List.reverse_cons]
      exact r2.rev.app (.one r1)
theorem rm0 {m : Bm} {r : V → List V → Hp → VK → Prop} (ho : MtR X (bmI m) r) (h : ∀ (B H : Hp) (x : V) (Q : VK), Wf X.K B H μ → Rep X.K B x d → (∀ v e B' H' μ', Nxt X.K B H μ B' H' μ' → Rep X.K B' v e → P e μ' → Q v H') → r x [] H Q) : RMD X (bmTy m) (WMt X (bmI m)) d [] μ P :=
  mt_of ho fun B H x xs w rx rs Q q => by
    cases rs
    exact h B H x Q w rx q
theorem rm1 {m : Bm} {r : V → List V → Hp → VK → Prop} {e : DV} (ho : MtR X (bmI m) r) (h : ∀ (B H : Hp) (x y : V) (Q : VK), Wf X.K B H μ → Rep X.K B x d → Rep X.K B y e → (∀ v e B' H' μ', Nxt X.K B H μ B' H' μ' → Rep X.K B' v e → P e μ' → Q v H') → r x [y] H Q) : RMD X (bmTy m) (WMt X (bmI m)) d [e] μ P :=
  mt_of ho fun B H x xs w rx rs Q q => by
    cases rs with
    | cons r1 r2 =>
      cases r2
      exact h B H x _ Q w rx r1 q
/-- xs.count(x) of flat items -/
def rCntV (K : PySem.W.Frag) : V → List V → Hp → VK → Prop := fun x xs H Q => ∃ (p : Addr) (ns : List V) (k : V), x = .ref p ∧ xs = [k] ∧ SqL K H p ns ∧ flatV k = true ∧ ns.all flatV = true ∧ Q (.int (ns.countP fun z => eqV z k : Nat)) H
theorem count_eqU {x : V} : ∀ {xs : List V} {us : List Value}, Vals xs us → xs.all flatV = true → us.countP (eqU x) = xs.countP fun y => eqV y x
  | _, _, .nil, _ => rfl
  | y :: xs, u :: us, .cons r t, f => by
    rw [List.all_cons, Bool.and_eq_true] at f
    rw [List.countP_cons, List.countP_cons, eqU_of r f.1, count_eqU t f.2]
theorem mt_cntV : MtR X "list.count" (rCntV X.K) := by
  intro pins s σ H x xs v us Q I rx rxs h
  obtain ⟨p, ns, k, rfl, rfl, hs, fk, fs, q⟩ := h
  cases rx
  obtain ⟨u, rfl, ru⟩ := rxs.one
  obtain ⟨its, rv, ⟨⟨cls, dd, data, sl⟩, n, ho, hc, hdn, hd⟩, hlen⟩ := I.list hs
  simp only at hc hd
  subst hc hd
  refine call_meets PySem.F.slot_list_count ⟨_, ho, rfl⟩ PySem.F.entry_list_count (PySem.F.args_list_count_2 _ _)
    (SeqAt.list_countAt p its.toArray n dd sl u (eqU k)) ⟨ho, fun y hy => mem_eqAt ru fk rv fs y (by simpa using hy), ?_⟩
  refine ⟨.int (ns.countP fun z => eqV z k : Nat), H, I.tok _, ⟨s.toks, ?_⟩, q⟩
  show Value.int ((its.toArray.toList.countP (eqU k) : Nat) : Int) s.toks = Value.int ((ns.countP fun z => eqV z k : Nat) : Int) s.toks
  rw [show its.toArray.toList = its by simp, count_eqU rv fs]
theorem cntD_V {x : V} {d : DV} (r : Rep K B x d) (h : (fl d).isSome = true) : ∀ {vs : List V} {xs : List DV}, RepL K B vs xs → xs.all (fun x => (fl x).isSome) = true → vs.countP (fun z => eqV z x) = xs.countP fun z => eqvD z d
  | [], _, .nil, _ => rfl
  | v :: vs, _, .cons r1 r2, k => by
    simp only [List.all_cons, Bool.and_eq_true] at k
    rw [List.countP_cons, List.countP_cons, cntD_V r h r2 k.2, fl_eqv (rep_flat r1 k.1) (rep_flat r h)]
theorem bm_ok {m : Bm} (h : bmW m d ds μ P) : RMD X (bmTy m) (WMt X (bmI m)) d ds μ P := by
  match ds, h with
  | [], h2 =>
    cases m <;> try first | exact (show False from h2).elim | (cases d <;> exact (show False from h2).elim)
    case pop =>
      obtain ⟨a, xs, rfl, hm, y, hy, p⟩ := h2
      refine rm0 (m := .pop) mt_pop fun B H x Q w rx q => ?_
      cases rx
      obtain ⟨vs, h1, r⟩ := mut_at hm w
      obtain ⟨u, hu, ru⟩ := r.get hy
      exact ⟨a, vs, u, rfl, rfl, h1, by rw [r.length]; exact hu, q _ _ _ _ _ (mut_to hm w r.dropLast) ru p⟩
    case clear =>
      obtain ⟨a, xs, rfl, hm, p⟩ := h2
      refine rm0 (m := .clear) mt_clear fun B H x Q w rx q => ?_
      cases rx
      obtain ⟨vs, h1, r⟩ := mut_at hm w
      exact ⟨a, vs, rfl, rfl, h1, q _ _ _ _ _ (mut_to hm w .nil) .non p⟩
    case reverse =>
      obtain ⟨a, xs, rfl, hm, p⟩ := h2
      refine rm0 (m := .reverse) mt_reverse fun B H x Q w rx q => ?_
      cases rx
      obtain ⟨vs, h1, r⟩ := mut_at hm w
      exact ⟨a, vs, rfl, rfl, h1, q _ _ _ _ _ (mut_to hm w r.rev) .non p⟩
  | [e], h2 =>
    cases m <;> try first | exact (show False from h2).elim | (cases d <;> exact (show False from h2).elim) | (cases d <;> cases e <;> exact (show False from h2).elim)
    case append =>
      obtain ⟨a, xs, rfl, hm, hl, p⟩ := (show mutW d μ (fun a xs => xs.length < sizeLine ∧ P .non (upm μ a (.lst (xs ++ [e])))) from by cases e <;> exact h2)
      refine rm1 (m := .append) mt_append fun B H x y Q w rx ry q => ?_
      cases rx
      obtain ⟨vs, h1, r⟩ := mut_at hm w
      exact ⟨a, vs, y, rfl, rfl, h1, by rw [r.length]; exact hl, q _ _ _ _ _ (mut_to hm w (r.app (.one ry))) .non p⟩
    case extend =>
      obtain ⟨a, xs, rfl, hm, ys, hy, hl, p⟩ := (show mutW d μ (fun a xs => ∃ ys, lc μ e = some ys ∧ xs.length + ys.length ≤ sizeLine ∧ P .non (upm μ a (.lst (xs ++ ys)))) from by cases e <;> exact h2)
      refine rm1 (m := .extend) mt_extend fun B H x y Q w rx ry q => ?_
      cases rx
      obtain ⟨vs, h1, r⟩ := mut_at hm w
      obtain ⟨b, us, rfl, h3, r3⟩ := lc_at hy w ry
      exact ⟨a, b, vs, us, rfl, rfl, h1, h3, by rw [r.length, r3.length]; exact hl, q _ _ _ _ _ (mut_to hm w (r.app r3)) .non p⟩
    case popAt =>
      cases e <;> try exact (show False from h2).elim
      obtain ⟨a, xs, rfl, hm, l1, l2, k, y, hk, hy, p⟩ := h2
      refine rm1 (m := .popAt) mt_popAt fun B H x y Q w rx ry q => ?_
      cases rx; cases ry
      obtain ⟨vs, h1, r⟩ := mut_at hm w
      obtain ⟨u, hu, ru⟩ := r.get hy
      exact ⟨a, vs, _, k, u, rfl, rfl, h1, l1, l2, by rw [r.length]; exact hk, hu, q _ _ _ _ _ (mut_to hm w (r.eraseIdx k)) ru p⟩
    case join =>
      cases d <;> try exact (show False from h2).elim
      case str z =>
        obtain ⟨xs, ns, e1, e2, hl, p⟩ := (show ∃ xs ns, sq μ e = some xs ∧ strsD xs = some ns ∧ (ns.map (·.length)).sum + ns.length * z.length ≤ 16777216 ∧ P (.str (Txt.join z ns)) μ from by cases e <;> exact h2)
        refine rm1 (m := .join) mt_join fun B H x y Q w rx ry q => ?_
        cases rx
        obtain ⟨b, us, rfl, r, s⟩ := sq_at e1 w ry
        rw [repL_strs e2 r] at s
        exact ⟨z, b, ns, rfl, rfl, s.elim (fun z => .inl z.1) fun z => .inr z.1, hl, q _ _ _ _ _ (Nxt.refl w) (.str _) p⟩
    case split o =>
      cases d <;> try first | exact (show False from h2).elim | (cases e <;> exact (show False from h2).elim)
      cases e <;> try exact (show False from h2).elim
      obtain ⟨h3, h4, p⟩ := h2
      refine rm1 (m := .split o) mt_split fun B H x y Q w rx ry q => ?_
      cases rx; cases ry
      exact ⟨_, _, rfl, rfl, h3, h4, fun l hl => newL_ok (Nxt.refl w) p hl (RepL.of_strs _) q⟩
    case count =>
      cases d <;> try first | exact (show False from h2).elim | (cases e <;> exact (show False from h2).elim)
      cases e <;> try exact (show False from h2).elim
      refine rm1 (m := .count) mt_count fun B H x y Q w rx ry q => ?_
      cases rx; cases ry
      exact ⟨_, _, rfl, rfl, q _ _ _ _ _ (Nxt.refl w) (.int _) h2⟩
    case cntL =>
      obtain ⟨xs, e1, f0, f1, f2, p⟩ := (show ∃ xs, sq μ d = some xs ∧ (∀ t, d ≠ .tup t) ∧ (fl e).isSome = true ∧ xs.all (fun x => (fl x).isSome) = true ∧ P (.int ((xs.countP fun x => eqvD x e : Nat) : Int)) μ from by cases d <;> cases e <;> exact h2)
      refine rm1 (m := .cntL) mt_cntV fun B H x y Q w rx ry q => ?_
      obtain ⟨a, vs, rfl, r, s⟩ := sq_at e1 w rx
      rcases s with s | s
      · refine ⟨a, vs, y, rfl, rfl, s.1, fl_flat (rep_flat ry f1), (inD_V ry f1 r f2).1, ?_⟩
        rw [cntD_V ry f1 r f2]
        exact q _ _ _ _ _ (Nxt.refl w) (.int _) p
      · exact absurd s.2 (f0 _)
    case part =>
      cases d <;> try first | exact (show False from h2).elim | (cases e <;> exact (show False from h2).elim)
      cases e <;> try exact (show False from h2).elim
      rename_i z1 z2
      obtain ⟨h3, h4, p⟩ := h2
      refine rm1 (m := .part) mt_partX fun B H x y Q w rx ry q => ?_
      cases rx; cases ry
      exact ⟨_, _, rfl, rfl, h3, h4, newT_ok w (.cons (.str _) (.cons (.str _) (.cons (.str _) .nil))) q p⟩
  | [e, f], h2 =>
    cases m <;> try first | exact (show False from h2).elim | (cases d <;> exact (show False from h2).elim) | (cases e <;> exact (show False from h2).elim) | (cases d <;> cases e <;> exact (show False from h2).elim)
    case insert =>
      cases e <;> try exact (show False from h2).elim
      obtain ⟨a, xs, rfl, hm, hl, l1, l2, p⟩ := h2
      refine mt_of mt_insert fun B H x us w rx rs Q q => ?_
      cases rx
      cases rs with
      | cons r1 r2 =>
        cases r2 with
        | cons r2 r3 =>
          cases r3; cases r1
          obtain ⟨vs, h1, r⟩ := mut_at hm w
          exact ⟨a, vs, _, _, rfl, rfl, h1, by rw [r.length]; exact hl, l1, l2, q _ _ _ _ _ (mut_to hm w (((r.take _).app (.one r2)).app (r.drop _))) .non p⟩
  | a1 :: a2 :: a3 :: a4, h2 => cases m <;> first | exact (show False from h2).elim | (cases a1 <;> exact (show False from h2).elim) | (cases d <;> first | exact (show False from h2).elim | (cases a1 <;> exact (show False from h2).elim))
end
end Sr

set_option Elab.async false
set_option linter.all false
set_option maxRecDepth 100000
set_option autoImplicit false
/-! What is to be shown of a text of the small language; the check that a text of Python is that text. -/
namespace Sr
open PySem PySem.Spec PyProof.Rows L2

/-- what is wanted of an exception behind a call -/
abbrev XP := Str → List (Str × DV) → Mu → Prop
/-- what a def is worth: its arguments, the store, what is wanted of the answer, what of an exception -/
abbrev Spec := List DV → Mu → (DV → Mu → Prop) → XP → Prop
structure Cxt where
  fn : Str → Spec
  gv : Str → DV
def gs (γ : Ga) (i : Nat) : Option DV := match γ[i]? with
  | some o => o
  | none => none
def asB (P : Bool → Mu → Prop) : DV → Mu → Prop := fun d μ => match d with
  | .bl k => P k μ
  | _ => False
def asI (P : Int → Mu → Prop) : DV → Mu → Prop := fun d μ => match d with
  | .int k => P k μ
  | _ => False
/-- a bound of a slice -/
def slB (e : E) (P : Option Int → Mu → Prop) : DV → Mu → Prop := fun d μ => match e with
  | .no => P none μ
  | _ => asI (fun k μ => P (some k) μ) d μ
def compF {α : Type} (stay : Mu → Prop) (turn : DV → α → Mu → (α → Mu → Prop) → Prop) : List DV → α → Mu → (α → Mu → Prop) → Prop
  | [], acc, μ, k => stay μ ∧ k acc μ
  | d :: ds, acc, μ, k => stay μ ∧ turn d acc μ fun acc' μ' => compF stay turn ds acc' μ' k
def forF (stay : Mu → Prop) (turn : DV → Ga → Mu → DEnds → Prop) (D : DEnds) : List DV → Ga → Mu → Prop
  | [], γ, μ => stay μ ∧ D.nx γ μ
  | d :: ds, γ, μ => stay μ ∧ turn d γ μ { nx := fun γ' μ' => forF stay turn D ds γ' μ', rt := D.rt, bk := D.nx, ct := fun γ' μ' => forF stay turn D ds γ' μ' }
/-- o[i] = d -/
def setW (o i d : DV) (μ : Mu) (P : Mu → Prop) : Prop := ∃ a xs k j, o = .ref a ∧ μ a = some (.lst xs) ∧ i = .int k ∧ ixN xs.length k = some j ∧ P (upm μ a (.lst (xs.set j d)))
/-- a field that is changed no more -/
def frz1 : DV → Mu → (DV → Mu → Prop) → Prop
  | .ref r, μ, P => match μ r with
    | some (.lst ds) => P (.lst ds) (rem μ r)
    | some (.dic kvs) => P (.dic kvs) (rem μ r)
    | _ => False
  | d, μ, P => P d μ
def frzF : List (Str × DV) → Mu → (List (Str × DV) → Mu → Prop) → Prop
  | [], μ, P => P [] μ
  | (f, d) :: fs, μ, P => frz1 d μ fun d' μ1 => frzF fs μ1 fun fs' μ2 => P ((f, d') :: fs') μ2
def frzW (P : DV → Mu → Prop) : DV → Mu → Prop := fun d μ => match d with
  | .ref r => match μ r with
    | some (.lst ds) => P (.lst ds) (rem μ r)
    | some (.dic kvs) => P (.dic kvs) (rem μ r)
    | some (.ins C fs) => frzF fs μ fun fs' μ' => P (.ins C fs') (rem μ' r)
    | _ => False
  | _ => False
/-- an instance made: what is wanted behind __init__ -/
def madeW (o : Bool) (x : Addr) (P : DV → Mu → Prop) : DV → Mu → Prop := fun d μ => d = .non ∧ if o = true then P (.ref x) μ else frzW P (.ref x) μ
/-- d[k] = v -/
def setDW (o i d : DV) (μ : Mu) (P : Mu → Prop) : Prop := ∃ a kvs x, o = .ref a ∧ μ a = some (.dic kvs) ∧ i = .str x ∧ kvs.length < sizeLine ∧ P (upm μ a (.dic (putA kvs x d)))
/-- o.f = v -/
def setFW (C f : Str) (o d : DV) (μ : Mu) (P : Mu → Prop) : Prop := ∃ a fs, o = .ref a ∧ μ a = some (.ins C fs) ∧ fs.length < 1000 ∧ P (upm μ a (.ins C (putI f d fs)))
def dsdW (d e z : DV) (μ : Mu) (P : DV → Mu → Prop) : Prop := ∃ a kvs x, d = .ref a ∧ μ a = some (.dic kvs) ∧ e = .str x ∧ kvs.length < sizeLine ∧ match kvs.lookup x with
  | some v => P v μ
  | none => P z (upm μ a (.dic (putA kvs x z)))
def int62 (i : Int) : Prop := -(2 ^ 62) ≤ i ∧ i < 2 ^ 62
def rngD (i : Int) (n : Nat) : List DV := (List.range n).map fun (k : Nat) => DV.int (i + k)
def enumD : Nat → List DV → List DV
  | _, [] => []
  | i, d :: ds => .tup [.int i, d] :: enumD (i + 1) ds
def zipD : List DV → List DV → List DV
  | x :: xs, y :: ys => .tup [x, y] :: zipD xs ys
  | _, _ => []
def isStrD : DV → Bool
  | .str _ => true
  | _ => false
/-- not both rows have texts -/
def nozS (xs ys : List DV) : Bool := xs.all (fun d => !isStrD d) || ys.all fun d => !isStrD d
def isTupD : DV → Bool
  | .tup _ => true
  | _ => false
def strD (x : Str) : List DV := x.cps.toList.map fun c => .str (sgn c)
/-- x += e, by values -/
def augW : O2 → DV → DV → Mu → (DV → Mu → Prop) → Prop
  | .add _, .int i, .int j, μ, P => P (.int (i + j)) μ
  | .sub, .int i, .int j, μ, P => P (.int (i - j)) μ
  | .add _, .str x, .str y, μ, P => x.length + y.length ≤ sizeLine ∧ P (.str (x ++ y)) μ
  | _, _, _, _, _ => False
def Es.len : Es → Nat
  | .nil => 0
  | .cons _ as => as.len + 1
def Gs.len : Gs → Nat
  | .nil => 0
  | .cons _ as => as.len + 1
/-- what a star takes -/
def midD (n m : Nat) (xs : List DV) : List DV := (xs.drop n).take (xs.length - n - m)
/-- a table of defs, read -/
def tgetW : DV → DV → (Str → Prop) → Prop
  | .tab kvs, .str z, P => ∃ f, kvs.lookup z = some (some f) ∧ P f
  | _, _, _ => False
def tinW : DV → DV → (Bool → Prop) → Prop
  | .tab kvs, .str z, P => ∃ r, kvs.lookup z = some r ∧ P r.isSome
  | _, _, _ => False
/-- a part of an f-string, as a text -/
def fmtW : DV → (Str → Prop) → Prop
  | .str y, P => y.length ≤ sizeLine ∧ P y
  | .int i, P => i.natAbs.log2 < 1920 ∧ P (toString i)
  | _, _ => False
mutual
def wE (Γ : Cxt) : XD → E → Ga → Mu → (DV → Mu → Prop) → Prop
  | Wd, .var i, γ, μ, P => match gs γ i with
    | some d => P d μ
    | none => False
  | Wd, .int i, γ, μ, P => P (.int i) μ
  | Wd, .str x, γ, μ, P => P (.str x) μ
  | Wd, .bl b, γ, μ, P => P (.bl b) μ
  | Wd, .non, γ, μ, P => P .non μ
  | Wd, .glob g, γ, μ, P => P (Γ.gv g) μ
  | Wd, .op o a b, γ, μ, P => wE Γ Wd a γ μ fun d1 μ1 => wE Γ Wd b γ μ1 fun d2 μ2 => o2W o d1 d2 μ2 P
  | Wd, .neg a, γ, μ, P => wE Γ Wd a γ μ (asI fun i μ1 => P (.int (-i)) μ1)
  | Wd, .not_ a, γ, μ, P => wE Γ Wd a γ μ (asB fun k μ1 => P (.bl (!k)) μ1)
  | Wd, .ite c a b, γ, μ, P => wT Γ Wd c γ μ fun k μ1 => if k = true then wE Γ Wd a γ μ1 P else wE Γ Wd b γ μ1 P
  | Wd, .and_ a b, γ, μ, P => wE Γ Wd a γ μ (asB fun k μ1 => if k = true then wE Γ Wd b γ μ1 P else P (.bl false) μ1)
  | Wd, .or_ a b, γ, μ, P => wE Γ Wd a γ μ (asB fun k μ1 => if k = true then P (.bl true) μ1 else wE Γ Wd b γ μ1 P)
  | Wd, .tup as, γ, μ, P => wEs Γ Wd as γ μ fun ds μ1 => P (.tup ds) μ1
  | Wd, .lst o as, γ, μ, P => wEs Γ Wd as γ μ fun ds μ1 => newL o ds μ1 P
  | Wd, .sl o a lo hi, γ, μ, P => wE Γ Wd a γ μ fun d μ1 => wE Γ Wd lo γ μ1 (slB lo fun i μ2 => wE Γ Wd hi γ μ2 (slB hi fun j μ3 => slW o d i j μ3 P))
  | Wd, .call f as, γ, μ, P => wEs Γ Wd as γ μ fun ds μ1 => Γ.fn f ds μ1 P fun cls fs μ2 => Wd cls fs γ μ2
  | Wd, .callk f kn pm as ks, γ, μ, P => wEs Γ Wd as γ μ fun ds μ1 => wEs Γ Wd ks γ μ1 fun zs μ2 => Γ.fn f (ds ++ pm.map fun i => zs.getD i .non) μ2 P fun cls fs μ3 => Wd cls fs γ μ3
  | Wd, .bf f as, γ, μ, P => wEs Γ Wd as γ μ fun ds μ1 => bfW f ds μ1 P
  | Wd, .bm m a as, γ, μ, P => wE Γ Wd a γ μ fun d μ1 => bmT m d μ1 ∧ wEs Γ Wd as γ μ1 fun ds μ2 => bmW m d ds μ2 P
  | Wd, .isi a t, γ, μ, P => wE Γ Wd a γ μ fun d μ1 => match tyD μ1 d with
    | some s => P (.bl (isT s t)) μ1
    | none => False
  | Wd, .comp o own elt g it c, γ, μ, P => wI Γ Wd it γ μ fun xs stay μ1 => compF stay (fun d acc μ k =>
      wG Γ (fun _ _ _ _ => False) g d (wipeG γ own) μ fun γ1 μ1 => wTs Γ (fun _ _ _ _ => False) c γ1 μ1 fun b μ2 =>
        if b = true then wE Γ (fun _ _ _ _ => False) elt γ1 μ2 fun x μ3 => acc.length < sizeLine ∧ k (acc ++ [x]) μ3 else k acc μ2) xs [] μ1 fun ys μ2 => newL o ys μ2 P
  | Wd, .comp2 o own own1 elt g it c g1 it1 c1, γ, μ, P => wI Γ Wd it γ μ fun xs stay μ1 => compF stay (fun d acc μ k =>
      wG Γ (fun _ _ _ _ => False) g d (wipeG γ own) μ fun γ1 μ1 => wTs Γ (fun _ _ _ _ => False) c γ1 μ1 fun b μ2 =>
        if b = true then wI Γ (fun _ _ _ _ => False) it1 γ1 μ2 fun ys stay1 μ3 => compF stay1 (fun d1 acc μ k =>
          wG Γ (fun _ _ _ _ => False) g1 d1 (wipeG γ1 own1) μ fun γ2 μ1 => wTs Γ (fun _ _ _ _ => False) c1 γ2 μ1 fun b μ2 =>
            if b = true then wE Γ (fun _ _ _ _ => False) elt γ2 μ2 fun x μ3 => acc.length < sizeLine ∧ k (acc ++ [x]) μ3 else k acc μ2) ys acc μ3 k
        else k acc μ2) xs [] μ1 fun ys μ2 => newL o ys μ2 P
  | Wd, .frz a, γ, μ, P => wE Γ Wd a γ μ (frzW P)
  | Wd, .tget g a, γ, μ, P => wE Γ Wd a γ μ fun d μ1 => tgetW (Γ.gv g) d fun x => P (.fn x) μ1
  | Wd, .calll i fs as, γ, μ, P => match gs γ i with
    | some (.fn x) => x ∈ fs ∧ wEs Γ Wd as γ μ fun ds μ1 => Γ.fn x ds μ1 P fun cls fs μ2 => Wd cls fs γ μ2
    | _ => False
  | Wd, .fld C a f, γ, μ, P => wE Γ Wd a γ μ fun d μ1 => ∃ fs v, insAt μ1 d = some (C, fs) ∧ fs.lookup f = some v ∧ P v μ1
  | Wd, .meth C m q a as, γ, μ, P => wE Γ Wd a γ μ fun d μ1 => (∃ fs, insAt μ1 d = some (C, fs) ∧ fs.lookup m = none) ∧ wEs Γ Wd as γ μ1 fun ds μ2 => Γ.fn q (d :: ds) μ2 P fun cls fs μ3 => Wd cls fs γ μ3
  | Wd, .mk o C q dg as, γ, μ, P => wEs Γ Wd as γ μ fun ds μ1 => ∀ x, μ1 x = none → Γ.fn q (.ref x :: (ds ++ dg.map Γ.gv)) (upm μ1 x (.ins C [])) (madeW o x P) fun cls fs μ2 => Wd cls fs γ μ2
  | Wd, .mkk o C q kn pm as ks, γ, μ, P => wEs Γ Wd as γ μ fun ds μ1 => wEs Γ Wd ks γ μ1 fun zs μ2 => ∀ x, μ2 x = none → Γ.fn q (.ref x :: (ds ++ pm.map fun i => zs.getD i .non)) (upm μ2 x (.ins C [])) (madeW o x P) fun cls fs μ3 => Wd cls fs γ μ3
  | Wd, .tcnt a b, γ, μ, P => wE Γ Wd a γ μ fun d μ1 => ∃ ys : List Str, d = .tup (ys.map DV.str) ∧ ys ≠ [] ∧ wE Γ Wd b γ μ1 fun e μ2 => ∃ y, e = .str y ∧ P (.int ((ys.countP fun x => decide (x = y) : Nat) : Int)) μ2
  | Wd, .dnew, γ, μ, P => ∀ a, μ a = none → P (.ref a) (upm μ a (.dic []))
  | Wd, .dg1 a k, γ, μ, P => wE Γ Wd a γ μ fun d μ1 => (dc μ1 d).isSome = true ∧ wE Γ Wd k γ μ1 fun e μ2 => ∃ kvs x, dc μ2 d = some kvs ∧ e = .str x ∧ P ((kvs.lookup x).getD .non) μ2
  | Wd, .dg2 a k x, γ, μ, P => wE Γ Wd a γ μ fun d μ1 => (dc μ1 d).isSome = true ∧ wE Γ Wd k γ μ1 fun e μ2 => wE Γ Wd x γ μ2 fun z μ3 => ∃ kvs y, dc μ3 d = some kvs ∧ e = .str y ∧ P ((kvs.lookup y).getD z) μ3
  | Wd, .dsd a k x, γ, μ, P => wE Γ Wd a γ μ fun d μ1 => (dc μ1 d).isSome = true ∧ wE Γ Wd k γ μ1 fun e μ2 => wE Γ Wd x γ μ2 fun z μ3 => dsdW d e z μ3 P
  | Wd, .dcomp own ek ev g it c, γ, μ, P => wI Γ Wd it γ μ fun xs stay μ1 => compF stay (fun d (acc : List (Str × DV)) μ k =>
      wG Γ (fun _ _ _ _ => False) g d (wipeG γ own) μ fun γ1 μ1 => wTs Γ (fun _ _ _ _ => False) c γ1 μ1 fun b μ2 =>
        if b = true then wE Γ (fun _ _ _ _ => False) ek γ1 μ2 fun x μ3 => wE Γ (fun _ _ _ _ => False) ev γ1 μ3 fun y μ4 => ∃ z, x = .str z ∧ acc.length < sizeLine ∧ k (putA acc z y) μ4 else k acc μ2) xs [] μ1 fun kvs μ2 => P (.dic kvs) μ2
  | Wd, .fs as, γ, μ, P => wFs Γ Wd as Str.empty γ μ fun y μ1 => P (.str y) μ1
  | Wd, .no, γ, μ, P => P .non μ
def wEs (Γ : Cxt) : XD → Es → Ga → Mu → (List DV → Mu → Prop) → Prop
  | Wd, .nil, γ, μ, P => P [] μ
  | Wd, .cons a as, γ, μ, P => wE Γ Wd a γ μ fun d μ1 => wEs Γ Wd as γ μ1 fun ds μ2 => P (d :: ds) μ2
def wFs (Γ : Cxt) : XD → Es → Str → Ga → Mu → (Str → Mu → Prop) → Prop
  | Wd, .nil, acc, γ, μ, P => P acc μ
  | Wd, .cons a as, acc, γ, μ, P => wE Γ Wd a γ μ fun d μ1 => fmtW d fun y => (acc ++ y).length ≤ sizeLine ∧ wFs Γ Wd as (acc ++ y) γ μ1 P
def wT (Γ : Cxt) : XD → T → Ga → Mu → (Bool → Mu → Prop) → Prop
  | Wd, .e a, γ, μ, P => wE Γ Wd a γ μ (asB P)
  | Wd, .tin g a, γ, μ, P => wE Γ Wd a γ μ fun d μ1 => tinW (Γ.gv g) d fun k => P k μ1
  | Wd, .cmp o a b, γ, μ, P => wE Γ Wd a γ μ fun d1 μ1 => wE Γ Wd b γ μ1 fun d2 μ2 => o2W o d1 d2 μ2 (asB P)
  | Wd, .not_ a, γ, μ, P => wT Γ Wd a γ μ fun k μ1 => P (!k) μ1
  | Wd, .and_ a b, γ, μ, P => wT Γ Wd a γ μ fun k μ1 => if k = true then wT Γ Wd b γ μ1 P else P false μ1
  | Wd, .or_ a b, γ, μ, P => wT Γ Wd a γ μ fun k μ1 => if k = true then P true μ1 else wT Γ Wd b γ μ1 P
def wTs (Γ : Cxt) : XD → Ts → Ga → Mu → (Bool → Mu → Prop) → Prop
  | Wd, .nil, γ, μ, P => P true μ
  | Wd, .one a, γ, μ, P => wT Γ Wd a γ μ P
def wI (Γ : Cxt) : XD → It → Ga → Mu → (List DV → (Mu → Prop) → Mu → Prop) → Prop
  | Wd, .seq a, γ, μ, P => wE Γ Wd a γ μ fun d μ1 => ∃ xs, sq μ1 d = some xs ∧ P xs (fun μ2 => sq μ2 d = some xs) μ1
  | Wd, .rng1 a, γ, μ, P => wE Γ Wd a γ μ (asI fun n μ1 => int62 n ∧ P (rngD 0 n.toNat) (fun _ => True) μ1)
  | Wd, .rng2 a b, γ, μ, P => wE Γ Wd a γ μ (asI fun i μ1 => wE Γ Wd b γ μ1 (asI fun j μ2 => int62 i ∧ int62 j ∧ P (rngD i (j - i).toNat) (fun _ => True) μ2))
  | Wd, .enum a, γ, μ, P => wE Γ Wd a γ μ fun d μ1 => ∃ xs, sq μ1 d = some xs ∧ isTupD d = false ∧ P (enumD 0 xs) (fun μ2 => sq μ2 d = some xs) μ1
  | Wd, .zip a b, γ, μ, P => wE Γ Wd a γ μ fun d μ1 => wE Γ Wd b γ μ1 fun d2 μ2 => ∃ xs ys, sq μ2 d = some xs ∧ sq μ2 d2 = some ys ∧ isTupD d = isTupD d2 ∧ nozS xs ys = true ∧ P (zipD xs ys) (fun μ3 => sq μ3 d = some xs ∧ sq μ3 d2 = some ys) μ2
  | Wd, .str a, γ, μ, P => wE Γ Wd a γ μ fun d μ1 => ∃ z, d = .str z ∧ P (strD z) (fun _ => True) μ1
def wG (Γ : Cxt) : XD → G → DV → Ga → Mu → (Ga → Mu → Prop) → Prop
  | Wd, .var i, d, γ, μ, P => P (γ.set i (some d)) μ
  | Wd, .tup gs, d, γ, μ, P => match d with
    | .tup ds => ds.length = gs.len ∧ wGs Γ Wd gs ds γ μ P
    | _ => False
  | Wd, .ix a b, d, γ, μ, P => wE Γ Wd a γ μ fun o μ1 => wE Γ Wd b γ μ1 fun i μ2 => setW o i d μ2 fun μ3 => P γ μ3
  | Wd, .dix a b, d, γ, μ, P => wE Γ Wd a γ μ fun o μ1 => wE Γ Wd b γ μ1 fun i μ2 => setDW o i d μ2 fun μ3 => P γ μ3
def wGs (Γ : Cxt) : XD → Gs → List DV → Ga → Mu → (Ga → Mu → Prop) → Prop
  | Wd, .nil, ds, γ, μ, P => match ds with
    | [] => P γ μ
    | _ :: _ => False
  | Wd, .cons g gs, ds, γ, μ, P => match ds with
    | [] => False
    | d :: ds => wG Γ Wd g d γ μ fun γ1 μ1 => wGs Γ Wd gs ds γ1 μ1 P
end
/-- what a suite does, of an exception of that class with these fields -/
def sxW (cls : Str) (fs : List (Str × DV)) : Sx → Ga → Mu → DEnds → Prop
  | .asgC i k, γ, μ, D => D.nx (γ.set i (some k.d)) μ
  | .retC k, γ, μ, D => D.rt k.d μ
  | .asg i x, γ, μ, D => ∃ d, x.d cls fs = some d ∧ D.nx (γ.set i (some d)) μ
  | .asgL i xs, γ, μ, D => ∃ ds, xds cls fs xs = some ds ∧ D.nx (γ.set i (some (.lst ds))) μ
  | .ret x, γ, μ, D => ∃ d, x.d cls fs = some d ∧ D.rt d μ
  | .retL xs, γ, μ, D => ∃ ds, xds cls fs xs = some ds ∧ D.rt (.lst ds) μ
def dropG : Option Nat → Ga → Ga
  | none, γ => γ
  | some i, γ => γ.set i none
def dropE : Option Nat → DEnds → DEnds
  | none, D => D
  | some i, D => { nx := fun γ μ => D.nx (γ.set i none) μ, rt := D.rt, bk := fun γ μ => D.bk (γ.set i none) μ, ct := fun γ μ => D.ct (γ.set i none) μ }
mutual
def wS (Γ : Cxt) : XD → S → Ga → Mu → DEnds → Prop
  | Wd, .asg g e, γ, μ, D => wE Γ Wd e γ μ fun d μ1 => wG Γ Wd g d γ μ1 D.nx
  | Wd, .par i j a b, γ, μ, D => wE Γ Wd a γ μ fun d μ1 => wE Γ Wd b γ μ1 fun e μ2 => D.nx ((γ.set i (some d)).set j (some e)) μ2
  | Wd, .aug i o e, γ, μ, D => match gs γ i with
    | some d => wE Γ Wd e γ μ fun d2 μ1 => augW o d d2 μ1 fun d3 μ2 => D.nx (γ.set i (some d3)) μ2
    | none => False
  | Wd, .star gs i hs o e, γ, μ, D => wE Γ Wd e γ μ fun d μ1 => ∃ xs, sq μ1 d = some xs ∧ gs.len + hs.len ≤ xs.length ∧ xs.length ≤ 16384 ∧ newL o (midD gs.len hs.len xs) μ1 fun dm μ2 =>
      wGs Γ Wd gs (xs.take gs.len) γ μ2 fun γ1 μ3 => wGs Γ Wd hs (xs.drop (xs.length - hs.len)) (γ1.set i (some dm)) μ3 D.nx
  | Wd, .expr e, γ, μ, D => wE Γ Wd e γ μ fun _ μ1 => D.nx γ μ1
  | Wd, .ret e, γ, μ, D => wE Γ Wd e γ μ D.rt
  | Wd, .ret0, γ, μ, D => D.rt .non μ
  | Wd, .ite c a b, γ, μ, D => wT Γ Wd c γ μ fun k μ1 => if k = true then wSs Γ Wd a γ μ1 D else wSs Γ Wd b γ μ1 D
  | Wd, .while_ c b, γ, μ, D => ∃ I : Nat → Ga → Mu → Prop, (∃ m, I m γ μ) ∧ ∀ m γ μ, I m γ μ → wT Γ Wd c γ μ fun k μ1 =>
      if k = true then wSs Γ Wd b γ μ1 { nx := fun γ2 μ2 => ∃ m2, m2 < m ∧ I m2 γ2 μ2, rt := D.rt, bk := D.nx, ct := fun γ2 μ2 => ∃ m2, m2 < m ∧ I m2 γ2 μ2 } else D.nx γ μ1
  | Wd, .for_ g it b, γ, μ, D => wI Γ Wd it γ μ fun xs stay μ1 => forF stay (fun d γ μ D2 => wG Γ Wd g d γ μ fun γ1 μ1 => wSs Γ Wd b γ1 μ1 D2) D xs γ μ1
  | Wd, .pass, γ, μ, D => D.nx γ μ
  | Wd, .brk, γ, μ, D => D.bk γ μ
  | Wd, .cont, γ, μ, D => D.ct γ μ
  | Wd, .doc, γ, μ, D => D.nx γ μ
  | Wd, .never, γ, μ, D => False
  | Wd, .setf C a f e, γ, μ, D => wE Γ Wd e γ μ fun d μ1 => wE Γ Wd a γ μ1 fun o μ2 => setFW C f o d μ2 fun μ3 => D.nx γ μ3
  | Wd, .raise C fs as, γ, μ, D => wEs Γ Wd as γ μ fun ds μ1 => Wd C (fs.zip ds).reverse γ μ1
  | Wd, .try_ b C nm su tbl, γ, μ, D => wSs Γ (fun cls fs γ1 μ1 => ∃ k, tbl.lookup cls = some k ∧ if k = true then fs ≠ [] ∧ sxW cls fs su (dropG nm γ1) μ1 (dropE nm D) else Wd cls fs γ1 μ1) b γ μ D
def wSs (Γ : Cxt) : XD → Ss → Ga → Mu → DEnds → Prop
  | Wd, .nil, γ, μ, D => D.nx γ μ
  | Wd, .cons s ss, γ, μ, D => wS Γ Wd s γ μ { nx := fun γ1 μ1 => wSs Γ Wd ss γ1 μ1 D, rt := D.rt, bk := D.bk, ct := D.ct }
end

/-! ### the check -/
/-- a call with keywords: the def, how many values stand by place, the keywords, where the further parameters' values stand among the keywords' -/
structure KF where
  f : Str
  n : Nat
  ks : List Str
  pm : List Nat
  deriving DecidableEq
structure SI where
  N : List Str
  sc : Scope
  cel : Str → Bool
  fns : List (Str × Nat)
  gvs : List Str
  kfs : List KF
  blt : List Str
  tbs : List Str
  /-- fields by class; methods: class, name, def, how many values; what is made: class, def, how many values, globals for what is left out; by keywords; exceptions: class, def, fields -/
  clsf : List (Str × Str)
  mths : List (Str × Str × Str × Nat)
  mks : List (Str × Str × Nat × List Str)
  mkks : List (Str × KF)
  exs : List (Str × List Str)
  /-- except clauses: class, named class, whether it is caught; isinstance likewise; outside of comprehensions -/
  exm : List (Str × Str × Bool)
  isa : List (Str × Cl × Bool)
  stm : Bool
def vis (sc : Scope) (x : Str) : Bool := match sc.names.lookup x with
  | some .local => true
  | some .cell => true
  | some .free => true
  | _ => false
def glb (sc : Scope) (x : Str) : Bool := match sc.names.lookup x with
  | some .globalImplicit => true
  | _ => false
def lcl (I : SI) (x : Str) : Bool := match I.sc.names.lookup x with
  | some .local => true
  | some .cell => I.cel x
  | _ => false
def nmOk (x : Str) : Bool := !(x == ("__debug__" : Str)) && !(x == ("__classdict__" : Str))
def isFn (s : Scope) : Bool := match s.kind with
  | .function => true
  | _ => false
/-- a built-in's name -/
def btn (I : SI) (x : Str) : Bool := glb I.sc x && decide (x ∈ I.blt) && decide (x ≠ "__name__") && nmOk x
def isSl : Expr → Bool
  | .Slice _ _ none _ => true
  | _ => false
def isSet : Expr → Bool
  | .Set _ _ _ => true
  | _ => false
def isCall0 : Expr → Bool
  | .Call (.Name _ _) [] [] _ => true
  | _ => false
def isIxO : O2 → Bool
  | .ix => true
  | .dix => true
  | _ => false
def isNo : E → Bool
  | .no => true
  | _ => false
def optB (l : Option Expr) (n : Bool) (f : Expr → Bool) : Bool := match l with
  | none => n
  | some x => f x
/-- a test that is just a value's -/
def valT : Expr → Bool
  | .UnaryOp _ _ _ => false
  | .BoolOp _ _ _ => false
  | .IfExp _ _ _ _ => false
  | .Compare _ _ _ _ => false
  | _ => true
def isComp : Expr → Bool
  | .ListComp _ _ _ _ => true
  | .SetComp _ _ _ _ => true
  | .DictComp _ _ _ _ _ => true
  | _ => false
def isTupE : Expr → Bool
  | .Tuple _ _ _ => true
  | _ => false
def isTup : Expr → Bool
  | .Tuple _ _ _ => true
  | .List _ _ => true
  | _ => false
/-- the comprehension's store goes first -/
def swB (I : SI) (s : Scope) (vl : Nat) (tg : Expr) : Bool := match tg with
  | .Name t pos => isFn I.sc && decide (I.sc.names.lookup t = some .local) && (pos.line == vl) && !(s.names.any fun p => p.1 == t && (p.2 == .local || p.2 == .cell))
  | _ => false
def ownOf (I : SI) (own : List Nat) : List (Str × Nat) := own.map fun i => (I.N.getD i "", i)
/-- inside a comprehension -/
def SI.blk (I : SI) (s : Scope) : SI := { I with sc := relS s I.sc, cel := fun x => s.names.lookup x == some .cell, stm := false }
/-! ### suites -/
def ckCl (sc : Scope) : Cl → Expr → Bool
  | c, .Name x _ => decide (x = c.nm) && glb sc x && nmOk x
  | _, _ => false
def ckCls (sc : Scope) : List Cl → List Expr → Bool
  | [], [] => true
  | c :: cs, e :: es => ckCl sc c e && ckCls sc cs es
  | _, _ => false
def ckX1 (sc : Scope) (nm : Str) : XE1 → Expr → Bool
  | .fld f, .Attribute (.Name x _) g _ => decide (x = nm) && decide (g = f)
  | .isa [c] false _, .Call (.Name y _) [.Name x _, k] [] _ => decide (y = "isinstance") && glb sc y && decide (x = nm) && ckCl sc c k
  | .isa cs true _, .Call (.Name y _) [.Name x _, .Tuple ks _ _] [] _ => decide (y = "isinstance") && glb sc y && decide (x = nm) && decide (cs.length ≤ 30) && ckCls sc cs ks
  | _, _ => false
def ckXs (sc : Scope) (nm : Str) : List XE1 → List Expr → Bool
  | [], [] => true
  | x :: xs, e :: es => ckX1 sc nm x e && ckXs sc nm xs es
  | _, _ => false
def ckKo : KCo → Expr → Bool
  | .non, .Constant .none _ _ => true
  | .bl b, .Constant (.bool c) _ _ => decide (b = c)
  | .str x, .Constant (.str y) _ _ => decide (x = y)
  | _, _ => false
def ckTg (N : List Str) (sc : Scope) (i : Nat) (x : Str) : Bool := decide (N[i]? = some x) && decide (sc.names.lookup x = some .local)
/-- nm: the exception's name, if it has one -/
def ckSx (N : List Str) (sc : Scope) (nm : Option Str) : Sx → List Stmt → Bool
  | .asgC i k, [.Assign [.Name x _] e _] => ckTg N sc i x && ckKo k e
  | .retC k, [.Return (some e) _] => ckKo k e
  | .asg i x, [.Assign [.Name t _] e _] => ckTg N sc i t && (match nm with | some n => ckX1 sc n x e | none => false)
  | .asgL i xs, [.Assign [.Name t _] (.List es _) _] => ckTg N sc i t && decide (xs.length ≤ 30) && (match nm with | some n => ckXs sc n xs es | none => false)
  | .ret x, [.Return (some e) _] => (match nm with | some n => ckX1 sc n x e | none => false)
  | .retL xs, [.Return (some (.List es _)) _] => decide (xs.length ≤ 30) && (match nm with | some n => ckXs sc n xs es | none => false)
  | _, _ => false
def ckHd (I : SI) (su : Sx) (sts : List Stmt) : Option Nat → Option Str → Bool
  | none, none => ckSx I.N I.sc none su sts
  | some i, some y => ckTg I.N I.sc i y && nmOk y && ckSx I.N I.sc (some y) su sts
  | _, _ => false
def isaAny (l : List (Str × Cl × Bool)) (cls : Str) : List Cl → Option Bool
  | [] => some false
  | c :: cs => if (cls, c, true) ∈ l then some true else if (cls, c, false) ∈ l then isaAny l cls cs else none
/-- what is asked of an item, of that class with those fields -/
def ckIt (I : SI) (cls : Str) (flds : List Str) : XE1 → Bool
  | .fld f => decide (f ∈ flds)
  | .isa cs tup r => cs.all (fun c => decide ((cls, c, true) ∈ I.isa) || decide ((cls, c, false) ∈ I.isa)) && (match r.lookup cls with
    | some b => if tup = true then decide (isaAny I.isa cls cs = some b) else (match cs with | [c] => decide ((cls, c, b) ∈ I.isa) | _ => false)
    | none => false)
def ckTb (I : SI) (C : Str) (su : Sx) (tbl : List (Str × Bool)) : Bool :=
  decide (("isinstance" : Str) ∈ I.blt) && !tbl.isEmpty && tbl.all fun q => decide ((q.1, C, q.2) ∈ I.exm) && (!q.2 || I.exs.any fun e => decide (e.1 = q.1) && su.its.all (ckIt I q.1 e.2))
mutual
def ckE : SI → E → Expr → Bool
  | I, .var i, ex => match ex with
    | .Name x _ => decide (I.N[i]? = some x) && vis I.sc x && nmOk x
    | _ => false
  | I, .int i, ex => match ex with
    | .Constant (.int j) _ _ => decide (i = j)
    | _ => false
  | I, .str x, ex => match ex with
    | .Constant (.str y) _ _ => decide (x = y)
    | _ => false
  | I, .bl b, ex => match ex with
    | .Constant (.bool c) _ _ => decide (b = c)
    | _ => false
  | I, .non, ex => match ex with
    | .Constant .none _ _ => true
    | _ => false
  | I, .glob g, ex => match ex with
    | .Name x _ => decide (x = g) && decide (g ∈ I.gvs) && glb I.sc x && nmOk x
    | _ => false
  | I, .op o a b, ex => match ex with
    | .BinOp x op y _ => decide (binO o = some op) && ckE I a x && ckE I b y
    | .Compare x [op] [y] _ => decide (cmpO o = some op) && !isSet y && ckE I a x && ckE I b y
    | .Subscript x y _ => isIxO o && !isSl y && ckE I a x && ckE I b y
    | _ => false
  | I, .neg a, ex => match ex with
    | .UnaryOp .USub x _ => ckE I a x
    | _ => false
  | I, .not_ a, ex => match ex with
    | .UnaryOp .Not x _ => ckE I a x
    | _ => false
  | I, .ite c a b, ex => match ex with
    | .IfExp t x y _ => ckT I c t && ckE I a x && ckE I b y
    | _ => false
  | I, .and_ a b, ex => match ex with
    | .BoolOp .And [x, y] _ => ckE I a x && ckE I b y
    | .BoolOp .And (x :: y :: z :: r) pos => ckE I a x && ckE I b (.BoolOp .And (y :: z :: r) pos)
    | _ => false
  | I, .or_ a b, ex => match ex with
    | .BoolOp .Or [x, y] _ => ckE I a x && ckE I b y
    | .BoolOp .Or (x :: y :: z :: r) pos => ckE I a x && ckE I b (.BoolOp .Or (y :: z :: r) pos)
    | _ => false
  | I, .tup as, ex => match ex with
    | .Tuple es _ _ => decide (as.len ≤ 1000) && ckEs I as es
    | _ => false
  | I, .lst o as, ex => match ex with
    | .List es _ => decide (as.len ≤ 1000) && ckEs I as es
    | _ => false
  | I, .sl o a lo hi, ex => match ex with
    | .Subscript x (.Slice l h none _) _ => ckE I a x && optB l (isNo lo) (fun l => !isNo lo && ckE I lo l) && optB h (isNo hi) (fun l => !isNo hi && ckE I hi l)
    | _ => false
  | I, .call f as, ex => match ex with
    | .Call (.Name x _) (e :: es) [] _ => glb I.sc x && nmOk x && decide (x = f) && decide (I.fns.lookup f = some as.len) && ckEs I as (e :: es)
    | _ => false
  | I, .callk f kn pm as ks, ex => match ex with
    | .Call (.Name x _) es kw pos => glb I.sc x && nmOk x && decide (x = f) && decide (⟨f, as.len, kn, pm⟩ ∈ I.kfs) && decide (kw.map (·.arg) = kn.map some) && ckEs I as es && ckKs I ks kw
    | _ => false
  | I, .bf f as, ex => match ex with
    | .Call (.Name x _) (e :: es) [] _ => decide (x = bfN f) && btn I x && ckEs I as (e :: es)
    | _ => false
  | I, .bm m a as, ex => match ex with
    | .Call (.Attribute o nm ap) es [] cp => decide (nm = bmN m) && !isCall0 o && (ap.endLine == cp.line) && decide (as.len ≤ 20) && ckE I a o && ckEs I as es
    | _ => false
  | I, .isi a t, ex => match ex with
    | .Call (.Name x _) [e, .Name y _] [] _ => decide (x = "isinstance") && btn I x && btn I y && decide (bootBuiltins y = some (.type t)) && decide (t ∈ ["bool", "int", "str", "tuple", "list"]) && ckE I a e
    | _ => false
  | I, .comp o own elt g it c, ex => match ex with
    | .ListComp el [⟨tg, iter, ifs, n⟩] s _ => (n == 0) && blkC I.N I.sc s (ownOf I own) && (gOwn own g) && ckI I it tg iter && ckE (I.blk s) elt el && ckG (I.blk s) g tg && ckTs (I.blk s) c ifs
    | _ => false
  | I, .comp2 o own own1 elt g it c g1 it1 c1, ex => match ex with
    | .ListComp el [⟨tg, iter, ifs, n⟩, ⟨tg1, iter1, ifs1, n1⟩] s _ => (n == 0) && (n1 == 0) && blkC I.N I.sc s (ownOf I own) && (gOwn own g) && (gOwn own1 g1) && (own1.all fun i => decide (i ∈ own)) && ckI I it tg iter && ckE (I.blk s) elt el && ckG (I.blk s) g tg && ckTs (I.blk s) c ifs && ckI (I.blk s) it1 tg1 iter1 && ckG (I.blk s) g1 tg1 && ckTs (I.blk s) c1 ifs1
    | _ => false
  | I, .frz a, ex => ckE I a ex
  | I, .tget g a, ex => match ex with
    | .Subscript (.Name x _) y _ => glb I.sc x && nmOk x && decide (x = g) && decide (g ∈ I.tbs) && !isSl y && ckE I a y
    | _ => false
  | I, .calll i fs as, ex => match ex with
    | .Call (.Name x _) (e :: es) [] _ => decide (I.N[i]? = some x) && vis I.sc x && nmOk x && (fs.all fun f => decide (I.fns.lookup f = some as.len)) && ckEs I as (e :: es)
    | _ => false
  | I, .fld C a f, ex => match ex with
    | .Attribute x g _ => decide (g = f) && decide ((C, f) ∈ I.clsf) && !isCall0 x && ckE I a x
    | _ => false
  | I, .meth C m q a as, ex => match ex with
    | .Call (.Attribute o nm ap) es [] cp => decide (nm = m) && decide ((C, m, q, as.len + 1) ∈ I.mths) && !isCall0 o && (ap.endLine == cp.line) && decide (as.len ≤ 20) && ckE I a o && ckEs I as es
    | _ => false
  | I, .mk o C q dg as, ex => match ex with
    | .Call (.Name x _) es [] _ => decide (x = C) && glb I.sc x && nmOk x && decide ((C, q, as.len, dg) ∈ I.mks) && ckEs I as es
    | _ => false
  | I, .mkk o C q kn pm as ks, ex => match ex with
    | .Call (.Name x _) es kw _ => decide (x = C) && glb I.sc x && nmOk x && decide ((C, ⟨q, as.len, kn, pm⟩) ∈ I.mkks) && decide (kw.map (·.arg) = kn.map some) && ckEs I as es && ckKs I ks kw
    | _ => false
  | I, .tcnt a b, ex => match ex with
    | .Call (.Attribute o nm ap) [e] [] cp => decide (nm = "count") && !isCall0 o && (ap.endLine == cp.line) && ckE I a o && ckE I b e
    | _ => false
  | I, .dnew, ex => match ex with
    | .Dict [] [] _ => true
    | _ => false
  | I, .dg1 a k, ex => match ex with
    | .Call (.Attribute o nm ap) [e] [] cp => decide (nm = "get") && !isCall0 o && (ap.endLine == cp.line) && ckE I a o && ckE I k e
    | _ => false
  | I, .dg2 a k x, ex => match ex with
    | .Call (.Attribute o nm ap) [e, f] [] cp => decide (nm = "get") && !isCall0 o && (ap.endLine == cp.line) && ckE I a o && ckE I k e && ckE I x f
    | _ => false
  | I, .dsd a k x, ex => match ex with
    | .Call (.Attribute o nm ap) [e, f] [] cp => decide (nm = "setdefault") && !isCall0 o && (ap.endLine == cp.line) && ckE I a o && ckE I k e && ckE I x f
    | _ => false
  | I, .dcomp own ek ev g it c, ex => match ex with
    | .DictComp kx vx [⟨tg, iter, ifs, n⟩] s _ => (n == 0) && blkC I.N I.sc s (ownOf I own) && (gOwn own g) && ckI I it tg iter && ckE (I.blk s) ek kx && ckE (I.blk s) ev vx && ckG (I.blk s) g tg && ckTs (I.blk s) c ifs
    | _ => false
  | I, .fs as, ex => match ex with
    | .JoinedStr (a :: b :: es) _ => ckFs I as (a :: b :: es)
    | _ => false
  | I, .no, ex => false
def ckFs : SI → Es → List Expr → Bool
  | I, .nil, es => match es with
    | [] => true
    | _ => false
  | I, .cons a as, es => match es with
    | e :: es => (match e with
      | .FormattedValue x c none _ => decide (c = -1) && ckE I a x
      | .Constant (.str y) _ _ => (match a with
        | .str z => decide (z = y)
        | _ => false)
      | _ => false) && ckFs I as es
    | _ => false
def ckEs : SI → Es → List Expr → Bool
  | I, .nil, es => match es with
    | [] => true
    | _ => false
  | I, .cons a as, es => match es with
    | e :: es => ckE I a e && ckEs I as es
    | _ => false
def ckKs : SI → Es → List Keyword → Bool
  | I, .nil, es => match es with
    | [] => true
    | _ => false
  | I, .cons a as, es => match es with
    | ⟨_, e, _⟩ :: es => ckE I a e && ckKs I as es
    | _ => false
def ckT : SI → T → Expr → Bool
  | I, .e a, ex => valT ex && ckE I a ex
  | I, .tin g a, ex => match ex with
    | .Compare x [.In] [.Name y _] _ => glb I.sc y && nmOk y && decide (y = g) && decide (g ∈ I.tbs) && ckE I a x
    | _ => false
  | I, .cmp o a b, ex => match ex with
    | .Compare x [op] [y] _ => decide (cmpO o = some op) && !isSet y && ckE I a x && ckE I b y
    | _ => false
  | I, .not_ a, ex => match ex with
    | .UnaryOp .Not x _ => ckT I a x
    | _ => false
  | I, .and_ a b, ex => match ex with
    | .BoolOp .And [x, y] _ => ckT I a x && ckT I b y
    | .BoolOp .And (x :: y :: z :: r) pos => ckT I a x && ckT I b (.BoolOp .And (y :: z :: r) pos)
    | _ => false
  | I, .or_ a b, ex => match ex with
    | .BoolOp .Or [x, y] _ => ckT I a x && ckT I b y
    | .BoolOp .Or (x :: y :: z :: r) pos => ckT I a x && ckT I b (.BoolOp .Or (y :: z :: r) pos)
    | _ => false
def ckTs : SI → Ts → List Expr → Bool
  | I, .nil, es => match es with
    | [] => true
    | _ => false
  | I, .one a, es => match es with
    | [e] => ckT I a e
    | _ => false
def ckI : SI → It → Expr → Expr → Bool
  | I, .seq a, tg, ex => !isSet ex && ckE I a ex
  | I, .rng1 a, tg, ex => match ex with
    | .Call (.Name x _) [e] [] _ => decide (x = "range") && btn I x && ckE I a e
    | _ => false
  | I, .rng2 a b, tg, ex => match ex with
    | .Call (.Name x _) [e, f] [] _ => decide (x = "range") && btn I x && ckE I a e && ckE I b f
    | _ => false
  | I, .enum a, tg, ex => match ex with
    | .Call (.Name x _) [e] [] _ => decide (x = "enumerate") && btn I x && isTupE tg && ckE I a e
    | _ => false
  | I, .zip a b, tg, ex => match ex with
    | .Call (.Name x _) [e, f] [] _ => decide (x = "zip") && btn I x && isTupE tg && ckE I a e && ckE I b f
    | _ => false
  | I, .str a, tg, ex => !isSet ex && ckE I a ex
def ckG : SI → G → Expr → Bool
  | I, .var i, ex => match ex with
    | .Name x _ => decide (I.N[i]? = some x) && lcl I x
    | _ => false
  | I, .tup gs, ex => match ex with
    | .Tuple es _ _ => ckGs I gs es
    | _ => false
  | I, .ix a b, ex => match ex with
    | .Subscript x y _ => !isSl y && ckE I a x && ckE I b y
    | _ => false
  | I, .dix a b, ex => match ex with
    | .Subscript x y _ => !isSl y && ckE I a x && ckE I b y
    | _ => false
def ckGs : SI → Gs → List Expr → Bool
  | I, .nil, es => match es with
    | [] => true
    | _ => false
  | I, .cons a as, es => match es with
    | e :: es => ckG I a e && ckGs I as es
    | _ => false
/-- the target stores into these slots alone -/
def gOwn : List Nat → G → Bool
  | own, .var i => decide (i ∈ own)
  | own, .tup gs => gsOwn own gs
  | own, .ix _ _ => false
  | own, .dix _ _ => false
def gsOwn : List Nat → Gs → Bool
  | own, .nil => true
  | own, .cons g gs => gOwn own g && gsOwn own gs
end
def ckStar : SI → Gs → Nat → Gs → List Expr → Bool
  | I, .nil, i, hs, es => match es with
    | .Starred (.Name x _) _ :: es => decide (I.N[i]? = some x) && lcl I x && ckGs I hs es
    | _ => false
  | I, .cons g gs, i, hs, es => match es with
    | e :: es => ckG I g e && ckStar I gs i hs es
    | [] => false
def isCompE : E → Bool
  | .comp _ _ _ _ _ _ => true
  | .comp2 _ _ _ _ _ _ _ _ _ _ => true
  | .dcomp _ _ _ _ _ _ => true
  | _ => false
def asgV (I : SI) (e : E) (tg v : Expr) : Bool := match v with
  | .ListComp _ _ s vp => isFn I.sc && isCompE e
  | .DictComp _ _ _ s vp => isFn I.sc && isCompE e
  | .Tuple _ _ _ => !isTup tg
  | _ => !isComp v
mutual
def ckS : SI → S → Stmt → Bool
  | I, .asg g e, st => match st with
    | .Assign [tg] v pos => ckG I g tg && ckE I e v && asgV I e tg v
    | _ => false
  | I, .par i j a b, st => false
  | I, .aug i o e, st => match st with
    | .AugAssign (.Name x _) op v _ => decide (I.N[i]? = some x) && lcl I x && decide (binO o = some op) && ckE I e v
    | _ => false
  | I, .star gs i hs o e, st => match st with
    | .Assign [.Tuple es _ _] v pos => ckStar I gs i hs es && ckE I e v && !isComp v && !isTupE v
    | _ => false
  | I, .expr e, st => match st with
    | .Expr v pos => !isComp v && ckE I e v
    | _ => false
  | I, .ret e, st => match st with
    | .Return (some v) _ => ckE I e v
    | _ => false
  | I, .ret0, st => match st with
    | .Return none _ => true
    | _ => false
  | I, .ite c a b, st => match st with
    | .If t x y _ => ckT I c t && ckSs I a x && ckSs I b y
    | _ => false
  | I, .while_ c b, st => match st with
    | .While t x [] _ => ckT I c t && ckSs I b x
    | _ => false
  | I, .for_ g it b, st => match st with
    | .For tg iter x [] _ => !isSet iter && ckG I g tg && ckI I it tg iter && ckSs I b x
    | _ => false
  | I, .pass, st => match st with
    | .Pass _ => true
    | _ => false
  | I, .brk, st => match st with
    | .Break _ => true
    | _ => false
  | I, .cont, st => match st with
    | .Continue _ => true
    | _ => false
  | I, .doc, st => match st with
    | .Expr (.Constant (.str _) _ _) _ => true
    | _ => false
  | I, .never, st => true
  | I, .setf C a f e, st => match st with
    | .Assign [.Attribute x g _] v pos => decide (g = f) && decide ((C, f) ∈ I.clsf) && !isComp v && ckE I e v && ckE I a x
    | _ => false
  | I, .raise C fs as, st => match st with
    | .Raise (some (.Call (.Name x _) es [] _)) none _ => decide (x = C) && glb I.sc x && nmOk x && decide ((C, fs) ∈ I.exs) && decide (fs.length = as.len) && decide (0 < fs.length) && decide (fs.length ≤ 20) && ckEs I as es
    | _ => false
  | I, .try_ b C nm su tbl, st => match st with
    | .Try body [.ExceptHandler (some (.Name x _)) n su' _] [] [] _ => I.stm && decide (x = C) && glb I.sc x && nmOk x && ckTb I C su tbl && ckSs I b body && ckHd I su su' nm n
    | _ => false
def ckSs : SI → Ss → List Stmt → Bool
  | I, .nil, es => match es with
    | [] => true
    | _ => false
  | I, .cons a as, es => match es with
    | e :: es => ckS I a e && ckSs I as es
    | _ => false
end
end Sr

set_option Elab.async false
set_option linter.all false
set_option maxRecDepth 100000
set_option autoImplicit false
/-! The small language's meaning is sound: expressions. -/
namespace Sr
open PySem PySem.Spec PyProof.Rows L2

/-- the promise of a def, by values and heap -/
def toSp (K : PySem.W.Frag) (n : Nat) (sp : Spec) : Sp := fun vs H Q E => vs.length = n ∧ ∃ (B : Hp) (μ : Mu) (ds : List DV) (P : DV → Mu → Prop) (XPd : XP), Wf K B H μ ∧ RepL K B vs ds ∧ sp ds μ P XPd ∧
  (∀ v d B' H' μ', Nxt K B H μ B' H' μ' → Rep K B' v d → P d μ' → Q v H') ∧
  (∀ cls d fs B' H' μ', Nxt K B H μ B' H' μ' → (fs = [] ∨ ∃ dx xs, d = some dx ∧ H' dx = some (.xd xs) ∧ RepF K B' xs fs) → XPd cls fs μ' → E (.ref (He.ga K cls)) d H')
def FnAt (X : Cx) (x : Str) (n : Nat) (sp : Spec) : Prop := ∃ (k : Nat) (f : Addr) (fd : FuncData) (ps : List Str), X.mg x = some (.ref f) ∧ PySem.W.keepIn X.K (.ref f) = true ∧
  FnOk X.prog X.w X.K X.mg X.base (L2.CX X.prog X.w) k f fd ps (toSp X.K n sp) ∧ Room k X.A ∧ Binds X.K fd ps []
def KfAt (X : Cx) (x : Str) (k : KF) (sp : Spec) : Prop := ∃ (l m : Nat) (f : Addr) (fd : FuncData) (ps : List Str) (g : List Value → List Value → List Value), X.mg x = some (.ref f) ∧ PySem.W.keepIn X.K (.ref f) = true ∧
  FnOk X.prog X.w X.K X.mg X.base (L2.CX X.prog X.w) l f fd ps (toSp X.K m sp) ∧ Room l X.A ∧ m = k.n + k.pm.length ∧ (∀ i ∈ k.pm, i < k.ks.length) ∧ KBn X.K fd ps k.n k.ks g fun vs zs => vs ++ k.pm.map fun i => zs.getD i .non
def GvAt (X : Cx) (x : Str) (d : DV) : Prop := ∃ v u, X.mg x = some u ∧ RelV v u ∧ ∀ B, Rep X.K B v d
/-- the table of defs at that name -/
def TbAt (X : Cx) (g : Str) (kvs : List (Str × Option Str)) : Prop := ∃ (d : Addr) (es : Array DictEntry) (n : Nat), X.mg g = some (.ref d) ∧ KDict X.K X.w d es n ∧
  ∀ z r, kvs.lookup z = some r → PySem.W.nsIn X.K d z = some (r.map fun f => .ref (He.ga X.K f))
/-- a method; what is made -/
def MthAt (X : Cx) (C m : Str) (n : Nat) (sp : Spec) : Prop := ∃ (k : Nat) (f : Addr) (fd : FuncData) (ps : List Str), Cls X.K (He.ga X.K C) ∧ Meth X.K (He.ga X.K C) m f ∧ FnOk X.prog X.w X.K X.mg X.base (L2.CX X.prog X.w) k f fd ps (toSp X.K n sp) ∧ Room k X.A ∧ Binds X.K fd ps []
def MkAt (X : Cx) (C : Str) (n : Nat) (dvs : List DV) (sp : Spec) : Prop := ∃ (k m : Nat) (f : Addr) (fd : FuncData) (ps : List Str) (ds : List Value) (vs : List V), X.mg C = some (.ref (He.ga X.K C)) ∧ Mk X.K (He.ga X.K C) f ∧
  FnOk X.prog X.w X.K X.mg X.base (L2.CX X.prog X.w) k f fd ps (toSp X.K m sp) ∧ Room (k + 1) X.A ∧ Binds X.K fd ps ds ∧ Vals vs ds ∧ (∀ B, RepL X.K B vs dvs) ∧ m = n + 1 + dvs.length
def MkkAt (X : Cx) (C : Str) (k : KF) (sp : Spec) : Prop := ∃ (l m : Nat) (f : Addr) (fd : FuncData) (ps : List Str) (g : List Value → List Value → List Value), X.mg C = some (.ref (He.ga X.K C)) ∧ Mk X.K (He.ga X.K C) f ∧
  FnOk X.prog X.w X.K X.mg X.base (L2.CX X.prog X.w) l f fd ps (toSp X.K m sp) ∧ Room (l + 1) X.A ∧ m = k.n + 1 + k.pm.length ∧ (∀ i ∈ k.pm, i < k.ks.length) ∧ KBn X.K fd ps (k.n + 1) k.ks g fun vs zs => vs ++ k.pm.map fun i => zs.getD i .non
structure At (X : Cx) (I : SI) (Γ : Cxt) : Prop where
  hN : X.N = I.N
  nd : X.N.Nodup
  sc : X.env.scope = I.sc
  cel : ∀ x, I.cel x = true → X.fn x = true
  calm : X.calm = true
  po : PassesOwn (model X.prog X.w) X.A X.env X.xe
  un : X.A.units + 160 < cLine
  blt : ∀ x ∈ I.blt, X.mg x = none
  fns : ∀ (x : Str) (n : Nat), I.fns.lookup x = some n → FnAt X x n (Γ.fn x)
  kfs : ∀ k ∈ I.kfs, KfAt X k.f k (Γ.fn k.f)
  gvs : ∀ x ∈ I.gvs, GvAt X x (Γ.gv x)
  tbs : ∀ g ∈ I.tbs, ∃ kvs, Γ.gv g = .tab kvs ∧ TbAt X g kvs
  ga : ∀ (x : Str) (n : Nat), I.fns.lookup x = some n → X.mg x = some (.ref (He.ga X.K x))
  clsf : ∀ q ∈ I.clsf, Cls X.K (He.ga X.K q.1) ∧ NoAttr X.K (He.ga X.K q.1) q.2
  mths : ∀ q ∈ I.mths, MthAt X q.1 q.2.1 q.2.2.2 (Γ.fn q.2.2.1)
  mks : ∀ q ∈ I.mks, MkAt X q.1 q.2.2.1 (q.2.2.2.map Γ.gv) (Γ.fn q.2.1)
  mkks : ∀ q ∈ I.mkks, MkkAt X q.1 q.2 (Γ.fn q.2.f)
  stk : I.stm = true → X.stack = X.env :: X.outer ∧ X.env.frame = some X.env.locals
  exs : ∀ q ∈ I.exs, XcAt X q.1 q.2 ∧ Xf X.K q.1
  exm : ∀ q ∈ I.exm, X.mg q.2.1 = some (.ref (He.ga X.K q.2.1)) ∧ PySem.W.exmOne X.K (.ref (He.ga X.K q.1)) (.ref (He.ga X.K q.2.1)) = some q.2.2
  isa : ∀ q ∈ I.isa, ClAt X q.2.1 ∧ PySem.W.kitOne X.K (.ref (He.ga X.K q.1)) (q.2.1.val X.K) = some q.2.2

section
variable {X : Cx} {I : SI} {Γ : Cxt} {Wd : XD} {γ γ' : Ga} {μ : Mu} {x y c e o : Expr} {es : List Expr} {pos pos' p : Pos} {P : DV → Mu → Prop} {d : DV} {D : DEnds} {st : Stmt} {sts : List Stmt}
theorem At.lookup (A : At X I Γ) (nm : Str) : X.env.scope.names.lookup nm = I.sc.names.lookup nm := by rw [A.sc]
theorem At.vis (A : At X I Γ) {nm : Str} (h : vis I.sc nm = true) : Vis X.env.scope nm := by
  unfold Sr.vis at h
  unfold Vis
  rw [A.lookup]
  split at h
  · rename_i e; exact .inl e
  · rename_i e; exact .inr (.inl e)
  · rename_i e; exact .inr (.inr e)
  · cases h
theorem At.glb (A : At X I Γ) {nm : Str} (h : glb I.sc nm = true) : Gl X nm := by
  unfold Sr.glb at h
  show X.env.scope.names.lookup nm = _
  rw [A.lookup]
  split at h
  · assumption
  · cases h
theorem nmOk1 {nm : Str} (h : nmOk nm = true) : (nm == ("__debug__" : Str)) = false ∧ (nm == ("__classdict__" : Str)) = false := by
  unfold nmOk at h
  simpa using h
theorem ck_star : ∀ (a : E) {e : Expr} {p : Pos} {I : SI}, ckE I a (.Starred e p) = true → False
  | .frz a, e, p, I, h => ck_star a (show ckE I a (.Starred e p) = true from h)
  | .var _, _, _, _, h => by cases (show false = true from h)
  | .int _, _, _, _, h => by cases (show false = true from h)
  | .str _, _, _, _, h => by cases (show false = true from h)
  | .bl _, _, _, _, h => by cases (show false = true from h)
  | .non, _, _, _, h => by cases (show false = true from h)
  | .glob _, _, _, _, h => by cases (show false = true from h)
  | .op _ _ _, _, _, _, h => by cases (show false = true from h)
  | .neg _, _, _, _, h => by cases (show false = true from h)
  | .not_ _, _, _, _, h => by cases (show false = true from h)
  | .ite _ _ _, _, _, _, h => by cases (show false = true from h)
  | .and_ _ _, _, _, _, h => by cases (show false = true from h)
  | .or_ _ _, _, _, _, h => by cases (show false = true from h)
  | .tup _, _, _, _, h => by cases (show false = true from h)
  | .lst _ _, _, _, _, h => by cases (show false = true from h)
  | .sl _ _ _ _, _, _, _, h => by cases (show false = true from h)
  | .call _ _, _, _, _, h => by cases (show false = true from h)
  | .callk _ _ _ _ _, _, _, _, h => by cases (show false = true from h)
  | .bf _ _, _, _, _, h => by cases (show false = true from h)
  | .bm _ _ _, _, _, _, h => by cases (show false = true from h)
  | .isi _ _, _, _, _, h => by cases (show false = true from h)
  | .comp _ _ _ _ _ _, _, _, _, h => by cases (show false = true from h)
  | .comp2 _ _ _ _ _ _ _ _ _ _, _, _, _, h => by cases (show false = true from h)
  | .fs _, _, _, _, h => by cases (show false = true from h)
  | .tget _ _, _, _, _, h => by cases (show false = true from h)
  | .calll _ _ _, _, _, _, h => by cases (show false = true from h)
  | .no, _, _, _, h => by cases (show false = true from h)
theorem starEach_cons {env : Env} (h : ∀ e' p, e ≠ .Starred e' p) : starEach (e :: es) env = (false, eval e env) :: starEach es env := by
  cases e <;> first | rfl | exact absurd rfl (h _ _)
theorem ck_nostar {a : E} (h : ckE I a e = true) : ∀ e' p, e ≠ .Starred e' p := fun e' p z => by subst z; exact ck_star a h
theorem ck_hpl : ∀ {as : Es} {es : List Expr} {env : Env} {pos : Pos}, ckEs I as es = true → (backTo pos (starEach es env)).any (·.1) = false ∧ (backTo pos (starEach es env)).all (fun x => !x.1) = true ∧ es.length = as.len
  | .nil, [], _, _, _ => ⟨rfl, rfl, rfl⟩
  | .nil, _ :: _, _, _, h => by cases (show false = true from h)
  | .cons a as, [], _, _, h => by cases (show false = true from h)
  | .cons a as, e :: es, env, pos, h => by
    have h : (ckE I a e && ckEs I as es) = true := h
    rw [Bool.and_eq_true] at h
    obtain ⟨p, q, r⟩ := ck_hpl (env := env) (pos := pos) h.2
    rw [starEach_cons (ck_nostar h.1)]
    refine ⟨?_, ?_, ?_⟩
    · show (false || (backTo pos (starEach es env)).any (·.1)) = false
      rw [p]; rfl
    · show (true && (backTo pos (starEach es env)).all (fun x => !x.1)) = true
      rw [q]; rfl
    · rw [List.length_cons, r]; rfl
theorem behind_no {op : CmpOp} (h : isSet y = false) : behindInMarks op y = false := by
  cases y <;> first | rfl | cases h
theorem plainIx_no (h : isSl y = false) : PlainIx y := by
  intro o i
  cases y <;> try rfl
  rename_i a b st p
  cases st
  · cases h
  · rfl
theorem fold_no {env : Env} {x : Expr} (h : isSet x = false) : ∀ v, foldedSetIterable x env v = pure v := by
  intro v
  cases x <;> first | rfl | cases h
theorem attr_no {env : Env} {nm : Str} (h : isCall0 o = false) : attributeBase o nm env (eval o env) = eval o env := by
  unfold attributeBase
  split
  · cases h
  · rfl
theorem valT_is (h : valT e = true) : ∀ whole, isTrue e X.env whole = (do let v ← whole; standAt e.pos; holding [v] (truthy v)) := by
  intro whole
  cases e <;> first | rfl | cases h

/-! ### leaves -/
theorem sd_var {i : Nat} (A : At X I Γ) (h : ckE I (.var i) e = true) (w : wE Γ Wd (.var i) γ μ P) : DE X Wd e γ μ P := by
  cases e <;> try cases (show false = true from h)
  case Name nm pos =>
    have h : (decide (I.N[i]? = some nm) && vis I.sc nm && nmOk nm) = true := h
    simp only [Bool.and_eq_true, decide_eq_true_eq] at h
    have w : (match gs γ i with | some d => P d μ | none => False) := w
    cases q : gs γ i with
    | none => rw [q] at w; exact w.elim
    | some d =>
      rw [q] at w
      refine de_name (i := i) (by rw [A.hN]; exact h.1.1) (A.vis h.1.2) (nmOk1 h.2).1 (nmOk1 h.2).2 ?_ w
      unfold gs at q
      split at q
      · rename_i o e1
        rw [q] at e1; exact e1
      · cases q
theorem sd_glob {g : Str} (A : At X I Γ) (h : ckE I (.glob g) e = true) (w : P (Γ.gv g) μ) : DE X Wd e γ μ P := by
  cases e <;> try cases (show false = true from h)
  case Name nm pos =>
    have h : (decide (nm = g) && decide (g ∈ I.gvs) && glb I.sc nm && nmOk nm) = true := h
    simp only [Bool.and_eq_true, decide_eq_true_eq] at h
    obtain ⟨⟨⟨e1, h0⟩, h1⟩, h2⟩ := h
    subst e1
    obtain ⟨v, u, hm, r, hr⟩ := A.gvs nm h0
    have h : (True ∧ glb I.sc nm = true) ∧ nmOk nm = true := ⟨⟨trivial, h1⟩, h2⟩
    exact de_glob (A.glb h.1.2) hm r hr w (nmOk1 h.2).1
theorem sd_int {i : Int} (h : ckE I (.int i) e = true) (w : P (.int i) μ) : DE X Wd e γ μ P := by
  cases e <;> try cases (show false = true from h)
  case Constant k n pos =>
    cases k <;> try cases (show false = true from h)
    have h := of_decide_eq_true (show decide (i = _) = true from h)
    subst h
    exact de_int w
theorem sd_str {i : Str} (h : ckE I (.str i) e = true) (w : P (.str i) μ) : DE X Wd e γ μ P := by
  cases e <;> try cases (show false = true from h)
  case Constant k n pos =>
    cases k <;> try cases (show false = true from h)
    have h := of_decide_eq_true (show decide (i = _) = true from h)
    subst h
    exact de_str w
theorem sd_bl {i : Bool} (h : ckE I (.bl i) e = true) (w : P (.bl i) μ) : DE X Wd e γ μ P := by
  cases e <;> try cases (show false = true from h)
  case Constant k n pos =>
    cases k <;> try cases (show false = true from h)
    have h := of_decide_eq_true (show decide (i = _) = true from h)
    subst h
    exact de_bl w
theorem sd_non (h : ckE I .non e = true) (w : P .non μ) : DE X Wd e γ μ P := by
  cases e <;> try cases (show false = true from h)
  case Constant k n pos =>
    cases k <;> try cases (show false = true from h)
    exact de_non w
/-! ### what stands around -/
theorem bool_and2 {a b : Bool} (h : (a && b) = true) : a = true ∧ b = true := by simpa using h
theorem noSl_no {y : Expr} (h : isSl y = false) : NoSl y := fun ov iv => by
  cases y <;> first | rfl | (rename_i a b st pp; cases st <;> first | rfl | cases h)
theorem o_dix {e : DV} {x : Str} {μ : Mu} {P : DV → Mu → Prop} : o2W .dix e (.str x) μ P = (∃ kvs v, dc μ e = some kvs ∧ kvs.lookup x = some v ∧ P v μ) := by cases e <;> rfl
theorem dix_ex {e k : DV} {μ : Mu} {P : DV → Mu → Prop} (h : o2W .dix e k μ P) : ∃ x kvs v, k = .str x ∧ dc μ e = some kvs ∧ kvs.lookup x = some v ∧ P v μ := by
  cases k <;> try (cases e <;> exact (show False from h).elim)
  rw [o_dix] at h
  obtain ⟨kvs, v, h1, h2, h3⟩ := h
  exact ⟨_, kvs, v, rfl, h1, h2, h3⟩
theorem de_dix {a b : Expr} (hu : X.A.units + 1 < cLine) (hs : NoSl b) (h : DE X Wd a γ μ fun d1 μ1 => DE X Wd b γ μ1 fun d2 μ2 => o2W .dix d1 d2 μ2 P) : DE X Wd (.Subscript a b pos) γ μ P := fun W σ B H S Q q =>
  we_of (pe_dget hu pe_w pe_w hs) (h W σ B H S _ fun x d1 B1 H1 μ1 n1 r1 h1 => h1 W σ B1 H1 (S.next n1) _ fun y d2 B2 H2 μ2 n2 r2 h2 => by
    obtain ⟨z, kvs, v, rfl, e, hl, p⟩ := dix_ex h2
    obtain ⟨a, vs, rfl, hh, rf⟩ := dc_at e n2.w (r1.to n2.s)
    cases r2
    obtain ⟨u, hu2, ru⟩ := rf.look hl
    exact ⟨a, u, rfl, by rw [← hu2]; exact dget_of hh, q u v B2 H2 μ2 (n1.trans n2) ru p⟩)
theorem sd_op {o : O2} {a b : E} (A : At X I Γ) (h : ckE I (.op o a b) e = true) {Q : E → Expr → Prop}
    (w : ∀ {x y}, ckE I a x = true → ckE I b y = true → DE X Wd x γ μ fun d1 μ1 => DE X Wd y γ μ1 fun d2 μ2 => o2W o d1 d2 μ2 P) : DE X Wd e γ μ P := by
  cases e <;> try cases (show false = true from h)
  case BinOp x op y pos =>
    have h : (decide (binO o = some op) && ckE I a x && ckE I b y) = true := h
    simp only [Bool.and_eq_true, decide_eq_true_eq] at h
    exact de_bin opR_w ((w h.1.2 h.2).imp fun d1 μ1 k => k.imp fun d2 μ2 k => o2_bin h.1.1 k)
  case Compare x ops cs pos =>
    match ops, cs, h with
    | [op], [y], h =>
      have h : (decide (cmpO o = some op) && !isSet y && ckE I a x && ckE I b y) = true := h
      simp only [Bool.and_eq_true, decide_eq_true_eq, Bool.not_eq_true'] at h
      exact de_cmp opR_w (behind_no h.1.1.2) ((w h.1.2 h.2).imp fun d1 μ1 k => k.imp fun d2 μ2 k => o2_cmp A.un h.1.1.1 k)
    | [], _, h => cases (show false = true from h)
    | [_], [], h => cases (show false = true from h)
    | [_], _ :: _ :: _, h => cases (show false = true from h)
    | _ :: _ :: _, _, h => cases (show false = true from h)
  case Subscript x y pos =>
    have h : (isIxO o && !isSl y && ckE I a x && ckE I b y) = true := h
    simp only [Bool.and_eq_true, Bool.not_eq_true'] at h
    obtain ⟨⟨⟨h1, h2⟩, h3⟩, h4⟩ := h
    cases o <;> first | cases h1 | skip
    · exact de_ix ixR_w (plainIx_no h2) ((w h3 h4).imp fun d1 μ1 k => k.imp fun d2 μ2 k => o2_ix k)
    · exact de_dix (by have := A.un; omega) (noSl_no h2) (w h3 h4)

theorem asB_ex {Q : Bool → Mu → Prop} (h : asB Q d μ) : ∃ k, d = .bl k ∧ Q k μ := by
  cases d <;> first | exact ⟨_, rfl, h⟩ | exact (show False from h).elim
theorem asI_ex {Q : Int → Mu → Prop} (h : asI Q d μ) : ∃ k, d = .int k ∧ Q k μ := by
  cases d <;> first | exact ⟨_, rfl, h⟩ | exact (show False from h).elim
theorem sd_neg {a : E} (h : ckE I (.neg a) e = true) (w : ∀ {x}, ckE I a x = true → DE X Wd x γ μ (asI fun i μ1 => P (.int (-i)) μ1)) : DE X Wd e γ μ P := by
  cases e <;> try cases (show false = true from h)
  case UnaryOp op x pos =>
    cases op <;> try cases (show false = true from h)
    exact de_neg ((w h).imp fun d μ1 k => asI_ex k)
theorem sd_not {a : E} (h : ckE I (.not_ a) e = true) (w : ∀ {x}, ckE I a x = true → DE X Wd x γ μ (asB fun k μ1 => P (.bl (!k)) μ1)) : DE X Wd e γ μ P := by
  cases e <;> try cases (show false = true from h)
  case UnaryOp op x pos =>
    cases op <;> try cases (show false = true from h)
    exact de_not ((w h).imp fun d μ1 k => asB_ex k)
theorem if2 {b : Bool} {p q : Prop} (h : if b = true then p else q) : (b = true → p) ∧ (b = false → q) := by
  cases b
  · exact ⟨fun z => (Bool.noConfusion z), fun _ => (if_neg Bool.false_ne_true).mp h⟩
  · exact ⟨fun _ => (if_pos rfl).mp h, fun z => (Bool.noConfusion z)⟩
theorem sd_ite {t : T} {a b : E} (h : ckE I (.ite t a b) e = true) (w : ∀ {x y z}, ckT I t x = true → ckE I a y = true → ckE I b z = true → DT X Wd x γ μ fun k μ1 => if k = true then DE X Wd y γ μ1 P else DE X Wd z γ μ1 P) : DE X Wd e γ μ P := by
  cases e <;> try cases (show false = true from h)
  case IfExp x y z pos =>
    have h : (ckT I t x && ckE I a y && ckE I b z) = true := h
    simp only [Bool.and_eq_true] at h
    exact de_ifExp ((w h.1.1 h.1.2 h.2).imp fun k μ1 q => if2 q)
theorem sd_and {a b : E} (h : ckE I (.and_ a b) e = true) (w : ∀ {x y}, ckE I a x = true → ckE I b y = true → DE X Wd x γ μ (asB fun k μ1 => if k = true then DE X Wd y γ μ1 P else P (.bl false) μ1)) : DE X Wd e γ μ P := by
  cases e <;> try cases (show false = true from h)
  case BoolOp op xs pos =>
    cases op <;> try cases (show false = true from h)
    match xs, h with
    | [x, y], h =>
      obtain ⟨h1, h2⟩ := bool_and2 (show (ckE I a x && ckE I b y) = true from h)
      exact de_and ((w h1 h2).imp fun d μ1 k => let ⟨b, e, q⟩ := asB_ex k; ⟨b, e, fun z => de_one ((if2 q).1 z), (if2 q).2⟩)
    | x :: y :: z :: r, h =>
      obtain ⟨h1, h2⟩ := bool_and2 (show (ckE I a x && ckE I b (.BoolOp .And (y :: z :: r) pos)) = true from h)
      exact de_and ((w h1 h2).imp fun d μ1 k => let ⟨b, e, q⟩ := asB_ex k; ⟨b, e, (if2 q).1, (if2 q).2⟩)
    | [], h => cases (show false = true from h)
    | [_], h => cases (show false = true from h)
theorem sd_or {a b : E} (h : ckE I (.or_ a b) e = true) (w : ∀ {x y}, ckE I a x = true → ckE I b y = true → DE X Wd x γ μ (asB fun k μ1 => if k = true then P (.bl true) μ1 else DE X Wd y γ μ1 P)) : DE X Wd e γ μ P := by
  cases e <;> try cases (show false = true from h)
  case BoolOp op xs pos =>
    cases op <;> try cases (show false = true from h)
    match xs, h with
    | [x, y], h =>
      obtain ⟨h1, h2⟩ := bool_and2 (show (ckE I a x && ckE I b y) = true from h)
      exact de_or ((w h1 h2).imp fun d μ1 k => let ⟨b, e, q⟩ := asB_ex k; ⟨b, e, fun z => de_one ((if2 q).2 z), (if2 q).1⟩)
    | x :: y :: z :: r, h =>
      obtain ⟨h1, h2⟩ := bool_and2 (show (ckE I a x && ckE I b (.BoolOp .Or (y :: z :: r) pos)) = true from h)
      exact de_or ((w h1 h2).imp fun d μ1 k => let ⟨b, e, q⟩ := asB_ex k; ⟨b, e, (if2 q).2, (if2 q).1⟩)
    | [], h => cases (show false = true from h)
    | [_], h => cases (show false = true from h)
theorem line1000 {n : Nat} (h : n ≤ 1000) : n ≤ sizeLine := by rw [sizeLine_eq]; omega
theorem sd_tup {as : Es} (h : ckE I (.tup as) e = true) (w : ∀ {xs}, ckEs I as xs = true → DA X Wd xs γ μ fun ds μ1 => ds.length = as.len ∧ P (.tup ds) μ1) : DE X Wd e γ μ P := by
  cases e <;> try cases (show false = true from h)
  case Tuple xs k pos =>
    obtain ⟨h1, h2⟩ := bool_and2 (show (decide (as.len ≤ 1000) && ckEs I as xs) = true from h)
    exact de_tup ((w h2).imp fun ds μ1 q => ⟨by rw [q.1]; exact line1000 (of_decide_eq_true h1), q.2⟩)
theorem sd_lst {as : Es} {o : Bool} (h : ckE I (.lst o as) e = true) (w : ∀ {xs}, ckEs I as xs = true → DA X Wd xs γ μ fun ds μ1 => ds.length = as.len ∧ newL o ds μ1 P) : DE X Wd e γ μ P := by
  cases e <;> try cases (show false = true from h)
  case List xs pos =>
    obtain ⟨h1, h2⟩ := bool_and2 (show (decide (as.len ≤ 1000) && ckEs I as xs) = true from h)
    have hl := line1000 (of_decide_eq_true h1)
    cases o
    · exact de_lst ((w h2).imp fun ds μ1 q => ⟨by rw [q.1]; exact hl, (if_neg Bool.false_ne_true).mp (show if false = true then _ else _ from q.2)⟩)
    · exact de_lstO ((w h2).imp fun ds μ1 q => ⟨by rw [q.1]; exact hl, (if_pos rfl).mp (show if true = true then _ else _ from q.2)⟩)
theorem sd_part {lo : E} {l : Option Expr} {Q : Option Int → Mu → Prop} (h : optB l (isNo lo) (fun l => !isNo lo && ckE I lo l) = true) (w : ∀ {x}, ckE I lo x = true → DE X Wd x γ μ (slB lo Q)) (w0 : isNo lo = true → slB lo Q .non μ) : DO X Wd l γ μ Q := by
  cases l with
  | none =>
    have h : isNo lo = true := h
    have w0 := w0 h
    cases lo <;> first | exact w0 | cases h
  | some x =>
    obtain ⟨h1, h2⟩ := bool_and2 (show (!isNo lo && ckE I lo x) = true from h)
    refine (w h2).imp fun d μ1 q => ?_
    have g : asI (fun k μ => Q (some k) μ) d μ1 := by
      cases lo <;> first | exact q | cases h1
    exact asI_ex g
theorem sd_sl {a lo hi : E} {o : Bool} (h : ckE I (.sl o a lo hi) e = true)
    (w : ∀ {x l u}, ckE I a x = true → optB l (isNo lo) (fun l => !isNo lo && ckE I lo l) = true → optB u (isNo hi) (fun l => !isNo hi && ckE I hi l) = true → DE X Wd x γ μ fun d μ1 => DO X Wd l γ μ1 fun i μ2 => DO X Wd u γ μ2 fun j μ3 => slW o d i j μ3 P) : DE X Wd e γ μ P := by
  cases e <;> try cases (show false = true from h)
  case Subscript x y pos =>
    cases y <;> try cases (show false = true from h)
    case Slice l u st p2 =>
      cases st <;> try cases (show false = true from h)
      have h : (ckE I a x && optB l (isNo lo) (fun l => !isNo lo && ckE I lo l) && optB u (isNo hi) (fun l => !isNo hi && ckE I hi l)) = true := h
      obtain ⟨h1, h2⟩ := bool_and2 h
      obtain ⟨h3, h4⟩ := bool_and2 h1
      exact de_slice slR_w ((w h3 h4 h2).imp fun d μ1 k => k.imp fun i μ2 k => k.imp fun j μ3 k => sl_ok k)
theorem frz1_ok {K : PySem.W.Frag} {B H : Hp} {μ : Mu} {v : V} {d : DV} {P : DV → Mu → Prop} (w : Wf K B H μ) (r : Rep K B v d) (h : frz1 d μ P) :
    ∃ B' d' μ', Nxt K B H μ B' H μ' ∧ Rep K B' v d' ∧ P d' μ' ∧ ∀ a C fs, μ a = some (.ins C fs) → μ' a = some (.ins C fs) := by
  have triv : frz1 d μ P = P d μ → ∃ B' d' μ', Nxt K B H μ B' H μ' ∧ Rep K B' v d' ∧ P d' μ' ∧ ∀ a C fs, μ a = some (.ins C fs) → μ' a = some (.ins C fs) := fun e => ⟨B, d, μ, Nxt.refl w, r, e ▸ h, fun _ _ _ h => h⟩
  cases d <;> try exact triv rfl
  case ref a =>
    have keep : ∀ {m : MO}, μ a = some m → (∀ C fs, m ≠ .ins C fs) → ∀ b C fs, μ b = some (.ins C fs) → rem μ a b = some (.ins C fs) := fun {m} hm hn b C fs hb => by
      unfold rem
      rw [if_neg fun z => by subst z; rw [hm] at hb; exact hn _ _ (Option.some.inj hb)]
      exact hb
    have h : (match μ a with | some (.lst ds) => P (.lst ds) (rem μ a) | some (.dic kvs) => P (.dic kvs) (rem μ a) | _ => False) := h
    split at h
    · rename_i ds hm
      cases r
      obtain ⟨B2, n2, r2⟩ := w.freezeN hm
      exact ⟨B2, _, _, n2, r2, h, keep hm fun _ _ z => by cases z⟩
    · rename_i ds hm
      cases r
      obtain ⟨B2, n2, r2⟩ := w.freezeDN hm
      exact ⟨B2, _, _, n2, r2, h, keep hm fun _ _ z => by cases z⟩
    · exact h.elim
theorem frzF_ok {K : PySem.W.Frag} {H : Hp} : ∀ {fs : List (Str × DV)} {B : Hp} {μ : Mu} {vs : List (Str × V)} {P : List (Str × DV) → Mu → Prop}, Wf K B H μ → RepF K B vs fs → frzF fs μ P →
    ∃ B' fs' μ', Nxt K B H μ B' H μ' ∧ RepF K B' vs fs' ∧ P fs' μ' ∧ ∀ a C fs, μ a = some (.ins C fs) → μ' a = some (.ins C fs)
  | [], B, μ, vs, P, w, r, h => ⟨B, [], μ, Nxt.refl w, r, h, fun _ _ _ h => h⟩
  | (f, d) :: fs, B, μ, vs, P, w, r, h => by
    cases r with
    | cons r1 r2 =>
      obtain ⟨B1, d1, μ1, n1, q1, h1, k1⟩ := frz1_ok w r1 (show frz1 d μ _ from h)
      obtain ⟨B2, fs2, μ2, n2, q2, h2, k2⟩ := frzF_ok n1.w (r2.to n1.s) h1
      exact ⟨B2, (f, d1) :: fs2, μ2, n1.trans n2, .cons (q1.to n2.s) q2, h2, fun a C fs e => k2 a C fs (k1 a C fs e)⟩
theorem frzW_ok {K : PySem.W.Frag} {B H : Hp} {μ : Mu} {v : V} {d : DV} {P : DV → Mu → Prop} (w : Wf K B H μ) (r : Rep K B v d) (h : frzW P d μ) : ∃ B' d' μ', Nxt K B H μ B' H μ' ∧ Rep K B' v d' ∧ P d' μ' := by
  cases d <;> try exact (show False from h).elim
  case ref a =>
    have h : (match μ a with | some (.lst ds) => P (.lst ds) (rem μ a) | some (.dic kvs) => P (.dic kvs) (rem μ a) | some (.ins C fs) => frzF fs μ fun fs' μ' => P (.ins C fs') (rem μ' a) | _ => False) := h
    split at h
    · rename_i ds hm
      cases r
      obtain ⟨B2, n2, r2⟩ := w.freezeN hm
      exact ⟨B2, _, _, n2, r2, h⟩
    · rename_i ds hm
      cases r
      obtain ⟨B2, n2, r2⟩ := w.freezeDN hm
      exact ⟨B2, _, _, n2, r2, h⟩
    · rename_i C fs hm
      cases r
      obtain ⟨hb, dx, vs, e, rv⟩ := w.ob a _ hm
      obtain ⟨B1, fs', μ1, n1, r1, h1, k1⟩ := frzF_ok w rv h
      have hm1 := k1 a C fs hm
      have n2 := n1.w.freezeO hm1 e
      exact ⟨_, .ins C fs', _, n1.trans n2, .ins upd_same (r1.to n2.s), h1⟩
    · exact h.elim
theorem sd_frz {a : E} (w : DE X Wd e γ μ (frzW P)) : DE X Wd e γ μ P := fun W σ B H S Q q =>
  w W σ B H S Q fun v d B' H' μ' n r h => by
    obtain ⟨B2, d2, μ2, n2, r2, p⟩ := frzW_ok n.w r h
    exact q v d2 B2 H' μ2 (n.trans n2) r2 p
/-! ### calls -/
theorem sd_call {f : Str} {as : Es} (A : At X I Γ) (h : ckE I (.call f as) e = true) (w : ∀ {xs}, ckEs I as xs = true → DA X Wd xs γ μ fun ds μ1 => ds.length = as.len ∧ Γ.fn f ds μ1 P fun cls fs μ2 => Wd cls fs γ μ2) : DE X Wd e γ μ P := by
  cases e <;> try cases (show false = true from h)
  case Call fe xs kw pos =>
    cases fe <;> try cases (show false = true from h)
    case Name nm p =>
      cases xs <;> cases kw <;> try cases (show false = true from h)
      rename_i x xs
      have h : (glb I.sc nm && nmOk nm && decide (nm = f) && decide (I.fns.lookup f = some as.len) && ckEs I as (x :: xs)) = true := h
      simp only [Bool.and_eq_true, decide_eq_true_eq] at h
      obtain ⟨⟨⟨⟨h1, h2⟩, e1⟩, h3⟩, h4⟩ := h
      subst e1
      obtain ⟨k, fa, fd, ps, hm, hk, F, hr, hb⟩ := A.fns nm _ h3
      have w := w h4
      cases as with
      | nil => cases (show false = true from h4)
      | cons a as =>
      obtain ⟨h5, h6⟩ := bool_and2 (show (ckE I a x && ckEs I as xs) = true from h4)
      intro W σ B H S Q q
      have fin : ∀ (vs : List V) (ds : List DV) (B1 H1 : Hp) (μ1 : Mu), Nxt X.K B H μ B1 H1 μ1 → RepL X.K B1 vs ds → (ds.length = (Es.cons a as).len ∧ Γ.fn nm ds μ1 P fun cls fs μ2 => Wd cls fs γ μ2) → toSp X.K (Es.cons a as).len (Γ.fn nm) (vs ++ []) H1 Q (L2.WE W σ) := fun vs ds B1 H1 μ1 n1 r1 k => by
        rw [List.append_nil]
        exact ⟨by rw [r1.length]; exact k.1, B1, μ1, ds, P, _, n1.w, r1, k.2, fun v d B2 H2 μ2 n2 r2 p2 => q v d B2 H2 μ2 (n1.trans n2) r2 p2,
          fun cls d fs B2 H2 μ2 n2 hx hw => S.xo cls d fs σ γ B2 H2 μ2 (n1.trans n2) (S.st.to (n1.trans n2).s) hx hw⟩
      exact we_of (pe_callSD (E := fun σ => L2.WE W σ) (dvs := []) F hr (A.glb h1) hm hk hb .nil (fun σ => passAt S.tk σ) pa_w (nmOk1 h2).1 (starEach_cons (ck_nostar h5)) (ck_hpl h6).1)
        (w W σ B H S _ fun vs ds B1 H1 μ1 n1 r1 k => fin vs ds B1 H1 μ1 n1 r1 k)
end
end Sr

set_option Elab.async false
set_option linter.all false
set_option maxRecDepth 100000
set_option autoImplicit false
/-! Calls by keywords, of built-ins, of methods. -/
namespace Sr
open PySem PySem.Spec PyProof.Rows L2
section
variable {X : Cx} {I : SI} {Γ : Cxt} {Wd : XD} {γ γ' : Ga} {μ : Mu} {x y c e o : Expr} {es : List Expr} {pos pos' p : Pos} {P : DV → Mu → Prop} {d : DV} {D : DEnds} {st : Stmt} {sts : List Stmt}
/-- rows of keywords' values -/
def WK (X : Cx) (kws : List Keyword) : TA := fun σ H Q => ∀ pos pins s, Inv X pins σ H s → wpAny (model X.prog X.w) X.A (evalAll ((backToKw pos (keywordEach kws X.env)).map (·.2))) (AP X pins σ Q) X.xe s
theorem pk_w {kws : List Keyword} : PK X kws (WK X kws) := ⟨fun pos pins s σ H Q I h => h pos pins s I⟩
theorem wk_of {kws : List Keyword} {t : TA} {σ : L2.St} {H : Hp} {Q : List V → Hp → Prop} (p : PK X kws t) (h : t σ H Q) : WK X kws σ H Q := fun pos pins s I => p.run pos pins s σ H Q I h
def DK (X : Cx) (Wd : XD) (kws : List Keyword) (γ : Ga) (μ : Mu) (P : List DV → Mu → Prop) : Prop := ∀ (W : WX) (σ : L2.St) (B H : Hp), Sit X Wd W γ μ σ B H →
  ∀ Q : List V → Hp → Prop, (∀ v d B' H' μ', Nxt X.K B H μ B' H' μ' → RepL X.K B' v d → P d μ' → Q v H') → WK X kws σ H Q
theorem dk_nil {P : List DV → Mu → Prop} (h : P [] μ) : DK X Wd [] γ μ P := fun W σ B H S Q q => wk_of pk_nil (q [] [] B H μ (Nxt.refl S.wf) .nil h)
theorem dk_cons {P : List DV → Mu → Prop} {nm : Option Str} {kp : Pos} {ks : List Keyword} (h : DE X Wd e γ μ fun d μ1 => DK X Wd ks γ μ1 fun ds μ2 => P (d :: ds) μ2) : DK X Wd (⟨nm, e, kp⟩ :: ks) γ μ P := fun W σ B H S Q q =>
  wk_of (pk_cons pe_w pk_w) (h W σ B H S _ fun v d B1 H1 μ1 n1 r1 h1 => h1 W σ B1 H1 (S.next n1) _ fun vs ds B2 H2 μ2 n2 r2 p => q _ _ B2 H2 μ2 (n1.trans n2) (.cons (r1.to n2.s) r2) p)
theorem DK.imp {P P' : List DV → Mu → Prop} {ks : List Keyword} (h : DK X Wd ks γ μ P) (hp : ∀ d μ', P d μ' → P' d μ') : DK X Wd ks γ μ P' := fun W σ B H S Q q =>
  h W σ B H S Q fun v d B' H' μ' n r p => q v d B' H' μ' n r (hp d μ' p)

def tKw (n m : Nat) (sp : Sp) (gV : List V → List V → List V) (E : L2.St → XK) (t tk : TA) : TE := fun σ H Q => t σ H fun vs H1 => tk σ H1 fun zs H2 => vs.length = n ∧ zs.length = m ∧ sp (gV vs zs) H2 Q (E σ)
theorem run_kw {CX : CXT} {k n : Nat} {f : Addr} {fd : FuncData} {ps ks : List Str} {sp : Sp} {E : XK} {g : List Value → List Value → List Value} {gV : List V → List V → List V} {pins : List (Addr × Obj)} {σ : L2.St} {H : Hp} {s : Shared} {Q : VK} {us ws : List Value} {vs zs : List V}
    (F : FnOk X.prog X.w X.K X.mg X.base CX k f fd ps sp) (hr : Room k X.A) (hb : KBn X.K fd ps n ks g gV) (hx : PassesAt CX X σ E) (J : Inv X pins σ H s) (r : Vals vs us) (rz : Vals zs ws) (l1 : vs.length = n) (l2 : zs.length = ks.length) (h : sp (gV vs zs) H Q E) :
    wpAny (model X.prog X.w) X.A (call (.ref f) us (ks.zip ws)) (EP X pins σ Q) X.xe s := by
  refine wpAny_call (codeAny_mono (F.run X.A X.stack s H ⟨us, ks.zip ws⟩ (g us ws) (gV vs zs) Q E hr J.env0 (hb.to s us ws J.kIn (r.length.symm.trans l1) (rz.length.symm.trans l2)) (hb.rel r rz) h) fun out s2 hq => ?_)
  cases out with
  | error u => exact hx pins H s u s2 J hq
  | ok fl =>
    cases fl with
    | ret u => exact J.after hq
    | next => exact hq.elim
    | brk => exact hq.elim
    | cont => exact hq.elim
theorem pe_kw {CX : CXT} {k n : Nat} {f : Addr} {fd : FuncData} {ps ks : List Str} {sp : Sp} {E : L2.St → XK} {nm : Str} {kws : List Keyword} {t tk : TA} {g : List Value → List Value → List Value} {gV : List V → List V → List V}
    (F : FnOk X.prog X.w X.K X.mg X.base CX k f fd ps sp) (hr : Room k X.A) (hg : Gl X nm) (hm : X.mg nm = some (.ref f)) (hk : PySem.W.keepIn X.K (.ref f) = true) (hb : KBn X.K fd ps n ks g gV) (hx : ∀ σ, PassesAt CX X σ (E σ))
    (ha : PA X (e :: es) t) (hkw : PK X kws tk) (hall : (backToKw pos (keywordEach kws X.env)).all (·.1.isSome) = true) (hks : (backToKw pos (keywordEach kws X.env)).filterMap (·.1) = ks)
    (hdb : (nm == ("__debug__" : Str)) = false) (he : starEach (e :: es) X.env = (false, eval e X.env) :: starEach es X.env)
    (hpl : ((backTo pos (starEach (e :: es) X.env)).any (·.1) || (backToKw pos (keywordEach kws X.env)).any (·.1.isNone)) = false) :
    PE X (.Call (.Name nm p) (e :: es) kws pos) (tKw n ks.length sp gV E t tk) := by
  refine ⟨fun pins s σ H Q J h => wpAny_Call_Name_kw (ld_glob J hg hm ?_ hdb)⟩
  refine PySem.W.callWith_KW (h₀ := X.base) J.ok.mod.kin hk hall (thn (ha.run pos pins s σ H _ J h) fun us s1 ⟨vs, H1, I1, r, q⟩ => ?_) hpl he
  refine thn (hkw.run pos pins s1 σ H1 _ I1 q) fun ws s2 ⟨zs, H2, I2, rz, l1, l2, q2⟩ => ⟨I2.kIn, ?_⟩
  rw [hks]
  exact run_kw F hr hb (hx σ) I2 r rz l1 l2 q2
theorem pe_kw0 {CX : CXT} {k n : Nat} {f : Addr} {fd : FuncData} {ps ks : List Str} {sp : Sp} {E : L2.St → XK} {nm : Str} {kws : List Keyword} {tk : TA} {g : List Value → List Value → List Value} {gV : List V → List V → List V}
    (F : FnOk X.prog X.w X.K X.mg X.base CX k f fd ps sp) (hr : Room k X.A) (hg : Gl X nm) (hm : X.mg nm = some (.ref f)) (hk : PySem.W.keepIn X.K (.ref f) = true) (hb : KBn X.K fd ps n ks g gV) (hx : ∀ σ, PassesAt CX X σ (E σ))
    (hkw : PK X kws tk) (hall : (backToKw pos (keywordEach kws X.env)).all (·.1.isSome) = true) (hks : (backToKw pos (keywordEach kws X.env)).filterMap (·.1) = ks)
    (hdb : (nm == ("__debug__" : Str)) = false)
    (hpl : ((backTo pos (starEach [] X.env)).any (·.1) || (backToKw pos (keywordEach kws X.env)).any (·.1.isNone)) = false) :
    PE X (.Call (.Name nm p) [] kws pos) (tKw n ks.length sp gV E tNil tk) := by
  refine ⟨fun pins s σ H Q J h => wpAny_Call_Name_kw (ld_glob J hg hm ?_ hdb)⟩
  refine PySem.W.callWith_KW0 (h₀ := X.base) J.ok.mod.kin hk hall ?_ hpl
  refine thn (hkw.run pos pins s σ H _ J h) fun ws s2 ⟨zs, H2, I2, rz, l1, l2, q2⟩ => ⟨I2.kIn, ?_⟩
  rw [hks]
  exact run_kw F hr hb (hx σ) I2 .nil rz l1 l2 q2
theorem kws_ok {env : Env} {pos : Pos} : ∀ {kws : List Keyword} {ks : List Str}, kws.map (·.arg) = ks.map some →
    (backToKw pos (keywordEach kws env)).all (·.1.isSome) = true ∧ (backToKw pos (keywordEach kws env)).filterMap (·.1) = ks ∧ (backToKw pos (keywordEach kws env)).any (·.1.isNone) = false
  | [], [], _ => ⟨rfl, rfl, rfl⟩
  | [], _ :: _, h => by cases h
  | _ :: _, [], h => by cases h
  | ⟨nm, v, kp⟩ :: kws, k :: ks, h => by
    rw [List.map_cons, List.map_cons, List.cons.injEq] at h
    obtain ⟨h1, h2⟩ := h
    obtain ⟨p, q, r⟩ := kws_ok (env := env) (pos := pos) h2
    have h1 : nm = some k := h1
    subst h1
    refine ⟨?_, ?_, ?_⟩
    · show (true && (backToKw pos (keywordEach kws env)).all (·.1.isSome)) = true
      rw [p]; rfl
    · show k :: (backToKw pos (keywordEach kws env)).filterMap (·.1) = k :: ks
      rw [q]
    · show (false || (backToKw pos (keywordEach kws env)).any (·.1.isNone)) = false
      rw [r]; rfl
theorem RepL.getD {K : PySem.W.Frag} {B : Hp} {zs : List V} {ds : List DV} (r : RepL K B zs ds) (i : Nat) : Rep K B (zs.getD i .non) (ds.getD i .non) := by
  rw [List.getD_eq_getElem?_getD, List.getD_eq_getElem?_getD]
  cases q : ds[i]? with
  | some d =>
    obtain ⟨v, e, rv⟩ := r.get q
    rw [e]; exact rv
  | none =>
    have : zs[i]? = none := by
      rw [List.getElem?_eq_none_iff] at q ⊢
      rw [r.length]; exact q
    rw [this]; exact .non
theorem RepL.pick {K : PySem.W.Frag} {B : Hp} {zs : List V} {ds : List DV} (r : RepL K B zs ds) : ∀ pm : List Nat, RepL K B (pm.map fun i => zs.getD i .non) (pm.map fun i => ds.getD i .non)
  | [] => .nil
  | i :: pm => .cons (r.getD i) (r.pick pm)
theorem sd_callk {f : Str} {kn : List Str} {pm : List Nat} {as ks : Es} (A : At X I Γ) (h : ckE I (.callk f kn pm as ks) e = true)
    (w : ∀ {xs kw}, ckEs I as xs = true → ckKs I ks kw = true → DA X Wd xs γ μ fun ds μ1 => DK X Wd kw γ μ1 fun zs μ2 => (ds.length = as.len ∧ zs.length = ks.len) ∧ Γ.fn f (ds ++ pm.map fun i => zs.getD i .non) μ2 P fun cls fs μ3 => Wd cls fs γ μ3)
    (w0 : as = .nil → ∀ {kw}, ckKs I ks kw = true → DK X Wd kw γ μ fun zs μ2 => zs.length = ks.len ∧ Γ.fn f (pm.map fun i => zs.getD i .non) μ2 P fun cls fs μ3 => Wd cls fs γ μ3)
    (wl : ∀ {kw}, ckKs I ks kw = true → kw.length = ks.len) : DE X Wd e γ μ P := by
  cases e <;> try cases (show false = true from h)
  case Call fe xs kw pos =>
    cases fe <;> try cases (show false = true from h)
    case Name nm p =>
      have h : (glb I.sc nm && nmOk nm && decide (nm = f) && decide (⟨f, as.len, kn, pm⟩ ∈ I.kfs) && decide (kw.map (·.arg) = kn.map some) && ckEs I as xs && ckKs I ks kw) = true := h
      simp only [Bool.and_eq_true, decide_eq_true_eq] at h
      obtain ⟨⟨⟨⟨⟨⟨h1, h0⟩, e0⟩, hj⟩, e5⟩, h3⟩, h4⟩ := h
      subst e0
      obtain ⟨k, ek⟩ : ∃ k : KF, k = ⟨nm, as.len, kn, pm⟩ := ⟨_, rfl⟩
      have e1 : nm = k.f := by rw [ek]
      have e3 : pm = k.pm := by rw [ek]
      have e4 : as.len = k.n := by rw [ek]
      have e6 : kn = k.ks := by rw [ek]
      rw [← ek] at hj
      rw [e6] at e5
      clear ek
      subst e3
      by_cases hT : True
      · obtain ⟨l, m, fa, fd, ps, g, hm, hk, F, hr, hmm, hpi, hb⟩ := A.kfs k hj
        rw [← e1] at hm F
        obtain ⟨k1, k2, k3⟩ := kws_ok (env := X.env) (pos := pos) e5
        have hkl : kw.length = k.ks.length := by simpa using congrArg List.length e5
        have w := w h3 h4
        have wl := wl h4
        have fin : ∀ {W : WX} {σ : L2.St} {B H : Hp} {Q : VK} (S : Sit X Wd W γ μ σ B H) (q : ∀ v d B' H' μ', Nxt X.K B H μ B' H' μ' → Rep X.K B' v d → P d μ' → Q v H') (vs zv : List V) (ds zs : List DV) (B1 H1 : Hp) (μ1 : Mu), Nxt X.K B H μ B1 H1 μ1 → RepL X.K B1 vs ds → RepL X.K B1 zv zs →
            ((ds.length = as.len ∧ zs.length = ks.len) ∧ Γ.fn nm (ds ++ k.pm.map fun i => zs.getD i .non) μ1 P fun cls fs μ2 => Wd cls fs γ μ2) → vs.length = k.n ∧ zv.length = k.ks.length ∧ toSp X.K m (Γ.fn nm) (vs ++ k.pm.map fun i => zv.getD i .non) H1 Q (L2.WE W σ) := fun {W σ B H Q} S q vs zv ds zs B1 H1 μ1 n1 r1 r2 hk => by
          refine ⟨by rw [r1.length, hk.1.1]; exact e4, by rw [r2.length, hk.1.2, ← wl]; exact hkl, ?_, B1, μ1, _, P, _, n1.w, r1.app (r2.pick k.pm), hk.2, fun v d B2 H2 μ2 n2 r2 p2 => q v d B2 H2 μ2 (n1.trans n2) r2 p2,
            fun cls d fs B2 H2 μ2 n2 hx hw => S.xo cls d fs σ γ B2 H2 μ2 (n1.trans n2) (S.st.to (n1.trans n2).s) hx hw⟩
          rw [List.length_append, List.length_map, r1.length, hk.1.1, hmm, e4]
        intro W σ B H S Q q
        cases xs with
        | nil =>
          refine we_of (pe_kw0 (E := fun σ => L2.WE W σ) F hr (A.glb h1) hm hk hb (fun σ => passAt S.tk σ) pk_w k1 k2 (nmOk1 h0).1 (by rw [k3]; rfl)) ?_
          cases as with
          | cons a as => cases (show false = true from h3)
          | nil =>
            refine w0 rfl h4 W σ B H S _ fun zv zs B2 H2 μ2 n2 r2 k2 => ?_
            exact fin S q [] zv [] zs B2 H2 μ2 n2 .nil r2 ⟨⟨rfl, k2.1⟩, k2.2⟩
        | cons x xs =>
          cases as with
          | nil => cases (show false = true from h3)
          | cons a as =>
            obtain ⟨h5, h6⟩ := bool_and2 (show (ckE I a x && ckEs I as xs) = true from h3)
            refine we_of (pe_kw (E := fun σ => L2.WE W σ) F hr (A.glb h1) hm hk hb (fun σ => passAt S.tk σ) pa_w pk_w k1 k2 (nmOk1 h0).1 (starEach_cons (ck_nostar h5)) (by rw [(ck_hpl h3).1, k3]; rfl)) ?_
            exact w W σ B H S _ fun vs ds B1 H1 μ1 n1 r1 k1 => k1 W σ B1 H1 (S.next n1) _ fun zv zs B2 H2 μ2 n2 r2 k2 => fin S q vs zv ds zs B2 H2 μ2 (n1.trans n2) (r1.to n2.s) r2 k2
      · exact absurd trivial hT

/-! ### built-ins -/
theorem boot_bf (f : Bf) : bootBuiltins (bfN f) = some (bfV f) := by cases f <;> rfl
theorem btn_is (A : At X I Γ) {nm : Str} (h : btn I nm = true) : Gl X nm ∧ X.mg nm = none ∧ nm ≠ "__name__" ∧ (nm == ("__debug__" : Str)) = false := by
  unfold btn at h
  simp only [Bool.and_eq_true, decide_eq_true_eq] at h
  exact ⟨A.glb h.1.1.1, A.blt _ h.1.1.2, h.1.2, (nmOk1 h.2).1⟩
theorem de_cl {nm : Str} {f : Value} (hv : bootBuiltins nm = some f) (hf : (∃ id, f = .builtin id) ∨ ∃ T, f = .type T) (hg : Gl X nm) (hm : X.mg nm = none) (hn : nm ≠ "__name__") (hd : (nm == ("__debug__" : Str)) = false)
    (hs : starEach (e :: es) X.env = (false, eval e X.env) :: starEach es X.env) (hp : (backTo pos (starEach es X.env)).any (·.1) = false) (w : DA X Wd (e :: es) γ μ fun ds μ1 => RLD X (WCl X f) ds μ1 P) : DE X Wd (.Call (.Name nm p) (e :: es) [] pos) γ μ P := by
  intro W σ B H S Q q
  have k := w W σ B H S (fun vs H1 => WCl X f vs H1 Q) fun vs ds B1 H1 μ1 n1 r1 h1 => h1 B1 H1 vs n1.w r1 Q fun v d B2 H2 μ2 n2 r2 p2 => q v d B2 H2 μ2 (n1.trans n2) r2 p2
  rcases hf with ⟨id, rfl⟩ | ⟨T, rfl⟩
  · exact we_of (pe_callB callR_w hg hm hv pa_w hn hd hs hp) k
  · exact we_of (pe_callTy callR_w hg hm hv pa_w hn hd hs hp) k
theorem sd_bf {f : Bf} {as : Es} (A : At X I Γ) (h : ckE I (.bf f as) e = true) (w : ∀ {xs}, ckEs I as xs = true → DA X Wd xs γ μ fun ds μ1 => bfW f ds μ1 P) : DE X Wd e γ μ P := by
  cases e <;> try cases (show false = true from h)
  case Call fe xs kw pos =>
    cases fe <;> try cases (show false = true from h)
    case Name nm p =>
      cases xs <;> cases kw <;> try cases (show false = true from h)
      rename_i x xs
      have h : (decide (nm = bfN f) && btn I nm && ckEs I as (x :: xs)) = true := h
      obtain ⟨h, h2⟩ := bool_and2 h
      obtain ⟨h0, h1⟩ := bool_and2 h
      have e1 := of_decide_eq_true h0
      subst e1
      obtain ⟨g1, g2, g3, g4⟩ := btn_is A h1
      have w2 := w h2
      cases as with
      | nil => cases (show false = true from h2)
      | cons a as =>
        obtain ⟨h5, h6⟩ := bool_and2 (show (ckE I a x && ckEs I as xs) = true from h2)
        exact de_cl (boot_bf f) (by cases f <;> first | exact .inl ⟨_, rfl⟩ | exact .inr ⟨_, rfl⟩) g1 g2 g3 g4 (starEach_cons (ck_nostar h5)) (ck_hpl h6).1 (w2.imp fun ds μ1 k => bf_ok A.calm k)
theorem sd_isi {a : E} {t : String} (A : At X I Γ) (h : ckE I (.isi a t) e = true) (w : ∀ {x}, ckE I a x = true → DE X Wd x γ μ fun d μ1 => match tyD μ1 d with | some s => P (.bl (isT s t)) μ1 | none => False) : DE X Wd e γ μ P := by
  cases e <;> try cases (show false = true from h)
  case Call fe xs kw pos =>
    cases fe <;> try cases (show false = true from h)
    case Name nm p =>
      match xs, kw, h with
      | [x, y], kw, h =>
        cases y <;> cases kw <;> try cases (show false = true from h)
        rename_i y p2
        have h : (decide (nm = "isinstance") && btn I nm && btn I y && decide (bootBuiltins y = some (.type t)) && decide (t ∈ ["bool", "int", "str", "tuple", "list"]) && ckE I a x) = true := h
        simp only [Bool.and_eq_true, decide_eq_true_eq] at h
        obtain ⟨⟨⟨⟨⟨h1, h2⟩, h3⟩, h4⟩, h5⟩, h6⟩ := h
        subst h1
        obtain ⟨g1, g2, g3, g4⟩ := btn_is A h2
        obtain ⟨k1, k2, k3, k4⟩ := btn_is A h3
        refine de_cl (f := .builtin "isinstance") rfl (.inl ⟨_, rfl⟩) g1 g2 g3 g4 (starEach_cons (ck_nostar h6)) rfl (da_cons (starEach_cons (ck_nostar h6)) ((w h6).imp fun d μ1 k => da_cons rfl (de_ty k1 k2 h4 (da_nil ?_) k3 k4)))
        refine cl_of call_isi fun B H vs wf r Q q => ?_
        cases r with
        | cons r1 r2 =>
          cases r2 with
          | cons r2 r3 =>
            cases r3; cases r2
            cases hs : tyD μ1 d with
            | some s =>
              rw [hs] at k
              exact ⟨_, _, _, _, _, rfl, .ty t, tyD_ok hs wf r1, kit_ty (kit_isT s (tyD_mem hs) t h5), q _ _ B H μ1 (Nxt.refl wf) (.bl _) k⟩
            | none =>
              rw [hs] at k
              exact k.elim
      | [], _, h => cases (show false = true from h)
      | [_], _, h => cases (show false = true from h)
      | _ :: y :: _ :: _, kw, h => cases y <;> first | cases (show false = true from h) | (cases kw <;> cases (show false = true from h))
/-! ### methods -/
theorem sd_bm {m : Bm} {a : E} {as : Es} (A : At X I Γ) (h : ckE I (.bm m a as) e = true) (w : ∀ {x xs}, ckE I a x = true → ckEs I as xs = true → DE X Wd x γ μ fun d μ1 => bmT m d μ1 ∧ DA X Wd xs γ μ1 fun ds μ2 => bmW m d ds μ2 P)
    (w0 : as = .nil → ∀ {x}, ckE I a x = true → DE X Wd x γ μ fun d μ1 => bmT m d μ1 ∧ bmW m d [] μ1 P) : DE X Wd e γ μ P := by
  cases e <;> try cases (show false = true from h)
  case Call fe xs kw pos =>
    cases fe <;> try cases (show false = true from h)
    case Attribute o nm ap =>
      cases kw <;> try cases (show false = true from h)
      have h : (decide (nm = bmN m) && !isCall0 o && (ap.endLine == pos.line) && decide (as.len ≤ 20) && ckE I a o && ckEs I as xs) = true := h
      obtain ⟨h, h5⟩ := bool_and2 h
      obtain ⟨h, h4⟩ := bool_and2 h
      obtain ⟨h, h3⟩ := bool_and2 h
      obtain ⟨h, h2⟩ := bool_and2 h
      obtain ⟨h0, h1⟩ := bool_and2 h
      have e1 := of_decide_eq_true h0
      subst e1
      have h1 : isCall0 o = false := by simpa using h1
      obtain ⟨f1, f2, f3⟩ := bm_facts m
      have w2 := w h4 h5
      intro W σ B H S Q q
      cases xs with
      | nil =>
        cases as with
        | cons _ _ => cases (show false = true from h5)
        | nil =>
          refine we_of (pe_bm0 f1 f2 f3 mtR_w pe_w (attr_no h1) h2) (w0 rfl h4 W σ B H S _ fun v d B1 H1 μ1 n1 r1 k => ⟨bmT_ok k.1 n1.w r1, ?_⟩)
          exact bm_ok k.2 B1 H1 v [] n1.w r1 .nil Q fun u e B2 H2 μ2 n2 r2 p2 => q u e B2 H2 μ2 (n1.trans n2) r2 p2
      | cons x xs =>
        cases as with
        | nil => cases (show false = true from h5)
        | cons a1 as =>
          obtain ⟨h6, h7⟩ := bool_and2 (show (ckE I a1 x && ckEs I as xs) = true from h5)
          obtain ⟨p1, p2, p3⟩ := ck_hpl (env := X.env) (pos := pos) h5
          refine we_of (pe_bm f1 f2 f3 mtR_w pe_w pa_w (attr_no h1) ?_ h2 (starEach_cons (ck_nostar h6)) (ck_hpl h7).1) (w2 W σ B H S _ fun v d B1 H1 μ1 n1 r1 k => ⟨bmT_ok k.1 n1.w r1, k.2 W σ B1 H1 (S.next n1) _ fun vs ds B2 H2 μ2 n2 r2 k2 => ?_⟩)
          · rw [p2, List.length_cons]
            have q1 := of_decide_eq_true h3
            have q2 : xs.length + 1 ≤ 20 := by rw [← List.length_cons (a := x), p3]; exact q1
            simp only [Bool.true_and, Bool.and_eq_true, decide_eq_true_eq]
            exact ⟨rfl, by simp; omega⟩
          · exact bm_ok k2 B2 H2 v vs n2.w (r1.to n2.s) r2 Q fun u e B3 H3 μ3 n3 r3 p3 => q u e B3 H3 μ3 ((n1.trans n2).trans n3) r3 p3
end
end Sr

set_option Elab.async false
set_option linter.all false
set_option maxRecDepth 100000
set_option autoImplicit false
/-! What is walked: iterators over trees. -/
namespace Sr
open PySem PySem.Spec PyProof.Rows L2
def WI (X : Cx) (tg iter : Expr) : TI := fun σ H R => ∀ pins s, Inv X pins σ H s →
  wpAny (model X.prog X.w) X.A (eval iter X.env) (fun v s1 => wpAny (model X.prog X.w) X.A (pyIter v) (PIE X pins σ tg R) X.xe s1) X.xe s
/-- this iterator tells these -/
def ItOk (K : PySem.W.Frag) (J : L2.It) (xs : List DV) (stay : Mu → Prop) (B0 : Hp) : Prop := ∀ (B H : Hp) (μ : Mu) (i : Nat), Same B0 B → Wf K B H μ → stay μ →
  (∀ d, xs[i]? = some d → J.go i H ∧ ∀ x H', J.yld i H x H' → ∃ B', Nxt K B H μ B' H' μ ∧ Rep K B' x d) ∧ (xs.length ≤ i → J.stop i H)
def DI (X : Cx) (Wd : XD) (tg iter : Expr) (γ : Ga) (μ : Mu) (P : List DV → (Mu → Prop) → Mu → Prop) : Prop := ∀ (W : WX) (σ : L2.St) (B H : Hp), Sit X Wd W γ μ σ B H → ∀ R : L2.It → Hp → Prop,
  (∀ J xs stay B' H' μ', Nxt X.K B H μ B' H' μ' → ItOk X.K J xs stay B' → P xs stay μ' → R J H') → WI X tg iter σ H R
/-- a list or a tuple, walked -/
def iSq (K : PySem.W.Frag) (tl : TE) : TI := fun σ H R => tl σ H fun x H1 => ∃ a, x = .ref a ∧ (((∃ xs, SqL K H1 a xs) ∧ R (Itl K a) H1) ∨ ((∃ xs, SqT K H1 a xs) ∧ R (Itt K a) H1))
theorem enumD_len : ∀ (i : Nat) (ds : List DV), (enumD i ds).length = ds.length
  | _, [] => rfl
  | i, d :: ds => by rw [enumD, List.length_cons, List.length_cons, enumD_len]
theorem enumD_get : ∀ (k : Nat) (ds : List DV) (i : Nat), (enumD k ds)[i]? = ds[i]?.map fun d => .tup [.int ((k + i : Nat) : Int), d]
  | _, [], i => by simp [enumD]
  | k, d :: ds, 0 => by simp [enumD]
  | k, d :: ds, i + 1 => by
    rw [enumD, List.getElem?_cons_succ, List.getElem?_cons_succ, enumD_get]
    have : k + 1 + i = k + (i + 1) := by omega
    rw [this]
theorem zipD_get : ∀ (xs ys : List DV) (i : Nat) (d : DV), (zipD xs ys)[i]? = some d → ∃ x y, xs[i]? = some x ∧ ys[i]? = some y ∧ d = .tup [x, y]
  | x :: xs, y :: ys, 0, d, h => by
    simp only [zipD, List.getElem?_cons_zero, Option.some.injEq] at h
    exact ⟨x, y, rfl, rfl, h.symm⟩
  | x :: xs, y :: ys, i + 1, d, h => by
    rw [zipD, List.getElem?_cons_succ] at h
    exact zipD_get xs ys i d h
  | [], _, _, _, h => by simp [zipD] at h
  | _ :: _, [], _, _, h => by simp [zipD] at h
theorem zipD_len : ∀ (xs ys : List DV) (i : Nat), (zipD xs ys).length ≤ i → xs.length ≤ i ∨ ys.length ≤ i
  | x :: xs, y :: ys, 0, h => by simp [zipD] at h
  | x :: xs, y :: ys, i + 1, h => by
    simp only [zipD, List.length_cons] at h ⊢
    rcases zipD_len xs ys i (by omega) with k | k
    · exact .inl (by omega)
    · exact .inr (by omega)
  | [], _, _, _ => .inl (Nat.zero_le _)
  | _ :: _, [], _, _ => .inr (Nat.zero_le _)
section
variable {X : Cx} {I : SI} {Γ : Cxt} {Wd : XD} {γ γ' : Ga} {μ : Mu} {x y c e o tg iter a b : Expr} {es : List Expr} {pos pos' p : Pos} {d : DV} {D : DEnds} {st : Stmt} {sts : List Stmt} {P P' : List DV → (Mu → Prop) → Mu → Prop}
theorem pi_w : PI X tg iter (WI X tg iter) := ⟨fun pins s _ _ _ I h => h pins s I⟩
theorem wi_of {wi : TI} {σ : L2.St} {H : Hp} {R : L2.It → Hp → Prop} (q : PI X tg iter wi) (h : wi σ H R) : WI X tg iter σ H R := fun pins s I => q.run pins s σ H R I h
theorem DI.imp (h : DI X Wd tg iter γ μ P) (hp : ∀ xs st μ', P xs st μ' → P' xs st μ') : DI X Wd tg iter γ μ P' := fun W σ B H S R q =>
  h W σ B H S R fun J xs st B' H' μ' n k p => q J xs st B' H' μ' n k (hp _ _ _ p)
theorem pi_sq {l : Expr} {tl : TE} (hl : PE X l tl) : PI X tg l (iSq X.K tl) := by
  refine ⟨fun pins s σ H R I h => thn (hl.run pins s σ H _ I h) fun v s1 ⟨x, H1, I1, r1, a, ex, q1⟩ => ?_⟩
  subst ex
  cases r1
  have fin : ∀ b ∈ [s1.heap.objs.size], FpOk X pins H1 b := fun b hb => by
    rw [List.mem_singleton] at hb
    subst hb
    exact I1.fpOk (Nat.le_refl _) (I1.hok.fresh (Nat.le_refl _))
  have kp : ∀ (ob : Obj) b o, s1.heap.get? b = some o → (s1.heap.push ob).get? b = some o := fun ob b o k => Heap.get?_push_of_some _ k
  rcases q1 with ⟨⟨xs, hq⟩, q⟩ | ⟨⟨xs, hq⟩, q⟩
  · obtain ⟨its, rv, pl, hz⟩ := I1.list hq
    exact wpAny_pyIter_list pl.isList ⟨_, _, _, _, H1, rfl, I1.kept (t' := s1.toks) (kp _), turn_list a _, ⟨_, Heap.get?_push_size _ rfl, rfl, rfl⟩, fin, q⟩
  · obtain ⟨its, rv, pl, hz⟩ := I1.tuple hq
    exact wpAny_pyIter_tuple (show s1.heap.IsTuple a its.toArray from pl) ⟨_, _, _, _, H1, rfl, I1.kept (t' := s1.toks) (kp _), turn_tuple a _, ⟨_, Heap.get?_push_size _ rfl, rfl, rfl⟩, fin, q⟩
section
variable {K : PySem.W.Frag} {xs ys : List DV} {stay : Mu → Prop} {B0 : Hp} {a b : Addr}
theorem itl_ok (h : ∀ (B H : Hp) (μ : Mu), Same B0 B → Wf K B H μ → stay μ → ∃ vs, SqL K H a vs ∧ RepL K B vs xs) : ItOk K (Itl K a) xs stay B0 := fun B H μ i s w st => by
  obtain ⟨vs, q, r⟩ := h B H μ s w st
  refine ⟨fun d hd => ?_, fun hl => ⟨vs, q, by rw [r.length]; exact hl⟩⟩
  obtain ⟨v, hv, rv⟩ := r.get hd
  refine ⟨⟨vs, v, q, hv⟩, fun x H' ⟨e, y⟩ => ?_⟩
  subst e
  cases (y vs q).symm.trans hv
  exact ⟨B, Nxt.refl w, rv⟩
theorem itt_ok (h : ∀ (B H : Hp) (μ : Mu), Same B0 B → Wf K B H μ → stay μ → ∃ vs, SqT K H a vs ∧ RepL K B vs xs) : ItOk K (Itt K a) xs stay B0 := fun B H μ i s w st => by
  obtain ⟨vs, q, r⟩ := h B H μ s w st
  refine ⟨fun d hd => ?_, fun hl => ⟨vs, q, by rw [r.length]; exact hl⟩⟩
  obtain ⟨v, hv, rv⟩ := r.get hd
  refine ⟨⟨vs, v, q, hv⟩, fun x H' ⟨e, y⟩ => ?_⟩
  subst e
  cases (y vs q).symm.trans hv
  exact ⟨B, Nxt.refl w, rv⟩
theorem itr_ok {lo : Int} {n : Nat} : ItOk K (Itr lo n) (rngD lo n) (fun _ => True) B0 := fun B H μ i s w _ => by
  have hlen : (rngD lo n).length = n := by unfold rngD; rw [List.length_map, List.length_range]
  refine ⟨fun d hd => ?_, fun hl => by rw [hlen] at hl; exact hl⟩
  have hi : i < n := by
    have := (List.getElem?_eq_some_iff.mp hd).1
    rwa [hlen] at this
  refine ⟨hi, fun x H' ⟨e, y⟩ => ?_⟩
  subst e y
  refine ⟨B, Nxt.refl w, ?_⟩
  have e2 : (rngD lo n)[i]? = some (.int (lo + i)) := by
    unfold rngD
    rw [List.getElem?_map, List.getElem?_range hi]; rfl
  rw [e2] at hd; cases hd
  exact .int _
theorem ite_ok (h : ∀ (B H : Hp) (μ : Mu), Same B0 B → Wf K B H μ → stay μ → ∃ vs, SqL K H a vs ∧ RepL K B vs xs) : ItOk K (Ite K a) (enumD 0 xs) stay B0 := fun B H μ i s w st => by
  obtain ⟨vs, q, r⟩ := h B H μ s w st
  refine ⟨fun d hd => ?_, fun hl => ⟨vs, q, by rw [r.length]; rw [enumD_len] at hl; exact hl⟩⟩
  rw [enumD_get, Nat.zero_add] at hd
  cases e1 : xs[i]? with
  | none => rw [e1] at hd; cases hd
  | some d0 =>
    rw [e1] at hd; cases hd
    obtain ⟨v, hv, rv⟩ := r.get e1
    refine ⟨⟨vs, v, q, hv⟩, fun x H' ⟨T, x0, ex, hT, eH, y⟩ => ?_⟩
    subst ex eH
    cases (y vs q).symm.trans hv
    have n := w.knowN (o := .tup [.int (i : Nat), v]) hT
    exact ⟨_, n, .tup (SqT.of upd_same) (.cons (.int _) (.cons (rv.to n.s) .nil)) fun k => absurd k (by simp [strsV, isStrV])⟩
theorem noz_at {xs ys : List DV} {i : Nat} {d1 d2 : DV} {v u : V} {B : Hp} (nz : nozS xs ys = true) (e1 : xs[i]? = some d1) (e2 : ys[i]? = some d2) (rv : Rep K B v d1) (ru : Rep K B u d2) : strsV [v, u] ≠ true := fun k => by
  have m1 := List.mem_of_getElem? e1
  have m2 := List.mem_of_getElem? e2
  cases v <;> simp [strsV, isStrV] at k
  cases u <;> simp at k
  cases rv
  cases ru
  simp only [nozS, Bool.or_eq_true, List.all_eq_true] at nz
  rcases nz with nz | nz
  · exact absurd (nz _ m1) (by simp [isStrD])
  · exact absurd (nz _ m2) (by simp [isStrD])
theorem itz_ok (nz : nozS xs ys = true) (h : ∀ (B H : Hp) (μ : Mu), Same B0 B → Wf K B H μ → stay μ → ∃ vs us, SqL K H a vs ∧ RepL K B vs xs ∧ SqL K H b us ∧ RepL K B us ys) : ItOk K (Itz K a b) (zipD xs ys) stay B0 := fun B H μ i s w st => by
  obtain ⟨vs, us, q, r, q2, r2⟩ := h B H μ s w st
  refine ⟨fun d hd => ?_, fun hl => ⟨vs, us, q, q2, by rw [r.length, r2.length]; exact zipD_len _ _ _ hl⟩⟩
  obtain ⟨d1, d2, e1, e2, rfl⟩ := zipD_get _ _ _ _ hd
  obtain ⟨v, hv, rv⟩ := r.get e1
  obtain ⟨u, hu, ru⟩ := r2.get e2
  refine ⟨⟨vs, us, v, u, q, q2, hv, hu⟩, fun x H' ⟨T, x0, y0, ex, hT, eH, yx, yy⟩ => ?_⟩
  subst ex eH
  cases (yx vs q).symm.trans hv
  cases (yy us q2).symm.trans hu
  have n := w.knowN (o := .tup [v, u]) hT
  exact ⟨_, n, .tup (SqT.of upd_same) (.cons (rv.to n.s) (.cons (ru.to n.s) .nil)) fun k => absurd k (noz_at nz e1 e2 rv ru)⟩
theorem itzT_ok (nz : nozS xs ys = true) (h : ∀ (B H : Hp) (μ : Mu), Same B0 B → Wf K B H μ → stay μ → ∃ vs us, SqT K H a vs ∧ RepL K B vs xs ∧ SqT K H b us ∧ RepL K B us ys) : ItOk K (RZ.ItzT K a b) (zipD xs ys) stay B0 := fun B H μ i s w st => by
  obtain ⟨vs, us, q, r, q2, r2⟩ := h B H μ s w st
  refine ⟨fun d hd => ?_, fun hl => ⟨vs, us, q, q2, by rw [r.length, r2.length]; exact zipD_len _ _ _ hl⟩⟩
  obtain ⟨d1, d2, e1, e2, rfl⟩ := zipD_get _ _ _ _ hd
  obtain ⟨v, hv, rv⟩ := r.get e1
  obtain ⟨u, hu, ru⟩ := r2.get e2
  refine ⟨⟨vs, us, v, u, q, q2, hv, hu⟩, fun x H' ⟨T, x0, y0, ex, hT, eH, yx, yy⟩ => ?_⟩
  subst ex eH
  cases (yx vs q).symm.trans hv
  cases (yy us q2).symm.trans hu
  have n := w.knowN (o := .tup [v, u]) hT
  exact ⟨_, n, .tup (SqT.of upd_same) (.cons (rv.to n.s) (.cons (ru.to n.s) .nil)) fun k => absurd k (noz_at nz e1 e2 rv ru)⟩
theorem its_ok {z : Str} : ItOk K (Its z) (strD z) (fun _ => True) B0 := fun B H μ i s w _ => by
  have hlen : (strD z).length = z.cps.size := by unfold strD; rw [List.length_map, Array.length_toList]
  refine ⟨fun d hd => ?_, fun hl => by rw [hlen] at hl; exact hl⟩
  have hi : i < z.cps.size := by
    have := (List.getElem?_eq_some_iff.mp hd).1
    rwa [hlen] at this
  refine ⟨hi, fun x H' ⟨e, c, ec, y⟩ => ?_⟩
  subst e y
  refine ⟨B, Nxt.refl w, ?_⟩
  unfold strD at hd
  rw [List.getElem?_map, Array.getElem?_toList, ec] at hd
  cases hd
  exact .str _
end
/-- how a sequence is read, now and later -/
theorem sq_later {B H : Hp} {xs : List DV} {v : V} {K : PySem.W.Frag} (e : sq μ d = some xs) (w : Wf K B H μ) (r : Rep K B v d) : ∃ a, v = .ref a ∧
    (((∀ t, d ≠ .tup t) ∧ (∃ vs, SqL K H a vs) ∧ ∀ (B' H' : Hp) (μ' : Mu), Same B B' → Wf K B' H' μ' → sq μ' d = some xs → ∃ vs, SqL K H' a vs ∧ RepL K B' vs xs) ∨
     (d = .tup xs ∧ (∃ vs, SqT K H a vs) ∧ ∀ (B' H' : Hp) (μ' : Mu), Same B B' → Wf K B' H' μ' → sq μ' d = some xs → ∃ vs, SqT K H' a vs ∧ RepL K B' vs xs)) := by
  obtain ⟨a, vs, rfl, rl, s⟩ := sq_at e w r
  refine ⟨a, rfl, ?_⟩
  rcases s with ⟨s, nt⟩ | ⟨s, et⟩
  · refine .inl ⟨nt, ⟨vs, s⟩, fun B' H' μ' sb w' e' => ?_⟩
    obtain ⟨a2, us, ea, rl2, s2⟩ := sq_at e' w' (r.to sb)
    cases ea
    rcases s2 with ⟨s2, _⟩ | ⟨_, z⟩
    · exact ⟨us, s2, rl2⟩
    · exact absurd z (nt _)
  · refine .inr ⟨et, ⟨vs, s⟩, fun B' H' μ' sb w' e' => ?_⟩
    obtain ⟨a2, us, ea, rl2, s2⟩ := sq_at e' w' (r.to sb)
    cases ea
    rcases s2 with ⟨_, z⟩ | ⟨s2, _⟩
    · exact absurd et (z _)
    · exact ⟨us, s2, rl2⟩
theorem di_seq (h : DE X Wd iter γ μ fun d μ1 => ∃ xs, sq μ1 d = some xs ∧ P xs (fun μ2 => sq μ2 d = some xs) μ1) : DI X Wd tg iter γ μ P := fun W σ B H S R q =>
  wi_of (pi_sq pe_w) (h W σ B H S _ fun v d B1 H1 μ1 n1 r1 ⟨xs, e, p⟩ => by
    obtain ⟨a, rfl, k⟩ := sq_later e n1.w r1
    refine ⟨a, rfl, ?_⟩
    rcases k with ⟨_, ex, k⟩ | ⟨_, ex, k⟩
    · exact .inl ⟨ex, q _ xs _ B1 H1 μ1 n1 (itl_ok k) p⟩
    · exact .inr ⟨ex, q _ xs _ B1 H1 μ1 n1 (itt_ok k) p⟩)

theorem da_1 {P : DV → Mu → Prop} (hs : starEach [a] X.env = [(false, eval a X.env)]) (h : DE X Wd a γ μ P) : DA X Wd [a] γ μ fun ds μ' => ∃ d, ds = [d] ∧ P d μ' := da_cons hs (h.imp fun d μ1 k => da_nil ⟨d, rfl, k⟩)
theorem da_2 {P : DV → DV → Mu → Prop} (hs : starEach [a, b] X.env = (false, eval a X.env) :: starEach [b] X.env) (hs2 : starEach [b] X.env = [(false, eval b X.env)]) (h : DE X Wd a γ μ fun d μ1 => DE X Wd b γ μ1 fun d2 μ2 => P d d2 μ2) : DA X Wd [a, b] γ μ fun ds μ' => ∃ d d2, ds = [d, d2] ∧ P d d2 μ' :=
  da_cons hs (h.imp fun d μ1 k => (da_1 hs2 k).imp fun ds μ2 ⟨d2, e, k⟩ => ⟨d, d2, by rw [e], k⟩)
theorem di_rng1 (hg : Gl X "range") (hm : X.mg "range" = none) (hs : starEach [a] X.env = [(false, eval a X.env)]) (h : DE X Wd a γ μ (asI fun n μ1 => int62 n ∧ P (rngD 0 n.toNat) (fun _ => True) μ1)) : DI X Wd tg (.Call (.Name "range" p) [a] [] pos) γ μ P := fun W σ B H S R q =>
  wi_of (pi_range1 hg hm pa_w hs) (da_1 hs h W σ B H S _ fun vs ds B1 H1 μ1 n1 r1 ⟨d, e, k⟩ => by
    subst e
    obtain ⟨n, rfl, hi, k⟩ := asI_ex k
    have := RepL.ints (ns := [n]) r1
    subst this
    exact ⟨n, rfl, hi.1, hi.2, q _ _ _ B1 H1 μ1 n1 itr_ok k⟩)
theorem di_rng2 (hg : Gl X "range") (hm : X.mg "range" = none) (hs : starEach [a, b] X.env = (false, eval a X.env) :: starEach [b] X.env) (hs2 : starEach [b] X.env = [(false, eval b X.env)])
    (h : DE X Wd a γ μ (asI fun i μ1 => DE X Wd b γ μ1 (asI fun j μ2 => int62 i ∧ int62 j ∧ P (rngD i (j - i).toNat) (fun _ => True) μ2))) : DI X Wd tg (.Call (.Name "range" p) [a, b] [] pos) γ μ P := fun W σ B H S R q =>
  wi_of (pi_range2 hg hm pa_w (by rw [hs, hs2]) hs2) (da_2 (P := fun d d2 μ2 => ∃ i j, d = DV.int i ∧ d2 = .int j ∧ int62 i ∧ int62 j ∧ P (rngD i (j - i).toNat) (fun _ => True) μ2) hs hs2 (h.imp fun d μ1 k => by
      obtain ⟨i, rfl, k⟩ := asI_ex k
      exact k.imp fun d2 μ2 k => by
        obtain ⟨j, rfl, k⟩ := asI_ex k
        exact ⟨i, j, rfl, rfl, k⟩) W σ B H S _ fun vs ds B1 H1 μ1 n1 r1 ⟨_, _, e, i, j, e1, e2, hi, hj, k⟩ => by
    subst e e1 e2
    have := RepL.ints (ns := [i, j]) r1
    subst this
    exact ⟨i, j, rfl, ⟨hi.1, hi.2, hj.1, hj.2⟩, q _ _ _ B1 H1 μ1 n1 itr_ok k⟩)
theorem di_enum {elts : List Expr} {kk : Nat} {tpos : Pos} (hg : Gl X "enumerate") (hm : X.mg "enumerate" = none) (hs : starEach [a] X.env = [(false, eval a X.env)])
    (h : DE X Wd a γ μ fun d μ1 => ∃ xs, sq μ1 d = some xs ∧ isTupD d = false ∧ P (enumD 0 xs) (fun μ2 => sq μ2 d = some xs) μ1) : DI X Wd (.Tuple elts kk tpos) (.Call (.Name "enumerate" p) [a] [] pos) γ μ P := fun W σ B H S R q =>
  wi_of (pi_enum hg hm pa_w hs) (da_1 hs h W σ B H S _ fun vs ds B1 H1 μ1 n1 r1 ⟨d, e, k⟩ => by
    subst e
    cases r1 with
    | cons r1 r2 =>
      cases r2
      obtain ⟨xs, e, nt, k⟩ := k
      obtain ⟨a, rfl, z⟩ := sq_later e n1.w r1
      rcases z with ⟨_, ⟨us, ex⟩, z⟩ | ⟨z, _⟩
      · exact ⟨a, us, rfl, ex, q _ _ _ B1 H1 μ1 n1 (ite_ok z) k⟩
      · subst z; cases nt)
theorem di_zip {elts : List Expr} {kk : Nat} {tpos : Pos} (hg : Gl X "zip") (hm : X.mg "zip" = none) (hs : starEach [a, b] X.env = (false, eval a X.env) :: starEach [b] X.env) (hs2 : starEach [b] X.env = [(false, eval b X.env)])
    (h : DE X Wd a γ μ fun d μ1 => DE X Wd b γ μ1 fun d2 μ2 => ∃ xs ys, sq μ2 d = some xs ∧ sq μ2 d2 = some ys ∧ isTupD d = isTupD d2 ∧ nozS xs ys = true ∧ P (zipD xs ys) (fun μ3 => sq μ3 d = some xs ∧ sq μ3 d2 = some ys) μ2) : DI X Wd (.Tuple elts kk tpos) (.Call (.Name "zip" p) [a, b] [] pos) γ μ P := fun W σ B H S R q =>
  wi_of (RZ.pi_zipA hg hm pa_w hs (by rw [hs2]; rfl)) (da_2 hs hs2 h W σ B H S _ fun vs ds B1 H1 μ1 n1 r1 ⟨d, d2, e, xs, ys, e1, e2, et, nz, k⟩ => by
    subst e
    cases r1 with
    | cons r1 r2 =>
      cases r2 with
      | cons r2 r3 =>
        cases r3
        obtain ⟨a, rfl, z1⟩ := sq_later e1 n1.w r1
        obtain ⟨b, rfl, z2⟩ := sq_later e2 n1.w r2
        rcases z1 with ⟨nt, ⟨us, ex⟩, z1⟩ | ⟨et1, ⟨us, ex⟩, z1⟩ <;> rcases z2 with ⟨nt2, ⟨ws, ex2⟩, z2⟩ | ⟨et2, ⟨ws, ex2⟩, z2⟩
        · refine ⟨a, b, us, ws, rfl, .inl ⟨ex, ex2, q _ _ _ B1 H1 μ1 n1 (itz_ok nz fun B2 H2 μ2 sb w st => ?_) k⟩⟩
          obtain ⟨v1, p1, p2⟩ := z1 B2 H2 μ2 sb w st.1
          obtain ⟨v2, p3, p4⟩ := z2 B2 H2 μ2 sb w st.2
          exact ⟨v1, v2, p1, p2, p3, p4⟩
        · subst et2
          cases d <;> first | exact absurd rfl (nt _) | cases et
        · subst et1
          cases d2 <;> first | exact absurd rfl (nt2 _) | cases et
        · refine ⟨a, b, us, ws, rfl, .inr ⟨ex, ex2, q _ _ _ B1 H1 μ1 n1 (itzT_ok nz fun B2 H2 μ2 sb w st => ?_) k⟩⟩
          obtain ⟨v1, p1, p2⟩ := z1 B2 H2 μ2 sb w st.1
          obtain ⟨v2, p3, p4⟩ := z2 B2 H2 μ2 sb w st.2
          exact ⟨v1, v2, p1, p2, p3, p4⟩)
theorem di_str {e : Expr} (h : DE X Wd e γ μ fun d μ1 => ∃ z, d = .str z ∧ P (strD z) (fun _ => True) μ1) : DI X Wd tg e γ μ P := fun W σ B H S R q =>
  wi_of (pi_str pe_w) (h W σ B H S _ fun v d B1 H1 μ1 n1 r1 ⟨z, e, k⟩ => by
    subst e; cases r1
    exact ⟨z, rfl, q _ _ _ B1 H1 μ1 n1 its_ok k⟩)
end
end Sr

set_option Elab.async false
set_option linter.all false
set_option maxRecDepth 100000
set_option autoImplicit false
/-! Comprehensions. -/
namespace Sr
open PySem PySem.Spec PyProof.Rows L2
/-- Y is the context of a block of X -/
def Blk (X : Cx) (scope : Scope) (Y : Cx) : Prop := ∃ (s : Shared) (H : Hp) (C : Addr) (cl : List (Str × Addr)) (fp : List Addr), Y = X.blk s H scope (compEnvC scope cl C X.env) fp
def noX : XD := fun _ _ _ _ => False
def DTs (X : Cx) (Wd : XD) (ifs : List Expr) (γ : Ga) (μ : Mu) (P : Bool → Mu → Prop) : Prop := ∀ (W : WX) (σ : L2.St) (B H : Hp), Sit X Wd W γ μ σ B H →
  ∀ Q : Bool → Hp → Prop, (∀ b B' H' μ', Nxt X.K B H μ B' H' μ' → P b μ' → Q b H') → WTs X ifs σ H Q
def gB (X : Cx) (scope : Scope) (tg : Expr) : TG := fun v σ H Q => ∀ Y, Blk X scope Y → WG Y tg v σ H Q
def ttB (X : Cx) (scope : Scope) (ifs : List Expr) : TT := fun σ H Q => ∀ Y, Blk X scope Y → WTs Y ifs σ H Q
def teB (X : Cx) (scope : Scope) (e : Expr) : TE := fun σ H Q => ∀ Y, Blk X scope Y → WE Y e σ H Q
def iB (X : Cx) (scope : Scope) (tg iter : Expr) : TI := fun σ H R => ∀ Y, Blk X scope Y → WI Y tg iter σ H R
section
variable {X : Cx} {scope : Scope} {tg iter elt : Expr} {ifs : List Expr} {s : Shared} {H : Hp} {C : Addr} {cl : List (Str × Addr)} {fp : List Addr}
theorem pg_b : PG (X.blk s H scope (compEnvC scope cl C X.env) fp) tg (gB X scope tg) := ⟨fun pins s _ _ _ u _ I r h => h _ ⟨_, _, _, _, _, rfl⟩ pins s u I r⟩
theorem pts_b : PTs (X.blk s H scope (compEnvC scope cl C X.env) fp) ifs (ttB X scope ifs) := ⟨fun pins s _ _ _ I h => h _ ⟨_, _, _, _, _, rfl⟩ pins s I⟩
theorem pe_b : PE (X.blk s H scope (compEnvC scope cl C X.env) fp) elt (teB X scope elt) := ⟨fun pins s _ _ _ I h => h _ ⟨_, _, _, _, _, rfl⟩ pins s I⟩
theorem pi_b : PI (X.blk s H scope (compEnvC scope cl C X.env) fp) tg iter (iB X scope tg iter) := ⟨fun pins s _ _ _ I h => h _ ⟨_, _, _, _, _, rfl⟩ pins s I⟩
end
section
variable {K : PySem.W.Frag} {B B' B2 H H' H2 : Hp} {μ μ' μ2 : Mu} {a : Addr} {o : HO}
/-- what is not told may change -/
theorem Nxt.poke (n : Nxt K B H μ B' H' μ') (h : H a = none) (hb : B' a = none) (hm : μ' a = none) : Nxt K B H μ B' (upd H' a o) μ' :=
  ⟨n.s, ⟨fun b u e => by
      have hba : b ≠ a := fun z => by subst z; rw [hb] at e; cases e
      rw [upd_ne hba]; exact n.w.sub b u e,
    fun b m e => by
      have hba : b ≠ a := fun z => by subst z; rw [hm] at e; cases e
      obtain ⟨p, q⟩ := n.w.ob b m e
      exact ⟨p, q.to (Same.refl _) (upd_ne hba)⟩⟩,
   fun b u e k l => by
      obtain ⟨p, q, r⟩ := n.f b u e k l
      have hba : b ≠ a := fun z => by subst z; rw [h] at e; cases e
      exact ⟨by rw [upd_ne hba]; exact p, q, r⟩⟩
/-- what is not told is told from now on -/
theorem Nxt.tell {m : MO} (n : Nxt K B H μ B' H' μ') (h : H a = none) (hb : B' a = none) (r : RepM K B' H' a m) : Nxt K B H μ B' H' (upm μ' a m) :=
  ⟨n.s, ⟨n.w.sub, fun b u e => by
      by_cases hba : b = a
      · subst hba; rw [upm_same] at e; cases e; exact ⟨hb, r⟩
      · rw [upm_ne hba] at e; exact n.w.ob b u e⟩,
   fun b u e k l => by
      obtain ⟨p, q, r⟩ := n.f b u e k l
      have hba : b ≠ a := fun z => by subst z; rw [h] at e; cases e
      exact ⟨p, by rw [upm_ne hba]; exact q, r⟩⟩
theorem Nxt.learn (n : Nxt K B H μ B' H' μ') (h : H a = none) (hb : B' a = none) (hm : μ' a = none) (e : H' a = some o) : Nxt K B H μ (upd B' a o) H' μ' := by
  have sb : Same B' (upd B' a o) := fun b u q => by rw [upd_ne (ne_of_none q hb)]; exact q
  refine ⟨n.s.trans sb, ⟨fun b u q => ?_, fun b m q => ?_⟩, fun b u q k l => ?_⟩
  · by_cases hba : b = a
    · subst hba; rw [upd_same] at q; cases q; exact e
    · rw [upd_ne hba] at q; exact n.w.sub b u q
  · have hba : b ≠ a := fun z => by subst z; rw [hm] at q; cases q
    obtain ⟨p, r⟩ := n.w.ob b m q
    exact ⟨by rw [upd_ne hba]; exact p, r.to sb rfl⟩
  · obtain ⟨p, r, t⟩ := n.f b u q k l
    have hba : b ≠ a := fun z => by subst z; rw [h] at q; cases q
    exact ⟨p, r, by rw [upd_ne hba]; exact t⟩
/-- a list made aside is handed out -/
theorem newL_at {o : Bool} {vs : List V} {xs : List DV} {P : DV → Mu → Prop} {Q : VK} (n : Nxt K B H μ B' H' μ') (h : H a = none) (hb : B' a = none) (hm : μ' a = none) (e : H' a = some (.lst vs)) (r : RepL K B' vs xs) (k : newL o xs μ' P)
    (q : ∀ v d B' H' μ2, Nxt K B H μ B' H' μ2 → Rep K B' v d → P d μ2 → Q v H') : Q (.ref a) H' := by
  unfold newL at k
  cases o with
  | true =>
    rw [if_pos rfl] at k
    exact q _ _ _ _ _ (n.tell (m := .lst xs) h hb ⟨vs, e, r⟩) (.ref a) (k a hm)
  | false =>
    rw [if_neg Bool.false_ne_true] at k
    have n2 := n.learn h hb hm e
    refine q _ _ _ _ _ n2 (.lst upd_same (r.to fun b u q => ?_)) k
    rw [upd_ne (ne_of_none q hb)]; exact q
theorem upd_upd_id {vs : List V} {us : List V} : upd (upd H a (.lst vs)) a (.lst us) = upd H a (.lst us) := upd_upd
end
section
variable {X : Cx} {Wd : XD} {γ : Ga} {μ : Mu} {P : DV → Mu → Prop} {W : WX} {σ : L2.St} {B H : Hp}
theorem sit_blk {scope : Scope} {Y : Cx} (h : Blk X scope Y) (r : RepSt X.K B σ γ) (w : Wf X.K B H μ) : Sit Y noX (fun _ _ _ _ => False) γ μ σ B H := by
  obtain ⟨_, _, _, _, _, rfl⟩ := h
  exact ⟨r, w, fun _ _ _ _ _ _ _ _ _ _ _ z => z.elim, fun u s' z => by obtain ⟨_, _, _, _, _, _, _, _, _, _, _, _, _, _, _, _, z⟩ := z; exact z.elim⟩
theorem wipe_get : ∀ (vs : List Nat) (τ : L2.St) (i : Nat), (L2.wipe τ vs)[i]? = if i ∈ vs then (if i < τ.length then some none else none) else τ[i]?
  | [], τ, i => by rw [if_neg (fun z => by cases z)]; rfl
  | v :: vs, τ, i => by
    show ((L2.wipe τ vs).set v none)[i]? = _
    rw [List.getElem?_set, wipe_length, wipe_get vs τ i]
    by_cases hv : v = i
    · subst hv
      rw [if_pos rfl, if_pos (List.mem_cons_self)]
    · rw [if_neg hv]
      by_cases hi : i ∈ vs
      · rw [if_pos hi, if_pos (List.mem_cons_of_mem _ hi)]
      · rw [if_neg hi, if_neg (fun z => by
          rcases List.mem_cons.mp z with z | z
          · exact hv z.symm
          · exact hi z)]
theorem wipe_els {vs : List Nat} {σ σ' : L2.St} (h : Els vs (L2.wipe σ vs) σ') : L2.wipe σ' vs = L2.wipe σ vs := by
  have hl : σ'.length = σ.length := by rw [h.1, wipe_length]
  apply List.ext_getElem?
  intro i
  rw [wipe_get, hl]
  by_cases hi : i ∈ vs
  · rw [if_pos hi, wipe_get, if_pos hi]
  · rw [if_neg hi, h.2 i hi]
/-- one comprehension: what a turn does -/
def TurnOk {α : Type} (X : Cx) (scope : Scope) (vs : List Nat) (tg : Expr) (ifs : List Expr) (γ : Ga) (T : DV → α → Mu → (α → Mu → Prop) → Prop) (Yes : α → Ga → Mu → (α → Mu → Prop) → Prop) : Prop :=
  ∀ d acc μ k, T d acc μ k → ∀ Y, Blk X scope Y → DGo Y noX vs tg d (wipeG γ vs) μ fun γ1 μ1 => ∀ Y, Blk X scope Y → DTs Y noX ifs γ1 μ1 fun b μ2 => if b = true then Yes acc γ1 μ2 k else k acc μ2
theorem de_comp {o : Bool} {tg iter elt : Expr} {ifs : List Expr} {scope : Scope} {own : List (Str × Nat)} {T : DV → List DV → Mu → (List DV → Mu → Prop) → Prop} {Yes : List DV → Ga → Mu → (List DV → Mu → Prop) → Prop}
    (h : DI X Wd tg iter γ μ fun xs stay μ1 => compF stay T xs [] μ1 fun ys μ2 => newL o ys μ2 P)
    (ht : TurnOk X scope (own.map (·.2)) tg ifs γ T Yes)
    (he : ∀ acc γ1 μ1 k, Yes acc γ1 μ1 k → ∀ Y, Blk X scope Y → DE Y noX elt γ1 μ1 fun x μ2 => acc.length < sizeLine ∧ k (acc ++ [x]) μ2) : 
    ∀ (W : WX) (σ : L2.St) (B H : Hp), Sit X Wd W γ μ σ B H → ∀ Q : VK, (∀ v d B' H' μ', Nxt X.K B H μ B' H' μ' → Rep X.K B' v d → P d μ' → Q v H') → tLc (WI X tg iter) (gB X scope tg) (ttB X scope ifs) (teB X scope elt) (own.map (·.2)) σ H Q := by
  intro W σ B H S Q q
  generalize hvs : own.map (·.2) = vs at ht ⊢
  refine h W σ B H S _ fun J xs stay B1 H1 μ1 n1 io p D hD => ?_
  obtain ⟨hBD, hMD⟩ := n1.w.free hD
  have S1 := S.next n1
  refine ⟨fun i m H => m = xs.length - i ∧ i ≤ xs.length ∧ ∃ (B' : Hp) (μ' : Mu) (acc : List DV) (av : List V), Nxt X.K B1 H1 μ1 B' H μ' ∧ H D = some (.lst av) ∧ B' D = none ∧ μ' D = none ∧ RepL X.K B' av acc ∧ compF stay T (xs.drop i) acc μ' (fun ys μ2 => newL o ys μ2 P),
    ⟨xs.length, by simp, Nat.zero_le _, B1, μ1, [], [], (Nxt.refl n1.w).poke hD hBD hMD, upd_same, hBD, hMD, .nil, p⟩, ?_⟩
  rintro i m H2 ⟨rfl, hi, B2, μ2, acc, av, n2, hD2, hB2, hM2, ra, p2⟩
  have io2 := io B2 H2 μ2 i n2.s n2.w
  by_cases hlt : i < xs.length
  · obtain ⟨d, hd⟩ : ∃ d, xs[i]? = some d := ⟨xs[i], by simp [hlt]⟩
    have hdr : xs.drop i = d :: xs.drop (i + 1) := by
      rw [List.drop_eq_getElem_cons hlt]
      rw [List.getElem?_eq_getElem hlt] at hd
      cases hd; rfl
    rw [hdr] at p2
    obtain ⟨p2, p3⟩ := p2
    obtain ⟨io3, _⟩ := io2 p2
    obtain ⟨hgo, hy⟩ := io3 d hd
    refine .inr ⟨hgo, fun H => ∃ (B' : Hp) (μ' : Mu) (acc : List DV) (av : List V), Nxt X.K B1 H1 μ1 B' H μ' ∧ H D = some (.lst av) ∧ B' D = none ∧ μ' D = none ∧ RepL X.K B' av acc ∧ compF stay T (xs.drop (i + 1)) acc μ' (fun ys μ2 => newL o ys μ2 P), fun H' nx => ⟨xs.length - (i + 1), by omega, rfl, hlt, nx⟩, fun x H3 y => ?_⟩
    obtain ⟨B3, n3, rx⟩ := hy x H3 y
    obtain ⟨hD3, hM3, hB3⟩ := n3.f D _ hD2 hM2 hB2
    intro Y bY
    obtain ⟨s0, H0, C, cl, fp, rfl⟩ := bY
    have bY : Blk X scope (X.blk s0 H0 scope (compEnvC scope cl C X.env) fp) := ⟨_, _, _, _, _, rfl⟩
    have S3 : RepSt X.K B3 σ γ := S1.st.to (n2.s.trans n3.s)
    refine ht _ _ _ _ p3 _ bY _ _ _ _ x (sit_blk bY (S3.wipe vs) n3.w) rx _ fun σ4 γ4 B4 H4 μ4 n4 el r4 p4 => ⟨wipe_els el, ?_⟩
    obtain ⟨hD4, hM4, hB4⟩ := n4.f D _ hD3 hM3 hB3
    intro Y bY
    obtain ⟨s0, H0, C, cl, fp, rfl⟩ := bY
    have bY : Blk X scope (X.blk s0 H0 scope (compEnvC scope cl C X.env) fp) := ⟨_, _, _, _, _, rfl⟩
    refine p4 _ bY _ _ _ _ (sit_blk bY r4 n4.w) _ fun b B5 H5 μ5 n5 p5 => ?_
    obtain ⟨hD5, hM5, hB5⟩ := n5.f D _ hD4 hM4 hB4
    have n25 := n2.trans (n3.trans (n4.trans n5))
    have ra5 := ra.to (n3.s.trans (n4.s.trans n5.s))
    cases b with
    | false =>
      rw [if_neg Bool.false_ne_true] at p5 ⊢
      exact ⟨B5, μ5, acc, av, n25, hD5, hB5, hM5, ra5, p5⟩
    | true =>
      rw [if_pos rfl] at p5 ⊢
      intro Y bY
      obtain ⟨s0, H0, C, cl, fp, rfl⟩ := bY
      have bY : Blk X scope (X.blk s0 H0 scope (compEnvC scope cl C X.env) fp) := ⟨_, _, _, _, _, rfl⟩
      refine he _ _ _ _ p5 _ bY _ _ _ _ (sit_blk bY (r4.to n5.s) n5.w) _ fun v e B6 H6 μ6 n6 r6 p6 => ?_
      obtain ⟨hD6, hM6, hB6⟩ := n6.f D _ hD5 hM5 hB5
      have ra6 := ra5.to n6.s
      refine ⟨av, hD6, by rw [ra6.length]; exact p6.1, B6, μ6, acc ++ [e], av ++ [v], (n25.trans n6).poke hD hB6 hM6, upd_same, hB6, hM6, ra6.app (.one r6), p6.2⟩
  · have e : i = xs.length := by omega
    subst e
    rw [List.drop_length] at p2
    obtain ⟨p2, p3⟩ := p2
    obtain ⟨_, io3⟩ := io2 p2
    exact .inl ⟨io3 (Nat.le_refl _), newL_at n2 hD hB2 hM2 hD2 ra p3 fun v d B' H' μ' n' => q v d B' H' μ' (n1.trans n')⟩
/-- a dict's comprehension -/
theorem RepF.len {K : PySem.W.Frag} {B : Hp} : ∀ {vs : List (Str × V)} {ds : List (Str × DV)}, RepF K B vs ds → vs.length = ds.length := fun h => h.length
theorem de_dcomp {tg iter ek ev : Expr} {ifs : List Expr} {scope : Scope} {own : List (Str × Nat)} {T : DV → List (Str × DV) → Mu → (List (Str × DV) → Mu → Prop) → Prop} {Yes : List (Str × DV) → Ga → Mu → (List (Str × DV) → Mu → Prop) → Prop}
    (h : DI X Wd tg iter γ μ fun xs stay μ1 => compF stay T xs [] μ1 fun ys μ2 => P (.dic ys) μ2)
    (ht : TurnOk X scope (own.map (·.2)) tg ifs γ T Yes)
    (he : ∀ acc γ1 μ1 k, Yes acc γ1 μ1 k → ∀ Y, Blk X scope Y → DE Y noX ek γ1 μ1 fun x μ2 => ∀ Y, Blk X scope Y → DE Y noX ev γ1 μ2 fun y μ3 => ∃ z, x = .str z ∧ acc.length < sizeLine ∧ k (putA acc z y) μ3) : 
    ∀ (W : WX) (σ : L2.St) (B H : Hp), Sit X Wd W γ μ σ B H → ∀ Q : VK, (∀ v d B' H' μ', Nxt X.K B H μ B' H' μ' → Rep X.K B' v d → P d μ' → Q v H') → tDc (WI X tg iter) (gB X scope tg) (ttB X scope ifs) (teB X scope ek) (teB X scope ev) (own.map (·.2)) σ H Q := by
  intro W σ B H S Q q
  generalize hvs : own.map (·.2) = vs at ht ⊢
  refine h W σ B H S _ fun J xs stay B1 H1 μ1 n1 io p D hD => ?_
  obtain ⟨hBD, hMD⟩ := n1.w.free hD
  have S1 := S.next n1
  refine ⟨fun i m H => m = xs.length - i ∧ i ≤ xs.length ∧ ∃ (B' : Hp) (μ' : Mu) (acc : List (Str × DV)) (av : List (Str × V)), Nxt X.K B1 H1 μ1 B' H μ' ∧ H D = some (.dK (keyD av)) ∧ B' D = none ∧ μ' D = none ∧ RepF X.K B' av acc ∧ compF stay T (xs.drop i) acc μ' (fun ys μ2 => P (.dic ys) μ2),
    ⟨xs.length, by simp, Nat.zero_le _, B1, μ1, [], [], (Nxt.refl n1.w).poke hD hBD hMD, upd_same, hBD, hMD, .nil, p⟩, ?_⟩
  rintro i m H2 ⟨rfl, hi, B2, μ2, acc, av, n2, hD2, hB2, hM2, ra, p2⟩
  have io2 := io B2 H2 μ2 i n2.s n2.w
  by_cases hlt : i < xs.length
  · obtain ⟨d, hd⟩ : ∃ d, xs[i]? = some d := ⟨xs[i], by simp [hlt]⟩
    have hdr : xs.drop i = d :: xs.drop (i + 1) := by
      rw [List.drop_eq_getElem_cons hlt]
      rw [List.getElem?_eq_getElem hlt] at hd
      cases hd; rfl
    rw [hdr] at p2
    obtain ⟨p2, p3⟩ := p2
    obtain ⟨io3, _⟩ := io2 p2
    obtain ⟨hgo, hy⟩ := io3 d hd
    refine .inr ⟨hgo, fun H => ∃ (B' : Hp) (μ' : Mu) (acc : List (Str × DV)) (av : List (Str × V)), Nxt X.K B1 H1 μ1 B' H μ' ∧ H D = some (.dK (keyD av)) ∧ B' D = none ∧ μ' D = none ∧ RepF X.K B' av acc ∧ compF stay T (xs.drop (i + 1)) acc μ' (fun ys μ2 => P (.dic ys) μ2), fun H' nx => ⟨xs.length - (i + 1), by omega, rfl, hlt, nx⟩, fun x H3 y => ?_⟩
    obtain ⟨B3, n3, rx⟩ := hy x H3 y
    obtain ⟨hD3, hM3, hB3⟩ := n3.f D _ hD2 hM2 hB2
    intro Y bY
    obtain ⟨s0, H0, C, cl, fp, rfl⟩ := bY
    have bY : Blk X scope (X.blk s0 H0 scope (compEnvC scope cl C X.env) fp) := ⟨_, _, _, _, _, rfl⟩
    have S3 : RepSt X.K B3 σ γ := S1.st.to (n2.s.trans n3.s)
    refine ht _ _ _ _ p3 _ bY _ _ _ _ x (sit_blk bY (S3.wipe vs) n3.w) rx _ fun σ4 γ4 B4 H4 μ4 n4 el r4 p4 => ⟨wipe_els el, ?_⟩
    obtain ⟨hD4, hM4, hB4⟩ := n4.f D _ hD3 hM3 hB3
    intro Y bY
    obtain ⟨s0, H0, C, cl, fp, rfl⟩ := bY
    have bY : Blk X scope (X.blk s0 H0 scope (compEnvC scope cl C X.env) fp) := ⟨_, _, _, _, _, rfl⟩
    refine p4 _ bY _ _ _ _ (sit_blk bY r4 n4.w) _ fun b B5 H5 μ5 n5 p5 => ?_
    obtain ⟨hD5, hM5, hB5⟩ := n5.f D _ hD4 hM4 hB4
    have n25 := n2.trans (n3.trans (n4.trans n5))
    have ra5 := ra.to (n3.s.trans (n4.s.trans n5.s))
    cases b with
    | false =>
      rw [if_neg Bool.false_ne_true] at p5 ⊢
      exact ⟨B5, μ5, acc, av, n25, hD5, hB5, hM5, ra5, p5⟩
    | true =>
      rw [if_pos rfl] at p5 ⊢
      intro Y bY
      obtain ⟨s0, H0, C, cl, fp, rfl⟩ := bY
      have bY : Blk X scope (X.blk s0 H0 scope (compEnvC scope cl C X.env) fp) := ⟨_, _, _, _, _, rfl⟩
      refine he _ _ _ _ p5 _ bY _ _ _ _ (sit_blk bY (r4.to n5.s) n5.w) _ fun v e B6 H6 μ6 n6 r6 p6 => ?_
      obtain ⟨hD6, hM6, hB6⟩ := n6.f D _ hD5 hM5 hB5
      intro Y bY
      obtain ⟨s0, H0, C, cl, fp, rfl⟩ := bY
      have bY : Blk X scope (X.blk s0 H0 scope (compEnvC scope cl C X.env) fp) := ⟨_, _, _, _, _, rfl⟩
      refine p6 _ bY _ _ _ _ (sit_blk bY (r4.to (n5.s.trans n6.s)) n6.w) _ fun v7 e7 B7 H7 μ7 n7 r7 p7 => ?_
      obtain ⟨hD7, hM7, hB7⟩ := n7.f D _ hD6 hM6 hB6
      obtain ⟨z, rfl, hl7, p7⟩ := p7
      cases r6
      have ra7 := ra5.to (n6.s.trans n7.s)
      refine ⟨_, (.inr z : Key), rfl, hD7, by rw [keyD_len, ra7.len]; exact hl7, B7, μ7, putA acc z e7, putA av z v7, ((n25.trans n6).trans n7).poke hD hB7 hM7, ?_, hB7, hM7, ra7.put r7, p7⟩
      rw [upd_same, keyD_put]
  · have e : i = xs.length := by omega
    subst e
    rw [List.drop_length] at p2
    obtain ⟨p2, p3⟩ := p2
    obtain ⟨_, io3⟩ := io2 p2
    have n3 := n2.learn hD hB2 hM2 hD2
    refine .inl ⟨io3 (Nat.le_refl _), q _ _ _ _ _ (n1.trans n3) (.dic upd_same (ra.to fun b u q => ?_)) p3⟩
    rw [upd_ne (ne_of_none q hB2)]; exact q
/-- two clauses -/
theorem de_comp2 {o : Bool} {tg iter elt tg1 iter1 : Expr} {ifs ifs1 : List Expr} {scope : Scope} {own : List (Str × Nat)} {vs1 : List Nat} {T : DV → List DV → Mu → (List DV → Mu → Prop) → Prop} {Yes Yes1 : List DV → Ga → Mu → (List DV → Mu → Prop) → Prop}
    {T1 : Ga → DV → List DV → Mu → (List DV → Mu → Prop) → Prop}
    (h : DI X Wd tg iter γ μ fun xs stay μ1 => compF stay T xs [] μ1 fun ys μ2 => newL o ys μ2 P)
    (ht : TurnOk X scope (own.map (·.2)) tg ifs γ T Yes)
    (hi : ∀ acc γ1 μ1 k, Yes acc γ1 μ1 k → ∀ Y, Blk X scope Y → DI Y noX tg1 iter1 γ1 μ1 fun ys stay μ2 => compF stay (T1 γ1) ys acc μ2 k)
    (ht1 : ∀ γ1, TurnOk X scope vs1 tg1 ifs1 γ1 (T1 γ1) Yes1)
    (he : ∀ acc γ1 μ1 k, Yes1 acc γ1 μ1 k → ∀ Y, Blk X scope Y → DE Y noX elt γ1 μ1 fun x μ2 => acc.length < sizeLine ∧ k (acc ++ [x]) μ2) :
    ∀ (W : WX) (σ : L2.St) (B H : Hp), Sit X Wd W γ μ σ B H → ∀ Q : VK, (∀ v d B' H' μ', Nxt X.K B H μ B' H' μ' → Rep X.K B' v d → P d μ' → Q v H') → tLc2 (WI X tg iter) (gB X scope tg) (ttB X scope ifs) (iB X scope tg1 iter1) (gB X scope tg1) (ttB X scope ifs1) (teB X scope elt) (own.map (·.2)) vs1 σ H Q := by
  intro W σ B H S Q q
  generalize hvs : own.map (·.2) = vs at ht ⊢
  refine h W σ B H S _ fun J xs stay B1 H1 μ1 n1 io p D hD => ?_
  obtain ⟨hBD, hMD⟩ := n1.w.free hD
  have S1 := S.next n1
  refine ⟨fun i m H => m = xs.length - i ∧ i ≤ xs.length ∧ ∃ (B' : Hp) (μ' : Mu) (acc : List DV) (av : List V), Nxt X.K B1 H1 μ1 B' H μ' ∧ H D = some (.lst av) ∧ B' D = none ∧ μ' D = none ∧ RepL X.K B' av acc ∧ compF stay T (xs.drop i) acc μ' (fun ys μ2 => newL o ys μ2 P),
    ⟨xs.length, by simp, Nat.zero_le _, B1, μ1, [], [], (Nxt.refl n1.w).poke hD hBD hMD, upd_same, hBD, hMD, .nil, p⟩, ?_⟩
  rintro i m H2 ⟨rfl, hi0, B2, μ2, acc, av, n2, hD2, hB2, hM2, ra, p2⟩
  have io2 := io B2 H2 μ2 i n2.s n2.w
  by_cases hlt : i < xs.length
  · obtain ⟨d, hd⟩ : ∃ d, xs[i]? = some d := ⟨xs[i], by simp [hlt]⟩
    have hdr : xs.drop i = d :: xs.drop (i + 1) := by
      rw [List.drop_eq_getElem_cons hlt]
      rw [List.getElem?_eq_getElem hlt] at hd
      cases hd; rfl
    rw [hdr] at p2
    obtain ⟨p2, p3⟩ := p2
    obtain ⟨io3, _⟩ := io2 p2
    obtain ⟨hgo, hy⟩ := io3 d hd
    refine .inr ⟨hgo, fun H => ∃ (B' : Hp) (μ' : Mu) (acc : List DV) (av : List V), Nxt X.K B1 H1 μ1 B' H μ' ∧ H D = some (.lst av) ∧ B' D = none ∧ μ' D = none ∧ RepL X.K B' av acc ∧ compF stay T (xs.drop (i + 1)) acc μ' (fun ys μ2 => newL o ys μ2 P), fun H' nx => ⟨xs.length - (i + 1), by omega, rfl, hlt, nx⟩, fun x H3 y => ?_⟩
    obtain ⟨B3, n3, rx⟩ := hy x H3 y
    obtain ⟨hD3, hM3, hB3⟩ := n3.f D _ hD2 hM2 hB2
    intro Y bY
    obtain ⟨s0, H0, C, cl, fp, rfl⟩ := bY
    have bY : Blk X scope (X.blk s0 H0 scope (compEnvC scope cl C X.env) fp) := ⟨_, _, _, _, _, rfl⟩
    have S3 : RepSt X.K B3 σ γ := S1.st.to (n2.s.trans n3.s)
    refine ht _ _ _ _ p3 _ bY _ _ _ _ x (sit_blk bY (S3.wipe vs) n3.w) rx _ fun σ4 γ4 B4 H4 μ4 n4 el r4 p4 => ⟨wipe_els el, ?_⟩
    obtain ⟨hD4, hM4, hB4⟩ := n4.f D _ hD3 hM3 hB3
    intro Y bY
    obtain ⟨s0, H0, C, cl, fp, rfl⟩ := bY
    have bY : Blk X scope (X.blk s0 H0 scope (compEnvC scope cl C X.env) fp) := ⟨_, _, _, _, _, rfl⟩
    refine p4 _ bY _ _ _ _ (sit_blk bY r4 n4.w) _ fun b B5 H5 μ5 n5 p5 => ?_
    obtain ⟨hD5, hM5, hB5⟩ := n5.f D _ hD4 hM4 hB4
    have n25 := n2.trans (n3.trans (n4.trans n5))
    have ra5 := ra.to (n3.s.trans (n4.s.trans n5.s))
    cases b with
    | false =>
      rw [if_neg Bool.false_ne_true] at p5 ⊢
      exact ⟨B5, μ5, acc, av, n25, hD5, hB5, hM5, ra5, p5⟩
    | true =>
      rw [if_pos rfl] at p5 ⊢
      intro Y bY
      obtain ⟨s0, H0, C, cl, fp, rfl⟩ := bY
      have bY : Blk X scope (X.blk s0 H0 scope (compEnvC scope cl C X.env) fp) := ⟨_, _, _, _, _, rfl⟩
      have S5 := r4.to n5.s
      refine hi _ _ _ _ p5 _ bY _ _ _ _ (sit_blk bY S5 n5.w) _ fun J1 ys stay1 B6 H6 μ6 n6 jo p6 => ?_
      obtain ⟨hD6, hM6, hB6⟩ := n6.f D _ hD5 hM5 hB5
      refine ⟨fun j m H => m = ys.length - j ∧ j ≤ ys.length ∧ ∃ (B' : Hp) (μ' : Mu) (acc : List DV) (av : List V), Nxt X.K B1 H1 μ1 B' H μ' ∧ Same B6 B' ∧ H D = some (.lst av) ∧ B' D = none ∧ μ' D = none ∧ RepL X.K B' av acc ∧ compF stay1 (T1 γ4) (ys.drop j) acc μ' (fun ys μ2 => compF stay T (xs.drop (i + 1)) ys μ2 (fun ys μ2 => newL o ys μ2 P)),
        ⟨ys.length, by simp, Nat.zero_le _, B6, μ6, acc, av, n25.trans n6, Same.refl _, hD6, hB6, hM6, ra5.to n6.s, p6⟩, ?_⟩
      rintro j m H7 ⟨rfl, hj, B7, μ7, acc7, av7, n7, s7, hD7, hB7, hM7, ra7, p7⟩
      have jo2 := jo B7 H7 μ7 j s7 n7.w
      by_cases hlt2 : j < ys.length
      · obtain ⟨d2, hd2⟩ : ∃ d, ys[j]? = some d := ⟨ys[j], by simp [hlt2]⟩
        have hdr2 : ys.drop j = d2 :: ys.drop (j + 1) := by
          rw [List.drop_eq_getElem_cons hlt2]
          rw [List.getElem?_eq_getElem hlt2] at hd2
          cases hd2; rfl
        rw [hdr2] at p7
        obtain ⟨p7, p8⟩ := p7
        obtain ⟨jo3, _⟩ := jo2 p7
        obtain ⟨hgo2, hy2⟩ := jo3 d2 hd2
        refine .inr ⟨hgo2, fun H => ∃ (B' : Hp) (μ' : Mu) (acc : List DV) (av : List V), Nxt X.K B1 H1 μ1 B' H μ' ∧ Same B6 B' ∧ H D = some (.lst av) ∧ B' D = none ∧ μ' D = none ∧ RepL X.K B' av acc ∧ compF stay1 (T1 γ4) (ys.drop (j + 1)) acc μ' (fun ys μ2 => compF stay T (xs.drop (i + 1)) ys μ2 (fun ys μ2 => newL o ys μ2 P)), fun H' nx => ⟨ys.length - (j + 1), by omega, rfl, hlt2, nx⟩, fun x8 H8 y8 => ?_⟩
        obtain ⟨B8, n8, rx8⟩ := hy2 x8 H8 y8
        obtain ⟨hD8, hM8, hB8⟩ := n8.f D _ hD7 hM7 hB7
        intro Y bY
        obtain ⟨s0, H0, C, cl, fp, rfl⟩ := bY
        have bY : Blk X scope (X.blk s0 H0 scope (compEnvC scope cl C X.env) fp) := ⟨_, _, _, _, _, rfl⟩
        refine ht1 γ4 _ _ _ _ p8 _ bY _ _ _ _ x8 (sit_blk bY ((S5.to (n6.s.trans (s7.trans n8.s))).wipe vs1) n8.w) rx8 _ fun σ9 γ9 B9 H9 μ9 n9 el9 r9 p9 => ⟨wipe_els el9, ?_⟩
        obtain ⟨hD9, hM9, hB9⟩ := n9.f D _ hD8 hM8 hB8
        intro Y bY
        obtain ⟨s0, H0, C, cl, fp, rfl⟩ := bY
        have bY : Blk X scope (X.blk s0 H0 scope (compEnvC scope cl C X.env) fp) := ⟨_, _, _, _, _, rfl⟩
        refine p9 _ bY _ _ _ _ (sit_blk bY r9 n9.w) _ fun b B10 H10 μ10 n10 p10 => ?_
        obtain ⟨hD10, hM10, hB10⟩ := n10.f D _ hD9 hM9 hB9
        have n70 := n7.trans (n8.trans (n9.trans n10))
        have s70 := s7.trans (n8.s.trans (n9.s.trans n10.s))
        have ra10 := ra7.to (n8.s.trans (n9.s.trans n10.s))
        cases b with
        | false =>
          rw [if_neg Bool.false_ne_true] at p10 ⊢
          exact ⟨B10, μ10, acc7, av7, n70, s70, hD10, hB10, hM10, ra10, p10⟩
        | true =>
          rw [if_pos rfl] at p10 ⊢
          intro Y bY
          obtain ⟨s0, H0, C, cl, fp, rfl⟩ := bY
          have bY : Blk X scope (X.blk s0 H0 scope (compEnvC scope cl C X.env) fp) := ⟨_, _, _, _, _, rfl⟩
          refine he _ _ _ _ p10 _ bY _ _ _ _ (sit_blk bY (r9.to n10.s) n10.w) _ fun v e B11 H11 μ11 n11 r11 p11 => ?_
          obtain ⟨hD11, hM11, hB11⟩ := n11.f D _ hD10 hM10 hB10
          have ra11 := ra10.to n11.s
          exact ⟨av7, hD11, by rw [ra11.length]; exact p11.1, B11, μ11, acc7 ++ [e], av7 ++ [v], (n70.trans n11).poke hD hB11 hM11, s70.trans n11.s, upd_same, hB11, hM11, ra11.app (.one r11), p11.2⟩
      · have e : j = ys.length := by omega
        subst e
        rw [List.drop_length] at p7
        obtain ⟨p7, p8⟩ := p7
        obtain ⟨_, jo3⟩ := jo2 p7
        exact .inl ⟨jo3 (Nat.le_refl _), B7, μ7, acc7, av7, n7, hD7, hB7, hM7, ra7, p8⟩
  · have e : i = xs.length := by omega
    subst e
    rw [List.drop_length] at p2
    obtain ⟨p2, p3⟩ := p2
    obtain ⟨_, io3⟩ := io2 p2
    exact .inl ⟨io3 (Nat.le_refl _), newL_at n2 hD hB2 hM2 hD2 ra p3 fun v d B' H' μ' n' => q v d B' H' μ' (n1.trans n')⟩
end
end Sr

set_option Elab.async false
set_option linter.all false
set_option maxRecDepth 100000
set_option autoImplicit false
/-! Targets with a star; loops. -/
namespace Sr
open PySem PySem.Spec PyProof.Rows L2

section
variable {prog : Program} {w : World} {A : Around} {E : Value → Shared → Prop} {s : Shared}
/-- the heap keeps what it had -/
def Kp (h h' : Heap) : Prop := ∀ b o, h.get? b = some o → h'.get? b = some o
theorem star_tup {l : Addr} {its : Array Value} {n k : Nat} {Q : List Value → Shared → Prop} (hl : IsTup s.heap l its) (hh : A.handled = none) (hi : k < n) (hn : n ≤ its.size + 1) (hz : its.size ≤ 16384)
    (h : ∀ h' tk, Kp s.heap h' → Q (its.toList.take k ++ [.ref h'.objs.size] ++ (its.toList.drop k).drop (its.size + 1 - n)) { s with heap := h'.push { cls := .type "list", data := .seq ((its.toList.drop k).take (its.size + 1 - n)).toArray }, toks := tk }) :
    wpAny (model prog w) A (unpackItems (.ref l) n (some k)) Q E s := by
  have hlt : l ≠ s.heap.objs.size := Nat.ne_of_lt (by obtain ⟨o, ho, _⟩ := hl; exact Heap.lt_size ho)
  unfold unpackItems
  refine wpAny_bind (show wpAny _ _ (notIterableAtAll _) _ _ _ from by
    unfold notIterableAtAll
    refine wpAny_bind (wpAny_specialOf hl.typeIs slot_tuple_iter.lookup (wpAny_pure ?_))
    simp only [Bool.false_eq_true, if_false]
    refine wpAny_bind (wpAny_holding (iter_tuple hl (wpAny_bind (wpAny_holding (draw_tuple hlt k 0 _ _ ⟨_, Heap.get?_push_size _ rfl, rfl, rfl⟩ (hl.push _) (by omega) fun h1 hit hs => ?_)))))
    have hl1 : IsTup h1 l its := (hl.push _).extBut hs.extBut hlt
    rw [Nat.zero_add] at hit
    have lo : l < h1.objs.size := by obtain ⟨ob, q, _⟩ := hl1; exact Heap.lt_size q
    have li : s.heap.objs.size < h1.objs.size := by obtain ⟨ob, q, _⟩ := hit; exact Heap.lt_size q
    have hfl : (its.toList.take k).length = k := by rw [List.length_take, Array.length_toList]; omega
    rw [List.drop_zero, if_neg (by omega)]
    refine wpAny_bind (wpAny_holding (PySem.W.kun_collect (s := { s with heap := h1 }) (T := "tuple_iterator") (.inr (.inr (.inr rfl))) (Walks.tuple (A := A.in1) hh s.heap.objs.size l hlt its) (fun j u st => st.1.typeIs) (k := k) (by omega) ⟨hit, hl1⟩ li lo (fun h2 tk hk => ?_) (by rw [sizeLine_eq]; omega)))
    have hrl : (its.toList.drop k).length = its.size - k := by rw [List.length_drop, Array.length_toList]
    have hmid : (its.toList.drop k).length - (n - 1 - k) = its.size + 1 - n := by omega
    show wpAny _ _ (if (its.toList.drop k).length < n - 1 - k then _ else _) _ _ _
    rw [if_neg (by omega)]
    show wpAny _ _ (newList ((its.toList.drop k).take ((its.toList.drop k).length - (n - 1 - k))) >>= fun d => pure (its.toList.take k ++ [d] ++ (its.toList.drop k).drop ((its.toList.drop k).length - (n - 1 - k)))) _ _ _
    rw [hmid]
    refine wpAny_bind (wpAny_newList (wpAny_pure (h h2 tk fun b o e => ?_)) (by rw [List.length_take, hrl, sizeLine_eq]; omega))
    have hb := Heap.lt_size e
    exact hk b o (Nat.ne_of_lt hb) (hs.extBut b o (Nat.ne_of_lt hb) (Heap.get?_push_of_some _ e)))
theorem star_lst {l : Addr} {its : Array Value} {n k : Nat} {Q : List Value → Shared → Prop} (hl : s.heap.IsList l its) (hh : A.handled = none) (hi : k < n) (hn : n ≤ its.size + 1) (hz : its.size ≤ 16384)
    (h : ∀ h' tk, Kp s.heap h' → Q (its.toList.take k ++ [.ref h'.objs.size] ++ (its.toList.drop k).drop (its.size + 1 - n)) { s with heap := h'.push { cls := .type "list", data := .seq ((its.toList.drop k).take (its.size + 1 - n)).toArray }, toks := tk }) :
    wpAny (model prog w) A (unpackItems (.ref l) n (some k)) Q E s := by
  have hlt : l ≠ s.heap.objs.size := Nat.ne_of_lt (by obtain ⟨o, ho, _⟩ := hl; exact Heap.lt_size ho)
  unfold unpackItems
  refine wpAny_bind (show wpAny _ _ (notIterableAtAll _) _ _ _ from by
    unfold notIterableAtAll
    refine wpAny_bind (wpAny_specialOf hl.typeIs slot_list_iter.lookup (wpAny_pure ?_))
    simp only [Bool.false_eq_true, if_false]
    refine wpAny_bind (wpAny_holding (wpAny_pyIter_list hl (wpAny_bind (wpAny_holding (PySem.W.kun_draw hlt k 0 _ _ ⟨_, Heap.get?_push_size _ rfl, rfl, rfl⟩ (hl.push _) (by omega) fun h1 hit hs => ?_)))))
    have hl1 : h1.IsList l its := (hl.push _).extBut hs.extBut hlt
    rw [Nat.zero_add] at hit
    have lo : l < h1.objs.size := by obtain ⟨ob, q, _⟩ := hl1; exact Heap.lt_size q
    have li : s.heap.objs.size < h1.objs.size := by obtain ⟨ob, q, _⟩ := hit; exact Heap.lt_size q
    have hfl : (its.toList.take k).length = k := by rw [List.length_take, Array.length_toList]; omega
    rw [List.drop_zero, if_neg (by omega)]
    refine wpAny_bind (wpAny_holding (PySem.W.kun_collect (s := { s with heap := h1 }) (T := "list_iterator") (.inr (.inr (.inl rfl))) (Walks.list (A := A.in1) hh s.heap.objs.size l hlt its) (fun j u st => st.1.typeIs) (k := k) (by omega) ⟨hit, hl1⟩ li lo (fun h2 tk hk => ?_) (by rw [sizeLine_eq]; omega)))
    have hrl : (its.toList.drop k).length = its.size - k := by rw [List.length_drop, Array.length_toList]
    have hmid : (its.toList.drop k).length - (n - 1 - k) = its.size + 1 - n := by omega
    show wpAny _ _ (if (its.toList.drop k).length < n - 1 - k then _ else _) _ _ _
    rw [if_neg (by omega)]
    show wpAny _ _ (newList ((its.toList.drop k).take ((its.toList.drop k).length - (n - 1 - k))) >>= fun d => pure (its.toList.take k ++ [d] ++ (its.toList.drop k).drop ((its.toList.drop k).length - (n - 1 - k)))) _ _ _
    rw [hmid]
    refine wpAny_bind (wpAny_newList (wpAny_pure (h h2 tk fun b o e => ?_)) (by rw [List.length_take, hrl, sizeLine_eq]; omega))
    have hb := Heap.lt_size e
    exact hk b o (Nat.ne_of_lt hb) (hs.extBut b o (Nat.ne_of_lt hb) (Heap.get?_push_of_some _ e)))
end
section
variable {X : Cx} {tg e : Expr} {es : List Expr} {pos : Pos}
/-- a, *b, c = a list or a tuple -/
def gStar (K : PySem.W.Frag) (n m : Nat) (t : TGs) : TG := fun v σ H Q => ∃ a xs, v = .ref a ∧ (SqT K H a xs ∨ SqL K H a xs) ∧ n + m ≤ xs.length ∧ xs.length ≤ 16384 ∧
  ∀ D, H D = none → t (xs.take n ++ [.ref D] ++ xs.drop (xs.length - m)) σ (upd H D (.lst ((xs.drop n).take (xs.length - n - m)))) Q
theorem pg_star {k n m : Nat} {t : TGs} (hc : X.calm = true) (h : PGs X es t) (hn : (assignEach es X.env).length = n + m + 1) (hst : (assignEach es X.env).findIdx? (·.1) = some n) : PG X (.Tuple es k pos) (gStar X.K n m t) := by
  refine ⟨fun pins s σ H v u Q I r ⟨a, xs, ev, hq, hl, hz, hw⟩ => ?_⟩
  subst ev
  cases r
  rw [assign_Tuple]
  refine wpAny_bind (wpAny_standAt ?_)
  unfold unpack
  rw [hst, hn]
  have fin : ∀ (its : Array Value), Vals xs its.toList → ∀ (h' : Heap) (tk : Nat), Kp s.heap h' → wpAny (model X.prog X.w) X.A (assignInOrder ((assignEach es X.env).map (·.2)) (its.toList.take n ++ [.ref h'.objs.size] ++ (its.toList.drop n).drop (its.size + 1 - (n + m + 1)))) (fun _ s' => ∃ σ' H', Inv X pins σ' H' s' ∧ Q σ' H') X.xe
      { s with heap := h'.push { cls := .type "list", data := .seq ((its.toList.drop n).take (its.size + 1 - (n + m + 1))).toArray }, toks := tk } := fun its rv h' tk kp => by
    have hlen : xs.length = its.size := by rw [← Array.length_toList]; exact rv.length
    have ef : H h'.objs.size = none := (I.hok.kept kp).fresh (Nat.le_refl _)
    have ix : its.size + 1 - (n + m + 1) = xs.length - n - m := by omega
    have idr : (its.toList.drop n).drop (its.size + 1 - (n + m + 1)) = its.toList.drop (xs.length - m) := by
      rw [List.drop_drop]
      congr 1; omega
    have I1 : Inv X pins σ H { s with heap := h', toks := tk } := I.kept (t' := tk) kp
    have I2 := I1.laid (o := .lst ((xs.drop n).take (xs.length - n - m))) (t' := tk) (h' := h'.push { cls := .type "list", data := .seq ((its.toList.drop n).take (its.size + 1 - (n + m + 1))).toArray }) (fun b u e => Heap.get?_push_of_some _ e) (Nat.le_refl _) ⟨by rw [List.length_take, List.length_drop, sizeLine_eq]; omega, _, 0, (rv.drop n).take _, by rw [ix]; exact Heap.get?_push_size _ rfl⟩
    rw [idr]
    exact h.run pins _ σ _ _ _ Q I2 (((rv.take n).append (.cons (show RelV (.ref h'.objs.size) (.ref h'.objs.size) from rfl) .nil)).append (rv.drop _)) (hw _ ef)
  rcases hq with hq | hq
  · obtain ⟨its, rv, ht, _⟩ := I.tuple hq
    have hlen : xs.length = its.length := rv.length
    refine wpAny_bind (wpAny_holding (star_tup (its := its.toArray) ht (I.ok.hd hc) (by omega) (by simp; omega) (by simp; omega) fun h' tk kp => ?_))
    exact fin its.toArray (by simpa using rv) h' tk kp
  · obtain ⟨its, rv, ht, _⟩ := I.list hq
    have hlen : xs.length = its.length := rv.length
    refine wpAny_bind (wpAny_holding (star_lst (its := its.toArray) ht.isList (I.ok.hd hc) (by omega) (by simp; omega) (by simp; omega) fun h' tk kp => ?_))
    exact fin its.toArray (by simpa using rv) h' tk kp
end
end Sr

set_option Elab.async false
set_option linter.all false
set_option maxRecDepth 100000
set_option autoImplicit false
/-! The small language's meaning is sound. -/
namespace Sr
open PySem PySem.Spec PyProof.Rows L2
section
variable {X : Cx} {I : SI} {Γ : Cxt} {Wd : XD} {γ γ' : Ga} {μ : Mu} {x y c e o tg iter : Expr} {es : List Expr} {pos pos' p : Pos} {P : DV → Mu → Prop} {d : DV} {D : DEnds} {st : Stmt} {sts : List Stmt}
theorem At.blk {scope : Scope} {Y : Cx} (A : At X I Γ) (h : Blk X scope Y) : At Y (I.blk scope) Γ := by
  obtain ⟨_, _, _, _, _, rfl⟩ := h
  exact ⟨A.hN, A.nd, by show relS scope X.env.scope = relS scope I.sc; rw [A.sc], fun x h => h, A.calm, PassesOwn.never, A.un, A.blt, A.fns, A.kfs, A.gvs, A.tbs, A.ga, A.clsf, A.mths, A.mks, A.mkks, (fun h => by cases h), A.exs, A.exm, A.isa⟩
theorem DTs.nil {P : Bool → Mu → Prop} (h : P true μ) : DTs X Wd [] γ μ P := fun W σ B H S Q q => wts_of pts_nil (q _ _ _ _ (Nxt.refl S.wf) h)
theorem DTs.one {P : Bool → Mu → Prop} (h : DT X Wd c γ μ P) : DTs X Wd [c] γ μ P := fun W σ B H S Q q => wts_of (pts_one pt_w) (h W σ B H S Q q)
/-! ### targets -/
theorem dg_ix {vs : List Nat} {P : Ga → Mu → Prop} (hi : isSl y = false) (h : DE X Wd x γ μ fun o μ1 => DE X Wd y γ μ1 fun i μ2 => setW o i d μ2 fun μ3 => P γ μ3) : DGo X Wd vs (.Subscript x y pos) d γ μ P := fun W σ B H v S r Q q =>
  wg_of (pg_sub pe_w pe_w set_list (fun u => by cases y <;> first | rfl | (rename_i a b st pp; cases st <;> first | rfl | cases hi))) (h W σ B H S _ fun o od B1 H1 μ1 n1 r1 k1 => k1 W σ B1 H1 (S.next n1) _ fun i iD B2 H2 μ2 n2 r2 k2 => by
    obtain ⟨a, xs, k, j, rfl, hm, rfl, hj, k3⟩ := k2
    have ra := r1.to n2.s
    cases ra; cases r2
    obtain ⟨us, h3, r3⟩ := mut_at hm n2.w
    refine ⟨a, us, k, j, rfl, rfl, h3, by rw [r3.length]; exact hj, ?_⟩
    have n3 := mut_to hm n2.w (r3.set j (r.to (n1.s.trans n2.s)))
    exact q σ γ B2 _ _ ((n1.trans n2).trans n3) Els.refl (S.st.to (n1.s.trans n2.s)) k3)
theorem lcl_is (A : At X I Γ) {nm : Str} (h : lcl I nm = true) : L2.Loc X.env.scope nm ∧ (X.fn nm = true ∨ X.env.scope.names.lookup nm = some .local) := by
  unfold lcl at h
  unfold L2.Loc
  rw [A.lookup]
  split at h
  · rename_i e; exact ⟨.inl e, .inr e⟩
  · rename_i e; exact ⟨.inr e, .inl (A.cel _ h)⟩
  · cases h
theorem ck_gs : ∀ {gs : Gs} {es : List Expr} {env : Env} {I : SI}, ckGs I gs es = true → (assignEach es env).length = gs.len ∧ (assignEach es env).findIdx? (·.1) = none
  | .nil, [], _, _, _ => ⟨rfl, rfl⟩
  | .nil, _ :: _, _, _, h => by cases (show false = true from h)
  | .cons g gs, [], _, _, h => by cases (show false = true from h)
  | .cons g gs, e :: es, env, I, h => by
    obtain ⟨h1, h2⟩ := bool_and2 (show (ckG I g e && ckGs I gs es) = true from h)
    obtain ⟨p, q⟩ := ck_gs (env := env) h2
    have e1 : assignEach (e :: es) env = (false, assign e env) :: assignEach es env := by
      cases e <;> first | rfl | (cases g <;> cases (show false = true from h1))
    rw [e1]
    exact ⟨by rw [List.length_cons, p]; rfl, by rw [List.findIdx?_cons, q]; rfl⟩
theorem ck_g1 {g : G} {e : Expr} {es : List Expr} {env : Env} (h : ckG I g e = true) : assignEach (e :: es) env = (false, assign e env) :: assignEach es env := by
  cases e <;> first | rfl | (cases g <;> cases (show false = true from h))
theorem ck_noset : ∀ {it : It}, ckI I it tg iter = true → isSet iter = false
  | .seq a, h => by
    have := (bool_and2 (show (!isSet iter && ckE I a iter) = true from h)).1
    simpa using this
  | .str a, h => by
    have := (bool_and2 (show (!isSet iter && ckE I a iter) = true from h)).1
    simpa using this
  | .rng1 _, h => by cases iter <;> first | rfl | cases (show false = true from h)
  | .rng2 _ _, h => by cases iter <;> first | rfl | cases (show false = true from h)
  | .enum _, h => by cases iter <;> first | rfl | cases (show false = true from h)
  | .zip _ _, h => by cases iter <;> first | rfl | cases (show false = true from h)
/-- which slots a target may change -/
def Ow (I : SI) (vs : List Nat) (b : Bool) : Prop := (∀ i, i < I.N.length → i ∈ vs) ∨ b = true
theorem ow_var {vs : List Nat} {i : Nat} {x : Str} (h : I.N[i]? = some x) (w : Ow I vs (decide (i ∈ vs))) : i ∈ vs := w.elim (fun k => k i (List.getElem?_eq_some_iff.mp h).1) of_decide_eq_true
/-! ### loops -/
theorem ds_while {body : List Stmt} (A : At X I Γ) (h : ∃ J : Nat → Ga → Mu → Prop, (∃ m, J m γ μ) ∧ ∀ m γ μ, J m γ μ → DT X Wd c γ μ fun k μ1 =>
      if k = true then DS X Wd body γ μ1 { nx := fun γ2 μ2 => ∃ m2, m2 < m ∧ J m2 γ2 μ2, rt := D.rt, bk := D.nx, ct := fun γ2 μ2 => ∃ m2, m2 < m ∧ J m2 γ2 μ2 } else D.nx γ μ1) : DS1 X Wd (.While c body [] pos) γ μ D := fun W σ B H S E q => by
  obtain ⟨J, ⟨m0, h0⟩, turn⟩ := h
  refine ws_of (ps_while A.po pt_w pss_w) ⟨fun m σ' H' => ∃ B' μ' γ', Nxt X.K B H μ B' H' μ' ∧ RepSt X.K B' σ' γ' ∧ J m γ' μ', ⟨m0, B, μ, γ, Nxt.refl S.wf, S.st, h0⟩, ?_⟩
  rintro m σ1 H1 ⟨B1, μ1, γ1, n1, r1, j1⟩
  have S1 := S.nextS n1 r1
  refine turn m γ1 μ1 j1 W σ1 B1 H1 S1 _ fun b B2 H2 μ2 n2 k2 => ?_
  cases b with
  | false =>
    rw [if_neg Bool.false_ne_true] at k2 ⊢
    exact q.nx _ _ _ _ _ (n1.trans n2) (r1.to n2.s) k2
  | true =>
    rw [if_pos rfl] at k2 ⊢
    refine ⟨fun σ' H' => ∃ m', m' < m ∧ ∃ B' μ' γ', Nxt X.K B H μ B' H' μ' ∧ RepSt X.K B' σ' γ' ∧ J m' γ' μ', fun σ' H' z => z, ?_⟩
    have go : ∀ σ' γ' B' H' μ', Nxt X.K B2 H2 μ2 B' H' μ' → RepSt X.K B' σ' γ' → (∃ m2, m2 < m ∧ J m2 γ' μ') → ∃ m', m' < m ∧ ∃ B' μ' γ', Nxt X.K B H μ B' H' μ' ∧ RepSt X.K B' σ' γ' ∧ J m' γ' μ' := fun σ' γ' B' H' μ' n r ⟨m2, l, j⟩ => ⟨m2, l, B', μ', γ', (n1.trans n2).trans n, r, j⟩
    exact k2 W σ1 B2 H2 (S1.next n2) _ ⟨go, (q.to (n1.trans n2)).rt, (q.to (n1.trans n2)).nx, go⟩
theorem ds_for {body : List Stmt} (A : At X I Γ) (hs : isSet iter = false) (h : DI X Wd tg iter γ μ fun xs stay μ1 => forF stay (fun d γ μ D2 => DG X Wd tg d γ μ fun γ1 μ1 => DS X Wd body γ1 μ1 D2) D xs γ μ1) : DS1 X Wd (.For tg iter body [] pos) γ μ D := fun W σ B H S E q => by
  refine ws_of (ps_for A.po A.calm pi_w pg_w pss_w (fold_no hs)) (h W σ B H S _ fun J xs stay B1 H1 μ1 n1 io k1 => ?_)
  refine ⟨fun i m σ' H' => m = xs.length - i ∧ i ≤ xs.length ∧ ∃ B' μ' γ', Nxt X.K B1 H1 μ1 B' H' μ' ∧ RepSt X.K B' σ' γ' ∧ forF stay (fun d γ μ D2 => DG X Wd tg d γ μ fun γ1 μ1 => DS X Wd body γ1 μ1 D2) D (xs.drop i) γ' μ',
    ⟨xs.length, by simp, Nat.zero_le _, B1, μ1, γ, Nxt.refl n1.w, S.st.to n1.s, k1⟩, ?_⟩
  rintro i m σ2 H2 ⟨rfl, hi, B2, μ2, γ2, n2, r2, k2⟩
  have io2 := io B2 H2 μ2 i n2.s n2.w
  have S2 := S.nextS (n1.trans n2) r2
  by_cases hlt : i < xs.length
  · obtain ⟨d, hd⟩ : ∃ d, xs[i]? = some d := ⟨xs[i], by simp [hlt]⟩
    have hdr : xs.drop i = d :: xs.drop (i + 1) := by
      rw [List.drop_eq_getElem_cons hlt]
      rw [List.getElem?_eq_getElem hlt] at hd
      cases hd; rfl
    rw [hdr] at k2
    obtain ⟨st2, k3⟩ := k2
    obtain ⟨io3, _⟩ := io2 st2
    obtain ⟨hgo, hy⟩ := io3 d hd
    refine .inr ⟨hgo, fun σ' H' => ∃ B' μ' γ', Nxt X.K B1 H1 μ1 B' H' μ' ∧ RepSt X.K B' σ' γ' ∧ forF stay (fun d γ μ D2 => DG X Wd tg d γ μ fun γ1 μ1 => DS X Wd body γ1 μ1 D2) D (xs.drop (i + 1)) γ' μ', fun σ' H' z => ⟨xs.length - (i + 1), by omega, rfl, hlt, z⟩, fun v H3 y => ?_⟩
    obtain ⟨B3, n3, rv⟩ := hy v H3 y
    obtain ⟨vs, k3⟩ := k3
    refine k3 W σ2 B3 H3 v (S2.next n3) rv _ fun σ4 γ4 B4 H4 μ4 n4 _ r4 k4 => ?_
    have n24 := n2.trans (n3.trans n4)
    have go : ∀ σ' γ' B' H' μ', Nxt X.K B4 H4 μ4 B' H' μ' → RepSt X.K B' σ' γ' → forF stay (fun d γ μ D2 => DG X Wd tg d γ μ fun γ1 μ1 => DS X Wd body γ1 μ1 D2) D (xs.drop (i + 1)) γ' μ' →
      ∃ B' μ' γ', Nxt X.K B1 H1 μ1 B' H' μ' ∧ RepSt X.K B' σ' γ' ∧ forF stay (fun d γ μ D2 => DG X Wd tg d γ μ fun γ1 μ1 => DS X Wd body γ1 μ1 D2) D (xs.drop (i + 1)) γ' μ' := fun σ' γ' B' H' μ' n r z => ⟨B', μ', γ', n24.trans n, r, z⟩
    exact k4 W σ4 B4 H4 (S2.nextS (n3.trans n4) r4) _ ⟨go, (q.to (n1.trans n24)).rt, (q.to (n1.trans n24)).nx, go⟩
  · have e : i = xs.length := by omega
    subst e
    rw [List.drop_length] at k2
    obtain ⟨st2, k3⟩ := k2
    exact .inl ⟨(io2 st2).2 (Nat.le_refl _), q.nx _ _ _ _ _ (n1.trans n2) r2 k3⟩
/-! ### x += e -/
def WIp (X : Cx) (op : Operator) : TIp := fun x y H Q => ∀ pins s (σ : L2.St) v u, Inv X pins σ H s → RelV x v → RelV y u → wpAny (model X.prog X.w) X.A (inplaceOp op v u) (EP X pins σ Q) X.xe s
theorem pip_w {op : Operator} : PIp X op (WIp X op) := fun pins s σ H x y v u Q I r1 r2 h => h pins s σ v u I r1 r2
theorem aug_ok {a : O2} {op : Operator} {d1 d2 : DV} (e : binO a = some op) (h : augW a d1 d2 μ P) : R2D X (WIp X op) d1 d2 μ P := by
  cases a <;> simp only [binO, Option.some.injEq, reduceCtorEq] at e <;> subst e <;> cases d1 <;> cases d2 <;> try exact (show False from h).elim
  case add.int.int o i j =>
    exact fun B H x y w rx ry Q q pins s σ v u I r1 r2 => by
      cases rx; cases ry
      exact ip_add pins s σ H _ _ v u Q I r1 r2 ⟨i, j, rfl, rfl, q _ _ B H μ (Nxt.refl w) (.int _) h⟩
  case add.str.str o i j =>
    exact fun B H x y w rx ry Q q pins s σ v u I r1 r2 => by
      cases rx; cases ry
      exact iop_add_str pins s σ H _ _ v u Q I r1 r2 ⟨i, j, rfl, rfl, h.1, q _ _ B H μ (Nxt.refl w) (.str _) h.2⟩
  case sub.int.int i j =>
    exact fun B H x y w rx ry Q q pins s σ v u I r1 r2 => by
      cases rx; cases ry
      exact ip_sub pins s σ H _ _ v u Q I r1 r2 ⟨i, j, rfl, rfl, q _ _ B H μ (Nxt.refl w) (.int _) h⟩
theorem ds_aug {i : Nat} {nm : Str} {op : Operator} {a : O2} (A : At X I Γ) (hi : I.N[i]? = some nm) (hl : lcl I nm = true) (ho : binO a = some op) (hg : gs γ i = some d) (h : DE X Wd e γ μ fun d2 μ1 => augW a d d2 μ1 fun d3 μ2 => D.nx (γ.set i (some d3)) μ2) :
    DS1 X Wd (.AugAssign (.Name nm p) op e pos) γ μ D := fun W σ B H S E q => by
  have hg2 : γ[i]? = some (some d) := by
    unfold gs at hg
    split at hg
    · rename_i z e1
      rw [hg] at e1; exact e1
    · cases hg
  obtain ⟨v, ev, rv⟩ := S.st.get i d hg2
  obtain ⟨l1, l2⟩ := lcl_is A hl
  refine ws_of (ps_aug A.nd (by rw [A.hN]; exact hi) l1 pe_w pip_w l2) ⟨v, ev, h W σ B H S _ fun u d2 B1 H1 μ1 n1 r1 k1 => ?_⟩
  exact aug_ok ho k1 B1 H1 v u n1.w (rv.to n1.s) r1 _ fun z d3 B2 H2 μ2 n2 r2 k2 => q.nx _ _ B2 H2 μ2 (n1.trans n2) ((S.st.to (n1.s.trans n2.s)).set i r2) k2
end
end Sr

set_option Elab.async false
set_option linter.all false
set_option maxRecDepth 100000
set_option autoImplicit false
/-! The small language's meaning is sound: all together. -/
namespace Sr
open PySem PySem.Spec PyProof.Rows L2
theorem own_back {I : SI} : ∀ own : List Nat, (ownOf I own).map (·.2) = own
  | [] => rfl
  | i :: own => by
    show i :: (ownOf I own).map (·.2) = _
    rw [own_back own]
section
variable {X : Cx} {I : SI} {Γ : Cxt} {γ : Ga} {μ : Mu}
/-- what a comprehension's value is to be -/
def LcR (X : Cx) (Wd : XD) (γ : Ga) (μ : Mu) (P : DV → Mu → Prop) (t : TE) : Prop := ∀ (W : WX) (σ : L2.St) (B H : Hp), Sit X Wd W γ μ σ B H → ∀ Q : VK, (∀ v d B' H' μ', Nxt X.K B H μ B' H' μ' → Rep X.K B' v d → P d μ' → Q v H') → t σ H Q
/-- name = [..] -/
theorem ds_setC {Wd : XD} {D : DEnds} {i : Nat} {nm : Str} {py pos spos : Pos} {elt tg iter : Expr} {ifs : List Expr} {scope : Scope} {own : List (Str × Nat)} (A : At X I Γ) (hf : isFn I.sc = true) (hi : I.N[i]? = some nm) (hl : lcl I nm = true) (ok : BlkOk X.N X.env.scope scope own) (hs : isSet iter = false)
    (h : LcR X Wd γ μ (fun d μ' => D.nx (γ.set i (some d)) μ') (tLc (WI X tg iter) (gB X scope tg) (ttB X scope ifs) (teB X scope elt) (own.map (·.2)))) : DS1 X Wd (.Assign [.Name nm py] (.ListComp elt [⟨tg, iter, ifs, 0⟩] scope pos) spos) γ μ D := by
  intro W σ B H S E q
  obtain ⟨l1, l2⟩ := lcl_is A hl
  have hk : X.env.scope.kind = .function := by
    rw [A.sc]
    unfold isFn at hf
    split at hf
    · assumption
    · cases hf
  have key : tAsg (tLc (WI X tg iter) (gB X scope tg) (ttB X scope ifs) (teB X scope elt) (own.map (·.2))) (gName i) E σ H := by
    refine h W σ B H S _ fun v d B' H' μ' n r p => ?_
    exact q.nx _ _ B' H' μ' n ((S.st.to n.s).set i r) p
  by_cases hc : (X.env.scope.names.lookup nm = some .local) ∧ (py.line == pos.line) = true ∧ (scope.names.any fun (n, k) => n == nm && (k == .local || k == .cell)) = false
  · exact ws_of (ps_setLc A.calm A.nd (by rw [A.hN]; exact hi) hc.1 (sw_true hk hc.1 hc.2.1 hc.2.2) pi_w ok (fun _ _ _ _ _ => pg_b) (fun _ _ _ _ _ => pts_b) (fun _ _ _ _ _ => pe_b) (fold_no hs)) key
  · refine ws_of (ps_asg (pe_lc A.calm A.nd pi_w ok (fun _ _ _ _ _ => pg_b) (fun _ _ _ _ _ => pts_b) (fun _ _ _ _ _ => pe_b) (fold_no hs)) (pg_name A.nd (by rw [A.hN]; exact hi) l1 l2) ?_ rfl rfl) key
    have hb : X.env.blockKind = .function := by unfold Env.blockKind; rw [hk]; rfl
    unfold swapsWithSole swapsWith
    simp only [hb, Expr.pos]
    congr 1
    simp only [not_and, Bool.not_eq_false] at hc
    by_cases h1 : X.env.scope.names.lookup nm = some .local
    · have k1 : X.env.kindOf nm = some .local := h1
      rw [k1]
      by_cases h2 : (py.line == pos.line) = true
      · have h3 := hc h1 h2
        rw [h2]
        simp only [h3]
        rfl
      · simp only [Bool.not_eq_true] at h2
        rw [h2]
        simp
    · have : (X.env.kindOf nm == some .local) = false := by
        show (X.env.scope.names.lookup nm == some .local) = false
        simpa using h1
      rw [this]
      simp
theorem swd_true {kx vx : Expr} {gs : List Comprehension} {scope : Scope} {pos py : Pos} {y : Str} {l : Nat} {env : Env} (hk : env.scope.kind = .function) (hy : env.scope.names.lookup y = some .local) (hl : (py.line == pos.line) = true)
    (ha : (scope.names.any fun (n, k) => n == y && (k == .local || k == .cell)) = false) : swapsWith (.DictComp kx vx gs scope pos) (some (.Name y py)) l env = pure true := by
  have ky : env.kindOf y = some .local := hy
  have hb : env.blockKind = .function := by unfold Env.blockKind; rw [hk]; rfl
  unfold swapsWith
  simp only [hb, ky, ha, Expr.pos, hl]
  rfl
/-- name = {..} on one line, the name a local -/
theorem ps_setDc {i : Nat} {y : Str} {py : Pos} {kx vx tg iter : Expr} {ifs : List Expr} {scope : Scope} {own : List (Str × Nat)} {pos spos : Pos} {wi : TI} {g : TG} {tt : TT} {tk tv : TE} (hc : X.calm = true) (hN : X.N.Nodup) (hy : X.N[i]? = some y) (hyl : X.env.scope.names.lookup y = some .local)
    (hsw : swapsWith (.DictComp kx vx [⟨tg, iter, ifs, 0⟩] scope pos) (some (.Name y py)) spos.line X.env = pure true) (hi : PI X tg iter wi) (ok : BlkOk X.N X.env.scope scope own)
    (hg : ∀ (s : Shared) (H : Hp) (C : Addr) (cl : List (Str × Addr)) (fp : List Addr), PG (X.blk s H scope (compEnvC scope cl C X.env) fp) tg g) (ht : ∀ (s : Shared) (H : Hp) (C : Addr) (cl : List (Str × Addr)) (fp : List Addr), PTs (X.blk s H scope (compEnvC scope cl C X.env) fp) ifs tt)
    (hk : ∀ (s : Shared) (H : Hp) (C : Addr) (cl : List (Str × Addr)) (fp : List Addr), PE (X.blk s H scope (compEnvC scope cl C X.env) fp) kx tk)
    (he : ∀ (s : Shared) (H : Hp) (C : Addr) (cl : List (Str × Addr)) (fp : List Addr), PE (X.blk s H scope (compEnvC scope cl C X.env) fp) vx tv) (hs : ∀ x, foldedSetIterable iter X.env x = pure x) :
    PS X (.Assign [.Name y py] (.DictComp kx vx [⟨tg, iter, ifs, 0⟩] scope pos) spos) (tAsg (tDc wi g tt tk tv (own.map (·.2))) (gName i)) := by
  refine ⟨fun pins s σ H D I h => ?_⟩
  rw [exec_Assign_Name_used _ _ _ _ hsw]
  refine wpAny_bind (wpAny_standAt (wpAny_bind ?_))
  show wpAny _ X.A (do let _ ← comprehension (.DictComp kx vx [⟨tg, iter, ifs, 0⟩] scope pos) scope X.env (firstIterPos [⟨tg, iter, ifs, 0⟩] pos) newDict false (eval iter X.env) (some (assign (.Name y py) X.env))) _ _ s
  have h : tDc wi g tt tk tv (own.map (·.2)) σ H (fun x H1 => gName i x σ H1 D.nx) := h
  refine wpAny_bind (thn (dc_core (Qf := fun _ s' => SP X pins D .next s') hc hN I hi ok hg ht hk he hs h fun L C s' m H' I' q hn f => ?_) fun _ s' hq => wpAny_pure (wpAny_pure hq))
  show wpAny _ _ (assign (.Name y py) X.env (.ref L)) _ _ _
  refine wpAny_assign_Name (store_ok2 (v := V.ref L) I' hN hy (.inl hyl) rfl (fun s2 I2 ⟨a, sb, ha⟩ => ?_) (.inr hyl))
  obtain ⟨f0, f1, f2, f3, f4, f5⟩ := f
  have haC : C ≠ a := by
    rcases ha with z | z
    · rw [z]; exact f1
    · exact fun e => f4 y a z e.symm
  refine ⟨m, hn.sameBut sb haC, fun h3 sb3 => ?_⟩
  exact ⟨_, H', I2.turned (t' := s2.toks) (fun b o hb e => (sb3.2 b hb).trans e) f0 f1 f3 f4 f5, q⟩
/-- name = {..} -/
theorem ds_setD {Wd : XD} {D : DEnds} {i : Nat} {nm : Str} {py pos spos : Pos} {ek ev tg iter : Expr} {ifs : List Expr} {scope : Scope} {own : List (Str × Nat)} (A : At X I Γ) (hf : isFn I.sc = true) (hi : I.N[i]? = some nm) (hl : lcl I nm = true) (ok : BlkOk X.N X.env.scope scope own) (hs : isSet iter = false)
    (h : LcR X Wd γ μ (fun d μ' => D.nx (γ.set i (some d)) μ') (tDc (WI X tg iter) (gB X scope tg) (ttB X scope ifs) (teB X scope ek) (teB X scope ev) (own.map (·.2)))) : DS1 X Wd (.Assign [.Name nm py] (.DictComp ek ev [⟨tg, iter, ifs, 0⟩] scope pos) spos) γ μ D := by
  intro W σ B H S E q
  obtain ⟨l1, l2⟩ := lcl_is A hl
  have hk : X.env.scope.kind = .function := by
    rw [A.sc]
    unfold isFn at hf
    split at hf
    · assumption
    · cases hf
  have key : tAsg (tDc (WI X tg iter) (gB X scope tg) (ttB X scope ifs) (teB X scope ek) (teB X scope ev) (own.map (·.2))) (gName i) E σ H := by
    refine h W σ B H S _ fun v d B' H' μ' n r p => ?_
    exact q.nx _ _ B' H' μ' n ((S.st.to n.s).set i r) p
  by_cases hc : (X.env.scope.names.lookup nm = some .local) ∧ (py.line == pos.line) = true ∧ (scope.names.any fun (n, k) => n == nm && (k == .local || k == .cell)) = false
  · exact ws_of (ps_setDc A.calm A.nd (by rw [A.hN]; exact hi) hc.1 (swd_true hk hc.1 hc.2.1 hc.2.2) pi_w ok (fun _ _ _ _ _ => pg_b) (fun _ _ _ _ _ => pts_b) (fun _ _ _ _ _ => pe_b) (fun _ _ _ _ _ => pe_b) (fold_no hs)) key
  · refine ws_of (ps_asg (pe_dc A.calm A.nd pi_w ok (fun _ _ _ _ _ => pg_b) (fun _ _ _ _ _ => pts_b) (fun _ _ _ _ _ => pe_b) (fun _ _ _ _ _ => pe_b) (fold_no hs)) (pg_name A.nd (by rw [A.hN]; exact hi) l1 l2) ?_ rfl rfl) key
    have hb : X.env.blockKind = .function := by unfold Env.blockKind; rw [hk]; rfl
    unfold swapsWithSole swapsWith
    simp only [hb, Expr.pos]
    congr 1
    simp only [not_and, Bool.not_eq_false] at hc
    by_cases h1 : X.env.scope.names.lookup nm = some .local
    · have k1 : X.env.kindOf nm = some .local := h1
      rw [k1]
      by_cases h2 : (py.line == pos.line) = true
      · have h3 := hc h1 h2
        rw [h2]
        simp only [h3]
        rfl
      · simp only [Bool.not_eq_true] at h2
        rw [h2]
        simp
    · have : (X.env.kindOf nm == some .local) = false := by
        show (X.env.scope.names.lookup nm == some .local) = false
        simpa using h1
      rw [this]
      simp
theorem ds_setC2 {Wd : XD} {D : DEnds} {i : Nat} {nm : Str} {py pos spos : Pos} {elt tg iter tg1 iter1 : Expr} {ifs ifs1 : List Expr} {scope : Scope} {own : List (Str × Nat)} {vs1 : List Nat} (A : At X I Γ) (hf : isFn I.sc = true) (hi : I.N[i]? = some nm) (hl : lcl I nm = true) (ok : BlkOk X.N X.env.scope scope own) (hs : isSet iter = false) (hs1 : isSet iter1 = false) (hv : ∀ i ∈ vs1, i ∈ own.map (·.2))
    (h : LcR X Wd γ μ (fun d μ' => D.nx (γ.set i (some d)) μ') (tLc2 (WI X tg iter) (gB X scope tg) (ttB X scope ifs) (iB X scope tg1 iter1) (gB X scope tg1) (ttB X scope ifs1) (teB X scope elt) (own.map (·.2)) vs1)) : DS1 X Wd (.Assign [.Name nm py] (.ListComp elt [⟨tg, iter, ifs, 0⟩, ⟨tg1, iter1, ifs1, 0⟩] scope pos) spos) γ μ D := by
  intro W σ B H S E q
  obtain ⟨l1, l2⟩ := lcl_is A hl
  have hk : X.env.scope.kind = .function := by
    rw [A.sc]
    unfold isFn at hf
    split at hf
    · assumption
    · cases hf
  have key : tAsg (tLc2 (WI X tg iter) (gB X scope tg) (ttB X scope ifs) (iB X scope tg1 iter1) (gB X scope tg1) (ttB X scope ifs1) (teB X scope elt) (own.map (·.2)) vs1) (gName i) E σ H := by
    refine h W σ B H S _ fun v d B' H' μ' n r p => ?_
    exact q.nx _ _ B' H' μ' n ((S.st.to n.s).set i r) p
  by_cases hc : (X.env.scope.names.lookup nm = some .local) ∧ (py.line == pos.line) = true ∧ (scope.names.any fun (n, k) => n == nm && (k == .local || k == .cell)) = false
  · exact ws_of (ps_setLc2 A.calm A.nd (by rw [A.hN]; exact hi) hc.1 (sw_true hk hc.1 hc.2.1 hc.2.2) pi_w ok hv (fun _ _ _ _ _ => pg_b) (fun _ _ _ _ _ => pts_b) (fun _ _ _ _ _ => pi_b) (fun _ _ _ _ _ => pg_b) (fun _ _ _ _ _ => pts_b) (fun _ _ _ _ _ => pe_b) (fold_no hs) fun env => fold_no hs1) key
  · refine ws_of (ps_asg (pe_lc2 A.calm A.nd pi_w ok hv (fun _ _ _ _ _ => pg_b) (fun _ _ _ _ _ => pts_b) (fun _ _ _ _ _ => pi_b) (fun _ _ _ _ _ => pg_b) (fun _ _ _ _ _ => pts_b) (fun _ _ _ _ _ => pe_b) (fold_no hs) fun env => fold_no hs1) (pg_name A.nd (by rw [A.hN]; exact hi) l1 l2) ?_ rfl rfl) key
    have hb : X.env.blockKind = .function := by unfold Env.blockKind; rw [hk]; rfl
    unfold swapsWithSole swapsWith
    simp only [hb, Expr.pos]
    congr 1
    simp only [not_and, Bool.not_eq_false] at hc
    by_cases h1 : X.env.scope.names.lookup nm = some .local
    · have k1 : X.env.kindOf nm = some .local := h1
      rw [k1]
      by_cases h2 : (py.line == pos.line) = true
      · have h3 := hc h1 h2
        rw [h2]
        simp only [h3]
        rfl
      · simp only [Bool.not_eq_true] at h2
        rw [h2]
        simp
    · have : (X.env.kindOf nm == some .local) = false := by
        show (X.env.scope.names.lookup nm == some .local) = false
        simpa using h1
      rw [this]
      simp
end
/-! ### the parts of a comprehension's check -/
structure CkC (I : SI) (own : List Nat) (elt : E) (g : G) (it : It) (c : Ts) (el tg iter : Expr) (ifs : List Expr) (s : Scope) : Prop where
  blk : blkC I.N I.sc s (ownOf I own) = true
  ow : gOwn own g = true
  it : ckI I it tg iter = true
  el : ckE (I.blk s) elt el = true
  tg : ckG (I.blk s) g tg = true
  ts : ckTs (I.blk s) c ifs = true
theorem ck_comp {I : SI} {o : Bool} {own : List Nat} {elt : E} {g : G} {it : It} {c : Ts} {e : Expr} (h : ckE I (.comp o own elt g it c) e = true) : ∃ el tg iter ifs s p, e = .ListComp el [⟨tg, iter, ifs, 0⟩] s p ∧ CkC I own elt g it c el tg iter ifs s := by
  cases e <;> try cases (show false = true from h)
  case ListComp el gens s p =>
    match gens, h with
    | [⟨tg, iter, ifs, n⟩], h =>
      have h : ((n == 0) && blkC I.N I.sc s (ownOf I own) && (gOwn own g) && ckI I it tg iter && ckE (I.blk s) elt el && ckG (I.blk s) g tg && ckTs (I.blk s) c ifs) = true := h
      simp only [Bool.and_eq_true, beq_iff_eq] at h
      obtain ⟨⟨⟨⟨⟨⟨h0, h1⟩, h2⟩, h3⟩, h4⟩, h5⟩, h6⟩ := h
      subst h0
      exact ⟨el, tg, iter, ifs, s, p, rfl, h1, h2, h3, h4, h5, h6⟩
    | [], h => cases (show false = true from h)
    | ⟨_, _, _, _⟩ :: ⟨_, _, _, _⟩ :: _, h => cases (show false = true from h)
structure CkD (I : SI) (own : List Nat) (ek ev : E) (g : G) (it : It) (c : Ts) (kx vx tg iter : Expr) (ifs : List Expr) (s : Scope) : Prop where
  blk : blkC I.N I.sc s (ownOf I own) = true
  ow : gOwn own g = true
  it : ckI I it tg iter = true
  ek : ckE (I.blk s) ek kx = true
  ev : ckE (I.blk s) ev vx = true
  tg : ckG (I.blk s) g tg = true
  ts : ckTs (I.blk s) c ifs = true
theorem ck_dcomp {I : SI} {own : List Nat} {ek ev : E} {g : G} {it : It} {c : Ts} {e : Expr} (h : ckE I (.dcomp own ek ev g it c) e = true) : ∃ kx vx tg iter ifs s p, e = .DictComp kx vx [⟨tg, iter, ifs, 0⟩] s p ∧ CkD I own ek ev g it c kx vx tg iter ifs s := by
  cases e <;> try cases (show false = true from h)
  case DictComp kx vx gens s p =>
    match gens, h with
    | [⟨tg, iter, ifs, n⟩], h =>
      have h : ((n == 0) && blkC I.N I.sc s (ownOf I own) && (gOwn own g) && ckI I it tg iter && ckE (I.blk s) ek kx && ckE (I.blk s) ev vx && ckG (I.blk s) g tg && ckTs (I.blk s) c ifs) = true := h
      simp only [Bool.and_eq_true, beq_iff_eq] at h
      obtain ⟨⟨⟨⟨⟨⟨⟨h0, h1⟩, h2⟩, h3⟩, h4⟩, h5⟩, h6⟩, h7⟩ := h
      subst h0
      exact ⟨kx, vx, tg, iter, ifs, s, p, rfl, h1, h2, h3, h4, h5, h6, h7⟩
    | [], h => cases (show false = true from h)
    | ⟨_, _, _, _⟩ :: ⟨_, _, _, _⟩ :: _, h => cases (show false = true from h)
structure CkC2 (I : SI) (own own1 : List Nat) (elt : E) (g : G) (it : It) (c : Ts) (g1 : G) (it1 : It) (c1 : Ts) (el tg iter : Expr) (ifs : List Expr) (tg1 iter1 : Expr) (ifs1 : List Expr) (s : Scope) : Prop where
  c : CkC I own elt g it c el tg iter ifs s
  ow1 : gOwn own1 g1 = true
  sub : (own1.all fun i => decide (i ∈ own)) = true
  it : ckI (I.blk s) it1 tg1 iter1 = true
  tg : ckG (I.blk s) g1 tg1 = true
  ts : ckTs (I.blk s) c1 ifs1 = true
theorem ck_comp2 {I : SI} {o : Bool} {own own1 : List Nat} {elt : E} {g g1 : G} {it it1 : It} {c c1 : Ts} {e : Expr} (h : ckE I (.comp2 o own own1 elt g it c g1 it1 c1) e = true) : ∃ el tg iter ifs tg1 iter1 ifs1 s p, e = .ListComp el [⟨tg, iter, ifs, 0⟩, ⟨tg1, iter1, ifs1, 0⟩] s p ∧ CkC2 I own own1 elt g it c g1 it1 c1 el tg iter ifs tg1 iter1 ifs1 s := by
  cases e <;> try cases (show false = true from h)
  case ListComp el gens s p =>
    match gens, h with
    | [⟨tg, iter, ifs, n⟩, ⟨tg1, iter1, ifs1, n1⟩], h =>
      have h : ((n == 0) && (n1 == 0) && blkC I.N I.sc s (ownOf I own) && (gOwn own g) && (gOwn own1 g1) && (own1.all fun i => decide (i ∈ own)) && ckI I it tg iter && ckE (I.blk s) elt el && ckG (I.blk s) g tg && ckTs (I.blk s) c ifs && ckI (I.blk s) it1 tg1 iter1 && ckG (I.blk s) g1 tg1 && ckTs (I.blk s) c1 ifs1) = true := h
      simp only [Bool.and_eq_true, beq_iff_eq] at h
      obtain ⟨⟨⟨⟨⟨⟨⟨⟨⟨⟨⟨⟨h0, h01⟩, h1⟩, h2⟩, h21⟩, h22⟩, h3⟩, h4⟩, h5⟩, h6⟩, h7⟩, h8⟩, h9⟩ := h
      subst h0 h01
      exact ⟨el, tg, iter, ifs, tg1, iter1, ifs1, s, p, rfl, ⟨h1, h2, h3, h4, h5, h6⟩, h21, h22, h7, h8, h9⟩
    | [], h => cases (show false = true from h)
    | [⟨_, _, _, _⟩], h => cases (show false = true from h)
    | ⟨_, _, _, _⟩ :: ⟨_, _, _, _⟩ :: ⟨_, _, _, _⟩ :: _, h => cases (show false = true from h)
end Sr

set_option Elab.async false
set_option linter.all false
set_option maxRecDepth 100000
set_option autoImplicit false
/-! Instances, methods, dicts: soundness. -/
namespace Sr
open PySem PySem.Spec PyProof.Rows L2
section
variable {X : Cx} {I : SI} {Γ : Cxt} {Wd : XD} {γ : Ga} {μ : Mu} {e : Expr} {P : DV → Mu → Prop} {st : Stmt} {D : DEnds}
/-- a method's call, taken apart -/
theorem call_form {o : Expr} {name : Str} {ap pos : Pos} {args : List Expr} {env : Env} (hb : isCall0 o = false) (hline : (ap.endLine == pos.line) = true)
    (hfew : methodCallForm (args.length + ([] : List Keyword).length) (backTo pos (starEach args env)) (backToKw pos (keywordEach [] env)) = true) :
    ∃ pl : Sem Bool, eval (.Call (.Attribute o name ap) args [] pos) env = (do
      let ov ← eval o env
      standAt ap.atName
      let (f, first) ← holding [ov] (getMethod ov name pl)
      callWith pos f first (backTo pos (starEach args env)) (backToKw pos (keywordEach [] env))) := by
  refine ⟨do return (← importBound o env).getD true, ?_⟩
  have hpos : methodCallPos true o env ap pos = pure pos := by unfold methodCallPos; simp [hline]
  rw [arm_eval_Call, attr_no hb]
  unfold methodCall
  rw [hfew]
  simp only [hpos, calleeOf, if_true]
  rfl
theorem form_ok {args : List Expr} {env : Env} {pos : Pos} (h : (backTo pos (starEach args env)).all (fun x => !x.1) = true) (hl : args.length ≤ 20) : methodCallForm (args.length + ([] : List Keyword).length) (backTo pos (starEach args env)) (backToKw pos (keywordEach [] env)) = true := by
  unfold methodCallForm
  rw [h]
  show (true && true && decide (args.length + 0 + 0 < 30)) = true
  rw [decide_eq_true (by omega)]
  rfl
/-! ### fields -/
theorem sd_fld {C f : Str} {a : E} (A : At X I Γ) (h : ckE I (.fld C a f) e = true) (w : ∀ {x}, ckE I a x = true → DE X Wd x γ μ fun d μ1 => ∃ fs v, insAt μ1 d = some (C, fs) ∧ fs.lookup f = some v ∧ P v μ1) : DE X Wd e γ μ P := by
  cases e <;> try cases (show false = true from h)
  case Attribute x g pos =>
    have h : (decide (g = f) && decide ((C, f) ∈ I.clsf) && !isCall0 x && ckE I a x) = true := h
    simp only [Bool.and_eq_true, decide_eq_true_eq, Bool.not_eq_true'] at h
    obtain ⟨⟨⟨rfl, h2⟩, h3⟩, h4⟩ := h
    obtain ⟨c1, c2⟩ := A.clsf _ h2
    exact fun W σ B H S Q q => we_of (pe_fld pe_w (attr_no h3)) (w h4 W σ B H S _ fun v d B1 H1 μ1 n1 r1 ⟨fs, u, e1, e2, p⟩ => by
      obtain ⟨a, dx, vs, rfl, hh, rf⟩ := ins_at e1 n1.w r1
      obtain ⟨z, hz, rz⟩ := rf.look e2
      exact ⟨a, _, dx, vs, z, rfl, hh, c1, c2, hz, q z u B1 H1 μ1 n1 rz p⟩)
theorem sd_setf {C f : Str} {a xe : E} (A : At X I Γ) (h : ckS I (.setf C a f xe) st = true) (w : ∀ {v o}, ckE I xe v = true → ckE I a o = true → DE X Wd v γ μ fun d μ1 => DE X Wd o γ μ1 fun o μ2 => setFW C f o d μ2 fun μ3 => D.nx γ μ3) : DS1 X Wd st γ μ D := by
  cases st <;> try cases (show false = true from h)
  case Assign tgs v pos =>
    match tgs, h with
    | [tg], h =>
     cases tg <;> try cases (show false = true from h)
     case Attribute o g p2 =>
      have h : (decide (g = f) && decide ((C, f) ∈ I.clsf) && !isComp v && ckE I xe v && ckE I a o) = true := h
      simp only [Bool.and_eq_true, decide_eq_true_eq, Bool.not_eq_true'] at h
      obtain ⟨⟨⟨⟨rfl, h2⟩, h3⟩, h4⟩, h5⟩ := h
      obtain ⟨c1, c2⟩ := A.clsf _ h2
      refine fun W σ B H S E q => ws_of (ps_fld pe_w pe_w ?_) (w h4 h5 W σ B H S _ fun v d B1 H1 μ1 n1 r1 k => k W σ B1 H1 (S.next n1) _ fun o od B2 H2 μ2 n2 r2 ⟨r, fs, e1, e2, e3, p⟩ => ?_)
      · cases v <;> first | rfl | exact absurd h3 (by show ¬ (true = false); decide)
      · subst e1
        cases r2
        obtain ⟨_, dx, vs, hh, rf⟩ := n2.w.ob r _ e2
        refine ⟨r, _, dx, vs, rfl, hh, c1, c2, by rw [rf.length]; exact e3, ?_⟩
        have n3 := n2.w.putN (o := .ins (He.ga X.K C) dx (putF g v vs)) (m' := .ins C (putI g d fs)) e2 ⟨dx, _, upd_same, rf.putI (r1.to n2.s)⟩
        exact q.nx σ γ B2 _ _ ((n1.trans n2).trans n3) (S.st.to (n1.s.trans n2.s)) p
    | [], h => cases (show false = true from h)
    | x :: _ :: _, h => cases x <;> cases (show false = true from h)
/-! ### methods -/
theorem sd_meth {C m f : Str} {a : E} {as : Es} (A : At X I Γ) (h : ckE I (.meth C m f a as) e = true)
    (w : ∀ {x xs}, ckE I a x = true → ckEs I as xs = true → DE X Wd x γ μ fun d μ1 => (∃ fs, insAt μ1 d = some (C, fs) ∧ fs.lookup m = none) ∧ DA X Wd xs γ μ1 fun ds μ2 => ds.length = as.len ∧ Γ.fn f (d :: ds) μ2 P fun cls fs μ3 => Wd cls fs γ μ3)
    (w0 : as = .nil → ∀ {x}, ckE I a x = true → DE X Wd x γ μ fun d μ1 => (∃ fs, insAt μ1 d = some (C, fs) ∧ fs.lookup m = none) ∧ Γ.fn f [d] μ1 P fun cls fs μ3 => Wd cls fs γ μ3) : DE X Wd e γ μ P := by
  cases e <;> try cases (show false = true from h)
  case Call fe xs kw pos =>
    cases fe <;> try cases (show false = true from h)
    case Attribute o nm ap =>
      cases kw <;> try cases (show false = true from h)
      have h : (decide (nm = m) && decide ((C, m, f, as.len + 1) ∈ I.mths) && !isCall0 o && (ap.endLine == pos.line) && decide (as.len ≤ 20) && ckE I a o && ckEs I as xs) = true := h
      simp only [Bool.and_eq_true, decide_eq_true_eq, Bool.not_eq_true'] at h
      obtain ⟨⟨⟨⟨⟨⟨rfl, h2⟩, h3⟩, h4⟩, h5⟩, h6⟩, h7⟩ := h
      obtain ⟨k, fa, fd, ps, c, M, F, hr, hb⟩ := A.mths _ h2
      have fin : ∀ {W : WX} {σ : L2.St} {B H : Hp} {Q : VK} (S : Sit X Wd W γ μ σ B H) (q : ∀ v d B' H' μ', Nxt X.K B H μ B' H' μ' → Rep X.K B' v d → P d μ' → Q v H') (v : V) (d : DV) (vs : List V) (ds : List DV) (B1 H1 : Hp) (μ1 : Mu), Nxt X.K B H μ B1 H1 μ1 → Rep X.K B1 v d → RepL X.K B1 vs ds →
          (ds.length = as.len ∧ Γ.fn f (d :: ds) μ1 P fun cls fs μ2 => Wd cls fs γ μ2) → toSp X.K (as.len + 1) (Γ.fn f) (v :: vs) H1 Q (L2.WE W σ) := fun {W σ B H Q} S q v d vs ds B1 H1 μ1 n1 r0 r1 hk =>
        ⟨by rw [List.length_cons, r1.length, hk.1], B1, μ1, d :: ds, P, _, n1.w, .cons r0 r1, hk.2, fun v d B2 H2 μ2 n2 r2 p2 => q v d B2 H2 μ2 (n1.trans n2) r2 p2,
          fun cls d fs B2 H2 μ2 n2 hx hw => S.xo cls d fs σ γ B2 H2 μ2 (n1.trans n2) (S.st.to (n1.trans n2).s) hx hw⟩
      intro W σ B H S Q q
      cases xs with
      | nil =>
        cases as with
        | cons _ _ => cases (show false = true from h7)
        | nil =>
          obtain ⟨pl, ht⟩ := call_form (name := nm) (env := X.env) h3 h4 (form_ok (args := []) rfl (Nat.zero_le _))
          have PEm : PE X (.Call (.Attribute o nm ap) [] [] pos) (fun σ H Q => WE X o σ H fun x H1 => ∃ a dx fs, x = .ref a ∧ H1 a = some (.ins (He.ga X.K C) dx fs) ∧ fs.lookup nm = none ∧ toSp X.K (Es.nil.len + 1) (Γ.fn f) [x] H1 Q (L2.WE W σ)) := by
            refine ⟨fun pins s σ H Q I h => ?_⟩
            refine PySem.W.methodCall_KW (pl := pl) (thn (pe_w.run pins s σ H _ I h) fun u s1 ⟨x, H1, I1, rx, a, dx, fs, ex, ea, l, q⟩ => ?_) ht
            subst ex
            obtain rfl : u = Value.ref a := rx
            refine getmeth_ok I1 ea c M l ?_
            exact PySem.W.callWith_K0 (first := [.ref a]) I1.kIn M.kp (run_fnSD (E := fun σ => L2.WE W σ) (dvs := []) (us := [.ref a]) (vs := [.ref a]) F hr hb .nil (passAt S.tk σ) I1 (.cons rfl .nil) q)
          exact we_of PEm (w0 rfl h6 W σ B H S _ fun v d B1 H1 μ1 n1 r1 ⟨⟨fs, e1, e2⟩, k⟩ => by
            obtain ⟨a, dx, vs, rfl, hh, rf⟩ := ins_at e1 n1.w r1
            refine ⟨a, dx, vs, rfl, hh, ?_, fin S q _ d [] [] B1 H1 μ1 n1 r1 .nil ⟨rfl, k⟩⟩
            rcases rf.lookO (f := nm) with ⟨z, _⟩ | ⟨_, _, _, z, _⟩
            · exact z
            · rw [e2] at z; cases z)
      | cons x xs =>
        cases as with
        | nil => cases (show false = true from h7)
        | cons a1 as =>
          obtain ⟨h8, h9⟩ := bool_and2 (show (ckE I a1 x && ckEs I as xs) = true from h7)
          obtain ⟨p1, p2, p3⟩ := ck_hpl (env := X.env) (pos := pos) h7
          obtain ⟨pl, ht⟩ := call_form (name := nm) (env := X.env) h3 h4 (form_ok (args := x :: xs) p2 (by rw [p3]; exact h5))
          have PEm : PE X (.Call (.Attribute o nm ap) (x :: xs) [] pos) (fun σ H Q => WE X o σ H fun y H1 => ∃ a dx fs, y = .ref a ∧ H1 a = some (.ins (He.ga X.K C) dx fs) ∧ fs.lookup nm = none ∧ WA X (x :: xs) σ H1 fun vs H2 => toSp X.K ((Es.cons a1 as).len + 1) (Γ.fn f) (y :: vs) H2 Q (L2.WE W σ)) := by
            refine ⟨fun pins s σ H Q I h => ?_⟩
            refine PySem.W.methodCall_KW (pl := pl) (thn (pe_w.run pins s σ H _ I h) fun u s1 ⟨y, H1, I1, rx, a, dx, fs, ex, ea, l, q⟩ => ?_) ht
            subst ex
            obtain rfl : u = Value.ref a := rx
            refine getmeth_ok I1 ea c M l ?_
            refine PySem.W.callWith_K (first := [.ref a]) (h₀ := X.base) I.ok.mod.kin M.kp (thn (pa_w.run pos pins s1 σ H1 _ I1 q) fun us s2 ⟨vs, H2, I2, r, q2⟩ => ⟨I2.kIn, ?_⟩) (starEach_cons (ck_nostar h8)) (ck_hpl h9).1
            exact run_fnSD (E := fun σ => L2.WE W σ) (dvs := []) (us := .ref a :: us) (vs := .ref a :: vs) F hr hb .nil (passAt S.tk σ) I2 (.cons rfl r) (by rw [List.append_nil]; exact q2)
          exact we_of PEm (w h6 h7 W σ B H S _ fun v d B1 H1 μ1 n1 r1 ⟨⟨fs, e1, e2⟩, k⟩ => by
            obtain ⟨a, dx, vs, rfl, hh, rf⟩ := ins_at e1 n1.w r1
            refine ⟨a, dx, vs, rfl, hh, ?_, k W σ B1 H1 (S.next n1) _ fun us ds B2 H2 μ2 n2 r2 k2 => fin S q _ d us ds B2 H2 μ2 (n1.trans n2) (r1.to n2.s) r2 k2⟩
            rcases rf.lookO (f := nm) with ⟨z, _⟩ | ⟨_, _, _, z, _⟩
            · exact z
            · rw [e2] at z; cases z)

/-! ### instances made -/
section
variable {CX : CXT} {k : Nat} {f C : Addr} {fd : FuncData} {ps ks : List Str} {sp : Sp} {dvs : List V} {ds : List Value} {E : XK}
theorem run_makeD {pins : List (Addr × Obj)} {σ : L2.St} {H : Hp} {s : Shared} {Q : VK} {us : List Value} {vs : List V} (M : Mk X.K C f) (F : FnOk X.prog X.w X.K X.mg X.base CX k f fd ps sp) (hr : Room (k + 1) X.A) (hb : Binds X.K fd ps ds) (hd : Vals dvs ds)
    (hx : PassesAt CX X σ E) (I : Inv X pins σ H s) (r : Vals vs us)
    (h : ∀ x dx, H x = none → H dx = none → dx ≠ x → sp (.ref x :: (vs ++ dvs)) (upd (upd H dx (.own x)) x (.ins C dx [])) (fun v H2 => v = .non ∧ Q (.ref x) H2) E) :
    wpAny (model X.prog X.w) X.A (call (.ref C) us) (EP X pins σ Q) X.xe s := by
  have hq := h (s.heap.objs.size + 1) s.heap.objs.size (I.hok.fresh (Nat.le_succ _)) (I.hok.fresh (Nat.le_refl _)) (Nat.ne_of_lt (Nat.lt_succ_self _))
  have I2 := Inv.made (C := C) I
  have r2 : Vals (V.ref (s.heap.objs.size + 1) :: (vs ++ dvs)) (Value.ref (s.heap.objs.size + 1) :: (us ++ ds)) := .cons rfl (r.append hd)
  have hl : (Value.ref (s.heap.objs.size + 1) :: us ++ ds).length = ps.length := by
    have e := r2.length
    rw [F.len _ _ _ _ hq] at e
    exact e.symm
  refine wpAny_call (make_map (f := f) I.kIn M.makes M.init (beq_iff_eq.mp M.fn) (codeAny_mono (F.run _ X.stack _ _ ⟨Value.ref (s.heap.objs.size + 1) :: us, []⟩ (Value.ref (s.heap.objs.size + 1) :: (us ++ ds)) _ _ E (hr.make C us [])
    (I2.env0.make C us []) (hb _ (Value.ref (s.heap.objs.size + 1) :: us) I2.kIn hl) r2 hq) fun r s' hq' => ?_))
  cases r with
  | error e => exact hx pins _ _ e s' I2 hq'
  | ok fl =>
    cases fl with
    | ret u =>
      obtain ⟨v, H', I3, rv, ev, q3⟩ := I2.after hq'
      subst ev
      exact ⟨rv, ⟨V.ref (s.heap.objs.size + 1), H', I3, rfl, q3⟩⟩
    | next => exact False.elim hq'
    | brk => exact False.elim hq'
    | cont => exact False.elim hq'
theorem run_makeKD {n : Nat} {g : List Value → List Value → List Value} {gV : List V → List V → List V} {pins : List (Addr × Obj)} {σ : L2.St} {H : Hp} {s : Shared} {Q : VK} {us ws : List Value} {vs zs : List V} (M : Mk X.K C f) (F : FnOk X.prog X.w X.K X.mg X.base CX k f fd ps sp) (hr : Room (k + 1) X.A) (hb : KBn X.K fd ps (n + 1) ks g gV) (hx : PassesAt CX X σ E)
    (I : Inv X pins σ H s) (r : Vals vs us) (rz : Vals zs ws) (l1 : vs.length = n) (l2 : zs.length = ks.length)
    (h : ∀ x dx, H x = none → H dx = none → dx ≠ x → sp (gV (.ref x :: vs) zs) (upd (upd H dx (.own x)) x (.ins C dx [])) (fun v H2 => v = .non ∧ Q (.ref x) H2) E) :
    wpAny (model X.prog X.w) X.A (call (.ref C) us (ks.zip ws)) (EP X pins σ Q) X.xe s := by
  have hq := h (s.heap.objs.size + 1) s.heap.objs.size (I.hok.fresh (Nat.le_succ _)) (I.hok.fresh (Nat.le_refl _)) (Nat.ne_of_lt (Nat.lt_succ_self _))
  have I2 := Inv.made (C := C) I
  have r1 : Vals (V.ref (s.heap.objs.size + 1) :: vs) (Value.ref (s.heap.objs.size + 1) :: us) := .cons rfl r
  have r2 := hb.rel r1 rz
  have n1 : (Value.ref (s.heap.objs.size + 1) :: us).length = n + 1 := by
    rw [List.length_cons, ← r.length, l1]
  refine wpAny_call (make_map (f := f) I.kIn M.makes M.init (beq_iff_eq.mp M.fn) (codeAny_mono (F.run _ X.stack _ _ ⟨Value.ref (s.heap.objs.size + 1) :: us, ks.zip ws⟩ (g (Value.ref (s.heap.objs.size + 1) :: us) ws) _ _ E (hr.make C us (ks.zip ws))
    (I2.env0.make C us (ks.zip ws)) (hb.to _ (Value.ref (s.heap.objs.size + 1) :: us) ws I2.kIn n1 (rz.length.symm.trans l2)) r2 hq) fun r s' hq' => ?_))
  cases r with
  | error e => exact hx pins _ _ e s' I2 hq'
  | ok fl =>
    cases fl with
    | ret u =>
      obtain ⟨v, H', I3, rv, ev, q3⟩ := I2.after hq'
      subst ev
      exact ⟨rv, ⟨V.ref (s.heap.objs.size + 1), H', I3, rfl, q3⟩⟩
    | next => exact False.elim hq'
    | brk => exact False.elim hq'
    | cont => exact False.elim hq'
end
theorem made_ok {o : Bool} {x : Addr} {K : PySem.W.Frag} {B H : Hp} {v : V} {d : DV} {Q : VK} (w : Wf K B H μ) (r : Rep K B v d) (h : madeW o x P d μ) (q : ∀ v d B' H' μ', Nxt K B H μ B' H' μ' → Rep K B' v d → P d μ' → Q v H') : v = .non ∧ Q (.ref x) H := by
  obtain ⟨rfl, h⟩ := h
  cases r
  refine ⟨rfl, ?_⟩
  cases o with
  | true => exact q _ _ B H μ (Nxt.refl w) (.ref x) ((if_pos rfl).mp h)
  | false =>
    obtain ⟨B2, d2, μ2, n2, r2, p⟩ := frzW_ok w (.ref x) ((if_neg Bool.false_ne_true).mp h)
    exact q _ d2 B2 H μ2 n2 r2 p
theorem new_ok {K : PySem.W.Frag} {B H : Hp} {x dx : Addr} {C : Str} (w : Wf K B H μ) (hx : H x = none) (hd : H dx = none) (hn : dx ≠ x) : μ x = none ∧ Nxt K B H μ B (upd (upd H dx (.own x)) x (.ins (He.ga K C) dx [])) (upm μ x (.ins C [])) := by
  have n1 := w.junkN (o := .own x) hd
  have hx2 : (upd H dx (.own x)) x = none := by rw [upd_ne (Ne.symm hn)]; exact hx
  exact ⟨(w.free hx).2, n1.trans (n1.w.ownN (m := .ins C []) hx2 ⟨dx, [], upd_same, .nil⟩)⟩
theorem sd_mk {o : Bool} {C f : Str} {dg : List Str} {as : Es} (A : At X I Γ) (h : ckE I (.mk o C f dg as) e = true)
    (w : ∀ {xs}, ckEs I as xs = true → DA X Wd xs γ μ fun ds μ1 => ds.length = as.len ∧ ∀ x, μ1 x = none → Γ.fn f (.ref x :: (ds ++ dg.map Γ.gv)) (upm μ1 x (.ins C [])) (madeW o x P) fun cls fs μ2 => Wd cls fs γ μ2)
    (w0 : as = .nil → ∀ x, μ x = none → Γ.fn f (.ref x :: ([] ++ dg.map Γ.gv)) (upm μ x (.ins C [])) (madeW o x P) fun cls fs μ2 => Wd cls fs γ μ2) : DE X Wd e γ μ P := by
  cases e <;> try cases (show false = true from h)
  case Call fe xs kw pos =>
    cases fe <;> try cases (show false = true from h)
    case Name nm p =>
      cases kw <;> try cases (show false = true from h)
      have h : (decide (nm = C) && glb I.sc nm && nmOk nm && decide ((C, f, as.len, dg) ∈ I.mks) && ckEs I as xs) = true := h
      simp only [Bool.and_eq_true, decide_eq_true_eq] at h
      obtain ⟨⟨⟨⟨rfl, h1⟩, h2⟩, h3⟩, h4⟩ := h
      obtain ⟨k, m, fa, fd, ps, dsv, dvs, hm, M, F, hr, hb, hv, hrel, hlen⟩ := A.mks _ h3
      have hlen : m = as.len + 1 + (dg.map Γ.gv).length := hlen
      have hrel : ∀ B, RepL X.K B dvs (dg.map Γ.gv) := hrel
      have fin : ∀ {W : WX} {σ : L2.St} {B H : Hp} {Q : VK} (S : Sit X Wd W γ μ σ B H) (q : ∀ v d B' H' μ', Nxt X.K B H μ B' H' μ' → Rep X.K B' v d → P d μ' → Q v H') (vs : List V) (ds : List DV) (B1 H1 : Hp) (μ1 : Mu), Nxt X.K B H μ B1 H1 μ1 → RepL X.K B1 vs ds →
          (ds.length = as.len ∧ ∀ x, μ1 x = none → Γ.fn f (.ref x :: (ds ++ dg.map Γ.gv)) (upm μ1 x (.ins nm [])) (madeW o x P) fun cls fs μ2 => Wd cls fs γ μ2) → ∀ x dx, H1 x = none → H1 dx = none → dx ≠ x →
          toSp X.K m (Γ.fn f) (.ref x :: (vs ++ dvs)) (upd (upd H1 dx (.own x)) x (.ins (He.ga X.K nm) dx [])) (fun v H2 => v = .non ∧ Q (.ref x) H2) (L2.WE W σ) := fun {W σ B H Q} S q vs ds B1 H1 μ1 n1 r1 hk x dx hx hd hn => by
        obtain ⟨m0, n2⟩ := new_ok (C := nm) n1.w hx hd hn
        refine ⟨by rw [List.length_cons, List.length_append, r1.length, hk.1, (hrel B1).length, hlen]; omega, B1, _, _, madeW o x P, _, n2.w, .cons (.ref x) ((r1.to n2.s).app (hrel B1)), hk.2 x m0, fun v d B2 H2 μ2 n3 r2 p2 => ?_,
          fun cls d fs B2 H2 μ2 n3 hx hw => S.xo cls d fs σ γ B2 H2 μ2 ((n1.trans n2).trans n3) (S.st.to ((n1.trans n2).trans n3).s) hx hw⟩
        exact made_ok n3.w r2 p2 fun v d B4 H4 μ4 n4 r4 p4 => q v d B4 H4 μ4 (((n1.trans n2).trans n3).trans n4) r4 p4
      intro W σ B H S Q q
      cases xs with
      | nil =>
        cases as with
        | cons _ _ => cases (show false = true from h4)
        | nil =>
          have PEm : PE X (.Call (.Name nm p) [] [] pos) (fun σ0 H Q => σ0 = σ ∧ ∀ x dx, H x = none → H dx = none → dx ≠ x → toSp X.K m (Γ.fn f) (.ref x :: ([] ++ dvs)) (upd (upd H dx (.own x)) x (.ins (He.ga X.K nm) dx [])) (fun v H2 => v = .non ∧ Q (.ref x) H2) (L2.WE W σ)) := by
            refine ⟨fun pins s σ0 H Q I h => ?_⟩
            obtain ⟨rfl, h⟩ := h
            refine wpAny_Call_Name_kw (ld_glob I (A.glb h1) hm ?_ (nmOk1 h2).1)
            exact PySem.W.callWith_K0 I.kIn M.kp (run_makeD (us := []) (vs := []) M F hr hb hv (passAt S.tk _) I .nil h)
          exact we_of PEm ⟨rfl, fin S q [] [] B H μ (Nxt.refl S.wf) .nil ⟨rfl, w0 rfl⟩⟩
      | cons x xs =>
        cases as with
        | nil => cases (show false = true from h4)
        | cons a1 as =>
          obtain ⟨h8, h9⟩ := bool_and2 (show (ckE I a1 x && ckEs I as xs) = true from h4)
          have PEm : PE X (.Call (.Name nm p) (x :: xs) [] pos) (fun σ0 H Q => σ0 = σ ∧ WA X (x :: xs) σ0 H fun vs H1 => ∀ y dx, H1 y = none → H1 dx = none → dx ≠ y → toSp X.K m (Γ.fn f) (.ref y :: (vs ++ dvs)) (upd (upd H1 dx (.own y)) y (.ins (He.ga X.K nm) dx [])) (fun v H2 => v = .non ∧ Q (.ref y) H2) (L2.WE W σ)) := by
            refine ⟨fun pins s σ0 H Q I h => ?_⟩
            obtain ⟨rfl, h⟩ := h
            refine wpAny_Call_Name_kw (ld_glob I (A.glb h1) hm ?_ (nmOk1 h2).1)
            refine PySem.W.callWith_K (h₀ := X.base) I.ok.mod.kin M.kp (thn (pa_w.run pos pins s _ H _ I h) fun us s1 ⟨vs, H1, I1, r, q⟩ => ⟨I1.kIn, ?_⟩) (starEach_cons (ck_nostar h8)) (ck_hpl h9).1
            exact run_makeD M F hr hb hv (passAt S.tk _) I1 r q
          exact we_of PEm ⟨rfl, w h4 W σ B H S _ fun vs ds B1 H1 μ1 n1 r1 hk => fin S q vs ds B1 H1 μ1 n1 r1 hk⟩
theorem sd_mkk {o : Bool} {C f : Str} {kn : List Str} {pm : List Nat} {as ks : Es} (A : At X I Γ) (h : ckE I (.mkk o C f kn pm as ks) e = true)
    (w : ∀ {xs kw}, ckEs I as xs = true → ckKs I ks kw = true → DA X Wd xs γ μ fun ds μ1 => DK X Wd kw γ μ1 fun zs μ2 => (ds.length = as.len ∧ zs.length = ks.len) ∧ ∀ x, μ2 x = none → Γ.fn f (.ref x :: (ds ++ pm.map fun i => zs.getD i .non)) (upm μ2 x (.ins C [])) (madeW o x P) fun cls fs μ3 => Wd cls fs γ μ3)
    (w0 : as = .nil → ∀ {kw}, ckKs I ks kw = true → DK X Wd kw γ μ fun zs μ2 => zs.length = ks.len ∧ ∀ x, μ2 x = none → Γ.fn f (.ref x :: (pm.map fun i => zs.getD i .non)) (upm μ2 x (.ins C [])) (madeW o x P) fun cls fs μ3 => Wd cls fs γ μ3)
    (wl : ∀ {kw}, ckKs I ks kw = true → kw.length = ks.len) : DE X Wd e γ μ P := by
  cases e <;> try cases (show false = true from h)
  case Call fe xs kw pos =>
    cases fe <;> try cases (show false = true from h)
    case Name nm p =>
      have h : (decide (nm = C) && glb I.sc nm && nmOk nm && decide ((C, (⟨f, as.len, kn, pm⟩ : KF)) ∈ I.mkks) && decide (kw.map (·.arg) = kn.map some) && ckEs I as xs && ckKs I ks kw) = true := h
      simp only [Bool.and_eq_true, decide_eq_true_eq] at h
      obtain ⟨⟨⟨⟨⟨⟨rfl, h1⟩, h2⟩, h3⟩, h5⟩, h6⟩, h7⟩ := h
      obtain ⟨l, m, fa, fd, ps, g, hm, M, F, hr, hlen, hpi, hb⟩ := A.mkks _ h3
      obtain ⟨k1, k2, k3⟩ := kws_ok (env := X.env) (pos := pos) h5
      have hkl : kw.length = kn.length := by simpa using congrArg List.length h5
      have wl := wl h7
      have hlen : m = as.len + 1 + pm.length := hlen
      have fin : ∀ {W : WX} {σ : L2.St} {B H : Hp} {Q : VK} (S : Sit X Wd W γ μ σ B H) (q : ∀ v d B' H' μ', Nxt X.K B H μ B' H' μ' → Rep X.K B' v d → P d μ' → Q v H') (vs zv : List V) (ds zs : List DV) (B1 H1 : Hp) (μ1 : Mu), Nxt X.K B H μ B1 H1 μ1 → RepL X.K B1 vs ds → RepL X.K B1 zv zs →
          ((ds.length = as.len ∧ zs.length = ks.len) ∧ ∀ x, μ1 x = none → Γ.fn f (.ref x :: (ds ++ pm.map fun i => zs.getD i .non)) (upm μ1 x (.ins nm [])) (madeW o x P) fun cls fs μ2 => Wd cls fs γ μ2) → ∀ x dx, H1 x = none → H1 dx = none → dx ≠ x →
          toSp X.K m (Γ.fn f) ((V.ref x :: vs) ++ pm.map fun i => zv.getD i .non) (upd (upd H1 dx (.own x)) x (.ins (He.ga X.K nm) dx [])) (fun v H2 => v = .non ∧ Q (.ref x) H2) (L2.WE W σ) := fun {W σ B H Q} S q vs zv ds zs B1 H1 μ1 n1 r1 rz hk x dx hx hd hn => by
        obtain ⟨m0, n2⟩ := new_ok (C := nm) n1.w hx hd hn
        refine ⟨by rw [List.length_append, List.length_cons, List.length_map, r1.length, hk.1.1, hlen], B1, _, _, madeW o x P, _, n2.w, .cons (.ref x) ((r1.to n2.s).app ((rz.to n2.s).pick pm)), hk.2 x m0, fun v d B2 H2 μ2 n3 r2 p2 => ?_,
          fun cls d fs B2 H2 μ2 n3 hx hw => S.xo cls d fs σ γ B2 H2 μ2 ((n1.trans n2).trans n3) (S.st.to ((n1.trans n2).trans n3).s) hx hw⟩
        exact made_ok n3.w r2 p2 fun v d B4 H4 μ4 n4 r4 p4 => q v d B4 H4 μ4 (((n1.trans n2).trans n3).trans n4) r4 p4
      intro W σ B H S Q q
      cases xs with
      | nil =>
        cases as with
        | cons _ _ => cases (show false = true from h6)
        | nil =>
          have PEm : PE X (.Call (.Name nm p) [] kw pos) (fun σ0 H Q => σ0 = σ ∧ WK X kw σ0 H fun zv H1 => zv.length = kn.length ∧ ∀ y dx, H1 y = none → H1 dx = none → dx ≠ y → toSp X.K m (Γ.fn f) ((V.ref y :: []) ++ pm.map fun i => zv.getD i .non) (upd (upd H1 dx (.own y)) y (.ins (He.ga X.K nm) dx [])) (fun v H2 => v = .non ∧ Q (.ref y) H2) (L2.WE W σ)) := by
            refine ⟨fun pins s σ0 H Q I h => ?_⟩
            obtain ⟨rfl, h⟩ := h
            refine wpAny_Call_Name_kw (ld_glob I (A.glb h1) hm ?_ (nmOk1 h2).1)
            refine PySem.W.callWith_KW0 (h₀ := X.base) I.ok.mod.kin M.kp k1 ?_ (by rw [k3]; rfl)
            refine thn (pk_w.run pos pins s _ H _ I h) fun ws s2 ⟨zs, H2, I2, rz, l2, q2⟩ => ⟨I2.kIn, ?_⟩
            rw [k2]
            exact run_makeKD (us := []) (vs := []) M F hr hb (passAt S.tk _) I2 .nil rz rfl l2 q2
          refine we_of PEm ⟨rfl, w0 rfl h7 W σ B H S _ fun zv zs B2 H2 μ2 n2 r2 kk => ⟨by rw [r2.length, kk.1, ← wl, hkl], fin S q [] zv [] zs B2 H2 μ2 n2 .nil r2 ⟨⟨rfl, kk.1⟩, kk.2⟩⟩⟩
      | cons x xs =>
        cases as with
        | nil => cases (show false = true from h6)
        | cons a1 as =>
          obtain ⟨h8, h9⟩ := bool_and2 (show (ckE I a1 x && ckEs I as xs) = true from h6)
          have PEm : PE X (.Call (.Name nm p) (x :: xs) kw pos) (fun σ0 H Q => σ0 = σ ∧ WA X (x :: xs) σ0 H fun vs H1 => WK X kw σ0 H1 fun zv H2 => vs.length = (Es.cons a1 as).len ∧ zv.length = kn.length ∧ ∀ y dx, H2 y = none → H2 dx = none → dx ≠ y → toSp X.K m (Γ.fn f) ((V.ref y :: vs) ++ pm.map fun i => zv.getD i .non) (upd (upd H2 dx (.own y)) y (.ins (He.ga X.K nm) dx [])) (fun v H2 => v = .non ∧ Q (.ref y) H2) (L2.WE W σ)) := by
            refine ⟨fun pins s σ0 H Q I h => ?_⟩
            obtain ⟨rfl, h⟩ := h
            refine wpAny_Call_Name_kw (ld_glob I (A.glb h1) hm ?_ (nmOk1 h2).1)
            refine PySem.W.callWith_KW (h₀ := X.base) I.ok.mod.kin M.kp k1 (thn (pa_w.run pos pins s _ H _ I h) fun us s1 ⟨vs, H1, I1, r, q⟩ => ?_) (by rw [(ck_hpl h6).1, k3]; rfl) (starEach_cons (ck_nostar h8))
            refine thn (pk_w.run pos pins s1 _ H1 _ I1 q) fun ws s2 ⟨zs, H2, I2, rz, l1, l2, q2⟩ => ⟨I2.kIn, ?_⟩
            rw [k2]
            exact run_makeKD M F hr hb (passAt S.tk _) I2 r rz l1 l2 q2
          refine we_of PEm ⟨rfl, w h6 h7 W σ B H S _ fun vs ds B1 H1 μ1 n1 r1 kk => kk W σ B1 H1 (S.next n1) _ fun zv zs B2 H2 μ2 n2 r2 kk => ⟨by rw [r1.length]; exact kk.1.1, by rw [r2.length, kk.1.2, ← wl, hkl], fin S q vs zv ds zs B2 H2 μ2 (n1.trans n2) (r1.to n2.s) r2 kk⟩⟩
/-! ### tuple.count -/
/-- a method of a builtin type, its receiver's type told by what is held -/
theorem pe_bmX {T id : String} {name : Str} {r : V → List V → Hp → VK → Prop} {o e : Expr} {es : List Expr} {to : TE} {t : TA} {apos cpos : Pos} (pa : PlainAttrs T) (slot : Slot T name id) (hty : typeOf (.builtin id) = pure (.type "method_descriptor")) (hm : MtR X id r) (ho : PE X o to) (ha : PA X (e :: es) t)
    (hbase : attributeBase o name X.env (eval o X.env) = eval o X.env)
    (hfew : ((backTo cpos (starEach (e :: es) X.env)).all (fun x => !x.1) && (backToKw cpos (keywordEach [] X.env)).all (fun x => x.1.isSome)
      && decide ((e :: es).length + ([] : List Keyword).length + (if ([] : List Keyword).isEmpty then 0 else 1) < 30)) = true)
    (hline : (apos.endLine == cpos.line) = true) (hs : starEach (e :: es) X.env = (false, eval e X.env) :: starEach es X.env) (hplain : (backTo cpos (starEach es X.env)).any (·.1) = false) :
    PE X (.Call (.Attribute o name apos) (e :: es) [] cpos) (fun σ H Q => to σ H fun x H1 => (∀ pins s v, Inv X pins σ H1 s → RelV x v → s.TypeIs v T ∧ ∀ a, v = .ref a → ∃ ob, s.heap.get? a = some ob ∧ ob.dict = none) ∧ t σ H1 fun xs H2 => r x xs H2 Q) := by
  refine ⟨fun pins s σ H Q I h => ?_⟩
  refine wpAny_Call_method_late hbase hfew hline rfl (thn (ho.run pins s σ H _ I h) fun v s1 ⟨x, H1, I1, r1, ty, q1⟩ => ?_)
  obtain ⟨h1, h2⟩ := ty pins s1 v I1 r1
  refine ⟨T, id, pa, slot, hty, h1, h2, ?_⟩
  have hA := ha.run cpos pins s1 σ H1 _ I1 q1
  rw [hs] at hA ⊢
  refine Calls.callWith_builtin (by show (false || (backTo cpos (starEach es X.env)).any (·.1)) = false; rw [hplain] <;> rfl) (Calls.evalArgs_plain ?_)
  exact thn hA fun us s2 ⟨vs, H2, I2, r2, q2⟩ => hm pins s2 σ H2 x vs v us Q I2 r1 r2 q2
def rCntT (K : PySem.W.Frag) : V → List V → Hp → VK → Prop := fun x xs H Q => ∃ (p : Addr) (ns : List V) (k : V), x = .ref p ∧ xs = [k] ∧ SqT K H p ns ∧ flatV k = true ∧ ns.all flatV = true ∧ Q (.int (ns.countP fun z => eqV z k : Nat)) H
theorem mt_cntT : MtR X "tuple.count" (rCntT X.K) := by
  intro pins s σ H x xs v us Q I rx rxs h
  obtain ⟨p, ns, k, rfl, rfl, hs, fk, fs, q⟩ := h
  cases rx
  obtain ⟨u, rfl, ru⟩ := rxs.one
  obtain ⟨its, rv, ⟨⟨cls, dd, data, sl⟩, ho, hc, n, hd⟩, hlen⟩ := I.tuple hs
  simp only at hc hd
  subst hc hd
  refine call_meets PySem.F.slot_tuple_count ⟨_, ho, rfl⟩ PySem.F.entry_tuple_count (PySem.F.args_tuple_count_2 _ _)
    (SeqAt.tuple_countAt p its.toArray n dd sl u (eqU k)) ⟨ho, fun y hy => mem_eqAt ru fk rv fs y (by simpa using hy), ?_⟩
  refine ⟨.int (ns.countP fun z => eqV z k : Nat), H, I.tok _, ⟨s.toks, ?_⟩, q⟩
  show Value.int ((its.toArray.toList.countP (eqU k) : Nat) : Int) s.toks = Value.int ((ns.countP fun z => eqV z k : Nat) : Int) s.toks
  rw [show its.toArray.toList = its by simp, count_eqU rv fs]
theorem Exa.typ {pins : List (Addr × Obj)} {σ : L2.St} {B H : Hp} {s : Shared} {a : Addr} {v : Value} (sb : Same B H) (ex : Exa X.K B a) (I : Inv X pins σ H s) (r : RelV (.ref a) v) : s.TypeIs v "tuple" ∧ ∀ a, v = .ref a → ∃ ob, s.heap.get? a = some ob ∧ ob.dict = none := by
  cases r
  rcases ex with ⟨o, u, h, hc, hd⟩ | ⟨o, h, hc, hd⟩
  · have e := (I.hok a _ (sb _ _ h)).1
    exact ⟨⟨o, e, hc⟩, fun b z => by cases z; exact ⟨o, e, hd⟩⟩
  · have e := I.kIn a o h
    exact ⟨⟨o, e, hc⟩, fun b z => by cases z; exact ⟨o, e, hd⟩⟩
theorem strsV_of {ys : List Str} (h : ys ≠ []) : strsV (ys.map V.str) = true := by
  cases ys with
  | nil => exact absurd rfl h
  | cons y ys =>
    show (true && (ys.map V.str).all isStrV) = true
    rw [Bool.true_and, List.all_eq_true]
    intro z hz
    obtain ⟨w, _, rfl⟩ := List.mem_map.mp hz
    rfl
theorem flat_strs {ys : List Str} : (ys.map V.str).all flatV = true := by
  rw [List.all_eq_true]
  intro z hz
  obtain ⟨w, _, rfl⟩ := List.mem_map.mp hz
  rfl
theorem cnt_eqV {y : Str} : ∀ {ys : List Str}, (ys.map V.str).countP (fun z => eqV z (.str y)) = ys.countP fun x => decide (x = y)
  | [] => rfl
  | x :: ys => by
    rw [List.map_cons, List.countP_cons, List.countP_cons, cnt_eqV]
    have : eqV (.str x) (.str y) = decide (x = y) := by
      show (x == y) = _
      by_cases h : x = y <;> simp [h]
    rw [this]
theorem sd_tcnt {a b : E} (A : At X I Γ) (h : ckE I (.tcnt a b) e = true) (w : ∀ {x y}, ckE I a x = true → ckE I b y = true → DE X Wd x γ μ fun d μ1 => ∃ ys : List Str, d = .tup (ys.map DV.str) ∧ ys ≠ [] ∧ DE X Wd y γ μ1 fun e μ2 => ∃ y, e = .str y ∧ P (.int ((ys.countP fun x => decide (x = y) : Nat) : Int)) μ2) : DE X Wd e γ μ P := by
  cases e <;> try cases (show false = true from h)
  case Call fe xs kw pos =>
    cases fe <;> try cases (show false = true from h)
    case Attribute o nm ap =>
      match xs, kw, h with
      | [x], [], h =>
        have h : (decide (nm = "count") && !isCall0 o && (ap.endLine == pos.line) && ckE I a o && ckE I b x) = true := h
        simp only [Bool.and_eq_true, decide_eq_true_eq, Bool.not_eq_true'] at h
        obtain ⟨⟨⟨⟨rfl, h2⟩, h3⟩, h4⟩, h5⟩ := h
        have hs := starEach_cons (es := []) (env := X.env) (ck_nostar h5)
        refine fun W σ B H S Q q => we_of (pe_bmX PySem.F.plainAttrs_tuple PySem.F.slot_tuple_count PySem.F.type_tuple_count mt_cntT pe_w pa_w (attr_no h2) (by rw [hs]; rfl) h3 hs rfl) (w h4 h5 W σ B H S _ fun v d B1 H1 μ1 n1 r1 ⟨ys, ed, hne, kk⟩ => ?_)
        subst ed
        cases r1 with
        | tup hq rl ex =>
          have ev := rl.strs
          subst ev
          refine ⟨fun pins s v I r => (ex (strsV_of hne)).typ n1.w.sub I r, ?_⟩
          have dx : DA X Wd [x] γ μ1 fun ds μ2 => ∃ y, ds = [.str y] ∧ P (.int ((ys.countP fun x => decide (x = y) : Nat) : Int)) μ2 := da_cons hs (kk.imp fun e μ2 ⟨y, ee, p⟩ => da_nil ⟨y, by rw [ee], p⟩)
          refine dx W σ B1 H1 (S.next n1) _ fun us es B2 H2 μ2 n2 r2 ⟨y, ee, p⟩ => ?_
          subst ee
          cases r2 with
          | cons r2 r3 =>
            cases r3
            cases r2
            refine ⟨_, _, _, rfl, rfl, same_t n2.w.sub (same_t n2.s hq), rfl, flat_strs, ?_⟩
            rw [cnt_eqV]
            exact q _ _ B2 H2 μ2 (n1.trans n2) (.int _) p
      | [], _, h => cases (show false = true from h)
      | _ :: _ :: _, _, h => cases (show false = true from h)
      | [_], _ :: _, h => cases (show false = true from h)
/-! ### dicts -/
theorem isD_of {K : PySem.W.Frag} {B H : Hp} {d : DV} {v : V} (h : (dc μ d).isSome = true) (w : Wf K B H μ) (r : Rep K B v d) : ∃ a, v = .ref a ∧ IsD H a := by
  obtain ⟨kvs, e⟩ := Option.isSome_iff_exists.mp h
  obtain ⟨a, vs, rfl, hh, _⟩ := dc_at e w r
  exact ⟨a, rfl, .inl ⟨_, .inl hh⟩⟩
theorem sd_dnew (h : ckE I .dnew e = true) (w : ∀ a, μ a = none → P (.ref a) (upm μ a (.dic []))) : DE X Wd e γ μ P := by
  cases e <;> try cases (show false = true from h)
  case Dict ks vs pos =>
    cases ks <;> cases vs <;> try cases (show false = true from h)
    exact fun W σ B H S Q q => we_of pe_dnewK fun p hp => q _ _ B _ _ (S.wf.ownN (m := .dic []) hp ⟨[], upd_same, .nil⟩) (.ref p) (w p (S.wf.free hp).2)
theorem sd_dg1 {a k : E} (A : At X I Γ) (h : ckE I (.dg1 a k) e = true) (w : ∀ {x y}, ckE I a x = true → ckE I k y = true → DE X Wd x γ μ fun d μ1 => (dc μ1 d).isSome = true ∧ DE X Wd y γ μ1 fun e μ2 => ∃ kvs x, dc μ2 d = some kvs ∧ e = .str x ∧ P ((kvs.lookup x).getD .non) μ2) : DE X Wd e γ μ P := by
  cases e <;> try cases (show false = true from h)
  case Call fe xs kw pos =>
    cases fe <;> try cases (show false = true from h)
    case Attribute o nm ap =>
      match xs, kw, h with
      | [x], [], h =>
        have h : (decide (nm = "get") && !isCall0 o && (ap.endLine == pos.line) && ckE I a o && ckE I k x) = true := h
        simp only [Bool.and_eq_true, decide_eq_true_eq, Bool.not_eq_true'] at h
        obtain ⟨⟨⟨⟨rfl, h2⟩, h3⟩, h4⟩, h5⟩ := h
        have hs := starEach_cons (es := []) (env := X.env) (ck_nostar h5)
        refine fun W σ B H S Q q => we_of (pe_dget1 (by have := A.un; omega) pe_w pe_w ⟨attr_no h2, by rw [hs]; rfl, h3, by rw [hs]; rfl⟩) (w h4 h5 W σ B H S _ fun v d B1 H1 μ1 n1 r1 ⟨e1, kk⟩ => ?_)
        obtain ⟨r, rfl, hd⟩ := isD_of e1 n1.w r1
        refine ⟨r, rfl, hd, kk W σ B1 H1 (S.next n1) _ fun u z B2 H2 μ2 n2 r2 ⟨kvs, y, e2, ez, p⟩ => ?_⟩
        subst ez
        cases r2
        obtain ⟨r', vs, er, hh, rf⟩ := dc_at e2 n2.w (r1.to n2.s)
        cases er
        refine ⟨_, dget_of hh, ?_⟩
        rcases rf.lookO (f := y) with ⟨z1, z2⟩ | ⟨v1, d1, z1, z2, z3⟩
        · rw [z1]; rw [z2] at p; exact q _ _ B2 H2 μ2 (n1.trans n2) .non p
        · rw [z1]; rw [z2] at p; exact q _ _ B2 H2 μ2 (n1.trans n2) z3 p
      | [], _, h => cases (show false = true from h)
      | _ :: _ :: _, _, h => cases (show false = true from h)
      | [_], _ :: _, h => cases (show false = true from h)
theorem sd_dg2 {a k xe : E} (A : At X I Γ) (h : ckE I (.dg2 a k xe) e = true) (w : ∀ {x y z}, ckE I a x = true → ckE I k y = true → ckE I xe z = true → DE X Wd x γ μ fun d μ1 => (dc μ1 d).isSome = true ∧ DE X Wd y γ μ1 fun e μ2 => DE X Wd z γ μ2 fun u μ3 => ∃ kvs x, dc μ3 d = some kvs ∧ e = .str x ∧ P ((kvs.lookup x).getD u) μ3) : DE X Wd e γ μ P := by
  cases e <;> try cases (show false = true from h)
  case Call fe xs kw pos =>
    cases fe <;> try cases (show false = true from h)
    case Attribute o nm ap =>
      match xs, kw, h with
      | [x, y], [], h =>
        have h : (decide (nm = "get") && !isCall0 o && (ap.endLine == pos.line) && ckE I a o && ckE I k x && ckE I xe y) = true := h
        simp only [Bool.and_eq_true, decide_eq_true_eq, Bool.not_eq_true'] at h
        obtain ⟨⟨⟨⟨⟨rfl, h2⟩, h3⟩, h4⟩, h5⟩, h6⟩ := h
        have hs := starEach_cons (es := [y]) (env := X.env) (ck_nostar h5)
        have hs2 := starEach_cons (es := []) (env := X.env) (ck_nostar h6)
        refine fun W σ B H S Q q => we_of (pe_dget2 (by have := A.un; omega) pe_w pe_w pe_w ⟨attr_no h2, by rw [hs, hs2]; rfl, h3, by rw [hs, hs2]; rfl⟩) (w h4 h5 h6 W σ B H S _ fun v d B1 H1 μ1 n1 r1 ⟨e1, kk⟩ => ?_)
        obtain ⟨r, rfl, hd⟩ := isD_of e1 n1.w r1
        refine ⟨r, rfl, hd, kk W σ B1 H1 (S.next n1) _ fun u z B2 H2 μ2 n2 r2 kk => kk W σ B2 H2 (S.next (n1.trans n2)) _ fun u3 z3 B3 H3 μ3 n3 r3 ⟨kvs, y, e2, ez, p⟩ => ?_⟩
        subst ez
        cases r2
        obtain ⟨r', vs, er, hh, rf⟩ := dc_at e2 n3.w ((r1.to n2.s).to n3.s)
        cases er
        refine ⟨_, dget_of hh, ?_⟩
        rcases rf.lookO (f := y) with ⟨z1, z2⟩ | ⟨v1, d1, z1, z2, z4⟩
        · rw [z1]; rw [z2] at p; exact q _ _ B3 H3 μ3 ((n1.trans n2).trans n3) r3 p
        · rw [z1]; rw [z2] at p; exact q _ _ B3 H3 μ3 ((n1.trans n2).trans n3) z4 p
      | [], _, h => cases (show false = true from h)
      | [_], _, h => cases (show false = true from h)
      | _ :: _ :: _ :: _, _, h => cases (show false = true from h)
      | [_, _], _ :: _, h => cases (show false = true from h)
theorem sd_dsd {a k xe : E} (A : At X I Γ) (h : ckE I (.dsd a k xe) e = true) (w : ∀ {x y z}, ckE I a x = true → ckE I k y = true → ckE I xe z = true → DE X Wd x γ μ fun d μ1 => (dc μ1 d).isSome = true ∧ DE X Wd y γ μ1 fun e μ2 => DE X Wd z γ μ2 fun u μ3 => dsdW d e u μ3 P) : DE X Wd e γ μ P := by
  cases e <;> try cases (show false = true from h)
  case Call fe xs kw pos =>
    cases fe <;> try cases (show false = true from h)
    case Attribute o nm ap =>
      match xs, kw, h with
      | [x, y], [], h =>
        have h : (decide (nm = "setdefault") && !isCall0 o && (ap.endLine == pos.line) && ckE I a o && ckE I k x && ckE I xe y) = true := h
        simp only [Bool.and_eq_true, decide_eq_true_eq, Bool.not_eq_true'] at h
        obtain ⟨⟨⟨⟨⟨rfl, h2⟩, h3⟩, h4⟩, h5⟩, h6⟩ := h
        have hs := starEach_cons (es := [y]) (env := X.env) (ck_nostar h5)
        have hs2 := starEach_cons (es := []) (env := X.env) (ck_nostar h6)
        refine fun W σ B H S Q q => we_of (pe_dsetd pe_w pe_w pe_w ⟨attr_no h2, by rw [hs, hs2]; rfl, h3, by rw [hs, hs2]; rfl⟩) (w h4 h5 h6 W σ B H S _ fun v d B1 H1 μ1 n1 r1 ⟨e1, kk⟩ => ?_)
        obtain ⟨r, rfl, hd⟩ := isD_of e1 n1.w r1
        refine ⟨r, rfl, hd, kk W σ B1 H1 (S.next n1) _ fun u z B2 H2 μ2 n2 r2 kk => kk W σ B2 H2 (S.next (n1.trans n2)) _ fun u3 z3 B3 H3 μ3 n3 r3 ⟨a, kvs, y, ed, hm, ez, hl, p⟩ => ?_⟩
        subst ez
        subst ed
        cases r2
        have rr := (r1.to n2.s).to n3.s
        cases rr
        obtain ⟨hb, vs, hh, rf⟩ := n3.w.ob _ _ hm
        refine ⟨keyD vs, .inr y, hh, rfl, by rw [keyD_len, rf.length]; exact hl, fun v hv => ?_, fun hv => ?_⟩
        · rw [keyD_val (α := V)] at hv
          rcases rf.lookO (f := y) with ⟨z1, z2⟩ | ⟨v1, d1, z1, z2, z4⟩
          · rw [z1] at hv; cases hv
          · rw [z1] at hv; cases hv
            rw [z2] at p
            exact q _ _ B3 H3 μ3 ((n1.trans n2).trans n3) z4 p
        · rw [keyD_val (α := V)] at hv
          rcases rf.lookO (f := y) with ⟨z1, z2⟩ | ⟨v1, d1, z1, z2, z4⟩
          · rw [z2] at p
            rw [keyD_put]
            exact q _ _ B3 _ _ (((n1.trans n2).trans n3).trans (n3.w.putN (m' := .dic (putA kvs y z3)) hm ⟨_, upd_same, rf.put r3⟩)) r3 p
          · rw [z1] at hv; cases hv
      | [], _, h => cases (show false = true from h)
      | [_], _, h => cases (show false = true from h)
      | _ :: _ :: _ :: _, _, h => cases (show false = true from h)
      | [_, _], _ :: _, h => cases (show false = true from h)
theorem dg_dix {vs : List Nat} {x y : Expr} {d : DV} {pos : Pos} {P : Ga → Mu → Prop} (hu : X.A.units + 1 < cLine) (hi : isSl y = false) (h : DE X Wd x γ μ fun o μ1 => DE X Wd y γ μ1 fun i μ2 => setDW o i d μ2 fun μ3 => P γ μ3) : DGo X Wd vs (.Subscript x y pos) d γ μ P := fun W σ B H v S r Q q =>
  wg_of (pg_sub pe_w pe_w (set_dict hu) (fun u => by cases y <;> first | rfl | (rename_i a b st pp; cases st <;> first | rfl | cases hi))) (h W σ B H S _ fun o od B1 H1 μ1 n1 r1 k1 => k1 W σ B1 H1 (S.next n1) _ fun i iD B2 H2 μ2 n2 r2 k2 => by
    obtain ⟨a, kvs, z, rfl, hm, rfl, hl, k3⟩ := k2
    have ra := r1.to n2.s
    cases ra; cases r2
    obtain ⟨hb, us, hh, rf⟩ := n2.w.ob _ _ hm
    refine ⟨a, _, rfl, DPut.k (k := (.inr z : Key)) hh (by rw [keyD_len, rf.length]; exact hl), ?_⟩
    rw [keyD_put]
    have n3 := n2.w.putN (m' := .dic (putA kvs z d)) hm ⟨_, upd_same, rf.put (r.to (n1.s.trans n2.s))⟩
    exact q σ γ B2 _ _ ((n1.trans n2).trans n3) Els.refl (S.st.to (n1.s.trans n2.s)) k3)
end
end Sr

set_option Elab.async false
set_option linter.all false
set_option maxRecDepth 100000
set_option autoImplicit false
/-! Soundness. -/
namespace Sr
open PySem PySem.Spec PyProof.Rows L2
def isBO : Expr → Bool
  | .BoolOp _ _ _ => true
  | _ => false
/-- a test, also as the tail of a chain -/
def DTT (X : Cx) (Wd : XD) (e : Expr) (γ : Ga) (μ : Mu) (P : Bool → Mu → Prop) : Prop := DT X Wd e γ μ P ∧ (isBO e = true → DWW X Wd e γ μ P)
section
variable {X : Cx} {I : SI} {Γ : Cxt} {Wd : XD} {γ : Ga} {μ : Mu} {c e tg iter : Expr} {P : DV → Mu → Prop}
theorem sd_T {a : E} {P : Bool → Mu → Prop} (h : ckT I (.e a) e = true) (w : ckE I a e = true → DE X Wd e γ μ (asB P)) : DTT X Wd e γ μ P := by
  obtain ⟨h1, h2⟩ := bool_and2 (show (valT e && ckE I a e) = true from h)
  refine ⟨dt_val (valT_is h1) ((w h2).imp fun d μ' k => asB_ex k), fun z => ?_⟩
  cases e <;> first | exact absurd h1 (by show ¬ (false = true); decide) | exact absurd z (by show ¬ (false = true); decide)
theorem sd_tcmp {o : O2} {a b : E} {P : Bool → Mu → Prop} (A : At X I Γ) (h : ckT I (.cmp o a b) e = true)
    (w : ∀ {x y}, ckE I a x = true → ckE I b y = true → DE X Wd x γ μ fun d1 μ1 => DE X Wd y γ μ1 fun d2 μ2 => o2W o d1 d2 μ2 (asB P)) : DTT X Wd e γ μ P := by
  cases e <;> try cases (show false = true from h)
  case Compare x ops cs pos =>
    refine ⟨?_, fun z => by cases z⟩
    match ops, cs, h with
    | [op], [y], h =>
      have h : (decide (cmpO o = some op) && !isSet y && ckE I a x && ckE I b y) = true := h
      simp only [Bool.and_eq_true, decide_eq_true_eq, Bool.not_eq_true'] at h
      exact dt_cmp opR_w (behind_no h.1.1.2) ((w h.1.2 h.2).imp fun d1 μ1 k => k.imp fun d2 μ2 k => fun B H x y wf rx ry Q q => o2_cmp A.un h.1.1.1 k B H x y wf rx ry Q fun v d B' H' μ' n r p => q v d B' H' μ' n r (asB_ex p))
    | [], _, h => cases (show false = true from h)
    | [_], [], h => cases (show false = true from h)
    | [_], _ :: _ :: _, h => cases (show false = true from h)
    | _ :: _ :: _, _, h => cases (show false = true from h)
theorem sd_tnot {a : T} {P : Bool → Mu → Prop} (h : ckT I (.not_ a) e = true) (w : ∀ {x}, ckT I a x = true → DTT X Wd x γ μ fun k μ1 => P (!k) μ1) : DTT X Wd e γ μ P := by
  cases e <;> try cases (show false = true from h)
  case UnaryOp op x pos =>
    cases op <;> try cases (show false = true from h)
    exact ⟨dt_not (w h).1, fun z => by cases z⟩
theorem sd_tand {a b : T} {P : Bool → Mu → Prop} (h : ckT I (.and_ a b) e = true) (w : ∀ {x y}, ckT I a x = true → ckT I b y = true → DT X Wd x γ μ fun k μ1 => if k = true then DTT X Wd y γ μ1 P else P false μ1) : DTT X Wd e γ μ P := by
  cases e <;> try cases (show false = true from h)
  case BoolOp op xs pos =>
    cases op <;> try cases (show false = true from h)
    have g : DWW X Wd (.BoolOp .And xs pos) γ μ P := by
      match xs, h with
      | [x, y], h =>
        obtain ⟨h1, h2⟩ := bool_and2 (show (ckT I a x && ckT I b y) = true from h)
        exact dw_and ((w h1 h2).imp fun k μ1 q => ⟨fun z => dw_and1 ((if2 q).1 z).1, (if2 q).2⟩)
      | x :: y :: z :: r, h =>
        obtain ⟨h1, h2⟩ := bool_and2 (show (ckT I a x && ckT I b (.BoolOp .And (y :: z :: r) pos)) = true from h)
        exact dw_and ((w h1 h2).imp fun k μ1 q => ⟨fun z => ((if2 q).1 z).2 rfl, (if2 q).2⟩)
      | [], h => cases (show false = true from h)
      | [_], h => cases (show false = true from h)
    exact ⟨dt_ww g, fun _ => g⟩
theorem sd_tor {a b : T} {P : Bool → Mu → Prop} (h : ckT I (.or_ a b) e = true) (w : ∀ {x y}, ckT I a x = true → ckT I b y = true → DT X Wd x γ μ fun k μ1 => if k = true then P true μ1 else DTT X Wd y γ μ1 P) : DTT X Wd e γ μ P := by
  cases e <;> try cases (show false = true from h)
  case BoolOp op xs pos =>
    cases op <;> try cases (show false = true from h)
    have g : DWW X Wd (.BoolOp .Or xs pos) γ μ P := by
      match xs, h with
      | [x, y], h =>
        obtain ⟨h1, h2⟩ := bool_and2 (show (ckT I a x && ckT I b y) = true from h)
        exact dw_or ((w h1 h2).imp fun k μ1 q => ⟨fun z => dw_or1 ((if2 q).2 z).1, (if2 q).1⟩)
      | x :: y :: z :: r, h =>
        obtain ⟨h1, h2⟩ := bool_and2 (show (ckT I a x && ckT I b (.BoolOp .Or (y :: z :: r) pos)) = true from h)
        exact dw_or ((w h1 h2).imp fun k μ1 q => ⟨fun z => ((if2 q).2 z).2 rfl, (if2 q).1⟩)
      | [], h => cases (show false = true from h)
      | [_], h => cases (show false = true from h)
    exact ⟨dt_ww g, fun _ => g⟩
theorem ifk {b : Bool} {p q p' q' : Prop} (h : if b = true then p else q) (hp : p → p') (hq : q → q') : if b = true then p' else q' := by
  cases b
  · exact (if_neg Bool.false_ne_true).mpr (hq ((if_neg Bool.false_ne_true).mp h))
  · exact (if_pos rfl).mpr (hp ((if_pos rfl).mp h))
theorem asB_imp {P P' : Bool → Mu → Prop} {d : DV} (h : asB P d μ) (hp : ∀ k μ, P k μ → P' k μ) : asB P' d μ := by
  obtain ⟨k, rfl, p⟩ := asB_ex h
  exact hp _ _ p
theorem asI_imp {P P' : Int → Mu → Prop} {d : DV} (h : asI P d μ) (hp : ∀ k μ, P k μ → P' k μ) : asI P' d μ := by
  obtain ⟨k, rfl, p⟩ := asI_ex h
  exact hp _ _ p
theorem slB_imp {P P' : Option Int → Mu → Prop} {d : DV} {a : E} (h : slB a P d μ) (hp : ∀ k μ, P k μ → P' k μ) : slB a P' d μ := by
  cases a <;> first | exact hp _ _ h | exact asI_imp h fun k μ p => hp _ _ p
theorem compF_imp {st : Mu → Prop} {T T' : DV → List DV → Mu → (List DV → Mu → Prop) → Prop} (hT : ∀ d acc μ k k', (∀ a m, k a m → k' a m) → T d acc μ k → T' d acc μ k') {k k' : List DV → Mu → Prop} (hk : ∀ a m, k a m → k' a m) : ∀ {xs acc : List DV} {μ : Mu}, compF st T xs acc μ k → compF st T' xs acc μ k'
  | [], _, _, h => ⟨h.1, hk _ _ h.2⟩
  | d :: ds, _, _, h => ⟨h.1, hT _ _ _ _ _ (fun _ _ p => compF_imp hT hk p) h.2⟩
theorem ck_rng1 {a : E} (h : ckI I (.rng1 a) tg iter = true) : ∃ x p e pos, iter = .Call (.Name x p) [e] [] pos ∧ x = "range" ∧ btn I x = true ∧ ckE I a e = true := by
  unfold ckI at h
  split at h
  · simp only [Bool.and_eq_true, decide_eq_true_eq] at h
    exact ⟨_, _, _, _, rfl, h.1.1, h.1.2, h.2⟩
  · cases h
theorem ck_rng2 {a b : E} (h : ckI I (.rng2 a b) tg iter = true) : ∃ x p e f pos, iter = .Call (.Name x p) [e, f] [] pos ∧ x = "range" ∧ btn I x = true ∧ ckE I a e = true ∧ ckE I b f = true := by
  unfold ckI at h
  split at h
  · simp only [Bool.and_eq_true, decide_eq_true_eq] at h
    exact ⟨_, _, _, _, _, rfl, h.1.1.1, h.1.1.2, h.1.2, h.2⟩
  · cases h
theorem isTupE_is (h : isTupE tg = true) : ∃ es k p, tg = .Tuple es k p := by
  cases tg <;> first | exact ⟨_, _, _, rfl⟩ | cases h
theorem ck_enum {a : E} (h : ckI I (.enum a) tg iter = true) : ∃ x p e pos es kk tp, iter = .Call (.Name x p) [e] [] pos ∧ tg = .Tuple es kk tp ∧ x = "enumerate" ∧ btn I x = true ∧ ckE I a e = true := by
  unfold ckI at h
  split at h
  · simp only [Bool.and_eq_true, decide_eq_true_eq] at h
    obtain ⟨es, kk, tp, z⟩ := isTupE_is h.1.2
    exact ⟨_, _, _, _, es, kk, tp, rfl, z, h.1.1.1, h.1.1.2, h.2⟩
  · cases h
theorem ck_zip {a b : E} (h : ckI I (.zip a b) tg iter = true) : ∃ x p e f pos es kk tp, iter = .Call (.Name x p) [e, f] [] pos ∧ tg = .Tuple es kk tp ∧ x = "zip" ∧ btn I x = true ∧ ckE I a e = true ∧ ckE I b f = true := by
  unfold ckI at h
  split at h
  · simp only [Bool.and_eq_true, decide_eq_true_eq] at h
    obtain ⟨es, kk, tp, z⟩ := isTupE_is h.1.1.2
    exact ⟨_, _, _, _, _, es, kk, tp, rfl, z, h.1.1.1.1, h.1.1.1.2, h.1.2, h.2⟩
  · cases h
theorem ckKs_len : ∀ {ks : Es} {kw : List Keyword}, ckKs I ks kw = true → kw.length = ks.len
  | .nil, [], _ => rfl
  | .nil, _ :: _, h => by cases (show false = true from h)
  | .cons a as, [], h => by cases (show false = true from h)
  | .cons a as, ⟨_, e, _⟩ :: es, h => by
    rw [List.length_cons, ckKs_len (bool_and2 (show (ckE I a e && ckKs I as es) = true from h)).2]; rfl
theorem blk_ok {scope : Scope} {own : List (Str × Nat)} (A : At X I Γ) (h : blkC I.N I.sc scope own = true) : BlkOk X.N X.env.scope scope own := by
  rw [A.hN, A.sc]
  exact blkOk_by h
theorem sub_own {own own1 : List Nat} (h : (own1.all fun i => decide (i ∈ own)) = true) : ∀ i ∈ own1, i ∈ (ownOf I own).map (·.2) := fun i hi => by
  rw [own_back]
  exact of_decide_eq_true (List.all_eq_true.mp h i hi)
theorem lc_of {o : Bool} {own : List Nat} {elt : E} {g : G} {it : It} {c : Ts} {el : Expr} {ifs : List Expr} {s : Scope} (A : At X I Γ) (k : CkC I own elt g it c el tg iter ifs s) (w : wE Γ Wd (.comp o own elt g it c) γ μ P)
    (iI : ∀ {P}, wI Γ Wd it γ μ P → DI X Wd tg iter γ μ P)
    (iG : ∀ {Y γ μ d P}, Blk X s Y → wG Γ noX g d γ μ P → DGo Y noX own tg d γ μ P)
    (iT : ∀ {Y γ μ P}, Blk X s Y → wTs Γ noX c γ μ P → DTs Y noX ifs γ μ P)
    (iE : ∀ {Y γ μ P}, Blk X s Y → wE Γ noX elt γ μ P → DE Y noX el γ μ P) : LcR X Wd γ μ P (tLc (WI X tg iter) (gB X s tg) (ttB X s ifs) (teB X s el) ((ownOf I own).map (·.2))) := by
  have w : wI Γ Wd it γ μ fun xs stay μ1 => compF stay (fun d acc μ k => wG Γ noX g d (wipeG γ own) μ fun γ1 μ1 => wTs Γ noX c γ1 μ1 fun b μ2 =>
        if b = true then wE Γ noX elt γ1 μ2 fun x μ3 => acc.length < sizeLine ∧ k (acc ++ [x]) μ3 else k acc μ2) xs [] μ1 fun ys μ2 => newL o ys μ2 P := w
  refine de_comp (Yes := fun acc γ1 μ2 k => wE Γ noX elt γ1 μ2 fun x μ3 => acc.length < sizeLine ∧ k (acc ++ [x]) μ3) (iI w) ?_ fun acc γ1 μ1 k h Y bY => iE bY h
  rw [own_back]
  intro d acc μ k h Y bY
  exact (iG bY h).imp fun γ1 μ1 h Y bY => iT bY h
theorem dc_of {own : List Nat} {ek ev : E} {g : G} {it : It} {c : Ts} {kx vx : Expr} {ifs : List Expr} {s : Scope} (w : wE Γ Wd (.dcomp own ek ev g it c) γ μ P)
    (iI : ∀ {P}, wI Γ Wd it γ μ P → DI X Wd tg iter γ μ P)
    (iG : ∀ {Y γ μ d P}, Blk X s Y → wG Γ noX g d γ μ P → DGo Y noX own tg d γ μ P)
    (iT : ∀ {Y γ μ P}, Blk X s Y → wTs Γ noX c γ μ P → DTs Y noX ifs γ μ P)
    (iK : ∀ {Y γ μ P}, Blk X s Y → wE Γ noX ek γ μ P → DE Y noX kx γ μ P)
    (iV : ∀ {Y γ μ P}, Blk X s Y → wE Γ noX ev γ μ P → DE Y noX vx γ μ P) : LcR X Wd γ μ P (tDc (WI X tg iter) (gB X s tg) (ttB X s ifs) (teB X s kx) (teB X s vx) ((ownOf I own).map (·.2))) := by
  have w : wI Γ Wd it γ μ fun xs stay μ1 => compF stay (fun d (acc : List (Str × DV)) μ k => wG Γ noX g d (wipeG γ own) μ fun γ1 μ1 => wTs Γ noX c γ1 μ1 fun b μ2 =>
        if b = true then wE Γ noX ek γ1 μ2 fun x μ3 => wE Γ noX ev γ1 μ3 fun y μ4 => ∃ z, x = .str z ∧ acc.length < sizeLine ∧ k (putA acc z y) μ4 else k acc μ2) xs [] μ1 fun kvs μ2 => P (.dic kvs) μ2 := w
  refine de_dcomp (Yes := fun acc γ1 μ2 k => wE Γ noX ek γ1 μ2 fun x μ3 => wE Γ noX ev γ1 μ3 fun y μ4 => ∃ z, x = .str z ∧ acc.length < sizeLine ∧ k (putA acc z y) μ4) (iI w) ?_ fun acc γ1 μ1 k h Y bY => (iK bY h).imp fun x μ2 h Y bY => iV bY h
  rw [own_back]
  intro d acc μ k h Y bY
  exact (iG bY h).imp fun γ1 μ1 h Y bY => iT bY h
theorem lc2_of {o : Bool} {own own1 : List Nat} {elt : E} {g g1 : G} {it it1 : It} {c c1 : Ts} {el tg1 iter1 : Expr} {ifs ifs1 : List Expr} {s : Scope} (A : At X I Γ) (w : wE Γ Wd (.comp2 o own own1 elt g it c g1 it1 c1) γ μ P)
    (iI : ∀ {P}, wI Γ Wd it γ μ P → DI X Wd tg iter γ μ P)
    (iG : ∀ {Y γ μ d P}, Blk X s Y → wG Γ noX g d γ μ P → DGo Y noX own tg d γ μ P)
    (iT : ∀ {Y γ μ P}, Blk X s Y → wTs Γ noX c γ μ P → DTs Y noX ifs γ μ P)
    (iI1 : ∀ {Y γ μ P}, Blk X s Y → wI Γ noX it1 γ μ P → DI Y noX tg1 iter1 γ μ P)
    (iG1 : ∀ {Y γ μ d P}, Blk X s Y → wG Γ noX g1 d γ μ P → DGo Y noX own1 tg1 d γ μ P)
    (iT1 : ∀ {Y γ μ P}, Blk X s Y → wTs Γ noX c1 γ μ P → DTs Y noX ifs1 γ μ P)
    (iE : ∀ {Y γ μ P}, Blk X s Y → wE Γ noX elt γ μ P → DE Y noX el γ μ P) : LcR X Wd γ μ P (tLc2 (WI X tg iter) (gB X s tg) (ttB X s ifs) (iB X s tg1 iter1) (gB X s tg1) (ttB X s ifs1) (teB X s el) ((ownOf I own).map (·.2)) own1) := by
  have w : wI Γ Wd it γ μ fun xs stay μ1 => compF stay (fun d acc μ k => wG Γ noX g d (wipeG γ own) μ fun γ1 μ1 => wTs Γ noX c γ1 μ1 fun b μ2 =>
        if b = true then wI Γ noX it1 γ1 μ2 fun ys stay1 μ3 => compF stay1 (fun d1 acc μ k =>
          wG Γ noX g1 d1 (wipeG γ1 own1) μ fun γ2 μ1 => wTs Γ noX c1 γ2 μ1 fun b μ2 =>
            if b = true then wE Γ noX elt γ2 μ2 fun x μ3 => acc.length < sizeLine ∧ k (acc ++ [x]) μ3 else k acc μ2) ys acc μ3 k
        else k acc μ2) xs [] μ1 fun ys μ2 => newL o ys μ2 P := w
  refine de_comp2 (Yes := fun acc γ1 μ2 k => wI Γ noX it1 γ1 μ2 fun ys stay1 μ3 => compF stay1 (fun d1 acc μ k =>
          wG Γ noX g1 d1 (wipeG γ1 own1) μ fun γ2 μ1 => wTs Γ noX c1 γ2 μ1 fun b μ2 =>
            if b = true then wE Γ noX elt γ2 μ2 fun x μ3 => acc.length < sizeLine ∧ k (acc ++ [x]) μ3 else k acc μ2) ys acc μ3 k)
    (Yes1 := fun acc γ1 μ2 k => wE Γ noX elt γ1 μ2 fun x μ3 => acc.length < sizeLine ∧ k (acc ++ [x]) μ3) (iI w) ?_ (fun acc γ1 μ1 k h Y bY => iI1 bY h) (fun γ1 d acc μ k h Y bY => (iG1 bY h).imp fun γ1 μ1 h Y bY => iT1 bY h) fun acc γ1 μ1 k h Y bY => iE bY h
  rw [own_back]
  intro d acc μ k h Y bY
  exact (iG bY h).imp fun γ1 μ1 h Y bY => iT bY h
end

/-! ### tables of defs, calls of a local -/
section
variable {X : Cx} {I : SI} {Γ : Cxt} {Wd : XD} {γ : Ga} {μ : Mu} {e : Expr} {P : DV → Mu → Prop}
theorem tget_ex {t d : DV} {R : Str → Prop} (h : tgetW t d R) : ∃ kvs z f, t = .tab kvs ∧ d = .str z ∧ kvs.lookup z = some (some f) ∧ R f := by
  cases t <;> try exact (show False from h).elim
  cases d <;> try exact (show False from h).elim
  obtain ⟨f, h1, h2⟩ := h
  exact ⟨_, _, f, rfl, rfl, h1, h2⟩
theorem tin_ex {t d : DV} {R : Bool → Prop} (h : tinW t d R) : ∃ kvs z r, t = .tab kvs ∧ d = .str z ∧ kvs.lookup z = some r ∧ R r.isSome := by
  cases t <;> try exact (show False from h).elim
  cases d <;> try exact (show False from h).elim
  obtain ⟨f, h1, h2⟩ := h
  exact ⟨_, _, f, rfl, rfl, h1, h2⟩
theorem sd_tget {g : Str} {a : E} (A : At X I Γ) (h : ckE I (.tget g a) e = true) (w : ∀ {x}, ckE I a x = true → DE X Wd x γ μ fun d μ1 => tgetW (Γ.gv g) d fun x => P (.fn x) μ1) : DE X Wd e γ μ P := by
  cases e <;> try cases (show false = true from h)
  case Subscript v y pos =>
    cases v <;> try cases (show false = true from h)
    case Name nm p =>
      have h : (glb I.sc nm && nmOk nm && decide (nm = g) && decide (g ∈ I.tbs) && !isSl y && ckE I a y) = true := h
      simp only [Bool.and_eq_true, decide_eq_true_eq, Bool.not_eq_true'] at h
      obtain ⟨⟨⟨⟨⟨h1, h2⟩, e1⟩, h3⟩, h4⟩, h5⟩ := h
      subst e1
      obtain ⟨kvs, eg, d0, es, n, hm, KD, hn⟩ := A.tbs nm h3
      refine de_ix ix_kdict (plainIx_no h4) (de_glob (A.glb h1) hm (show RelV (.ref d0) (.ref d0) from rfl) (fun B => .ref d0) ?_ (nmOk1 h2).1)
      refine (w h5).imp fun d μ1 k => ?_
      obtain ⟨kvs2, z, f, e1, e2, e3, p⟩ := tget_ex k
      rw [eg] at e1
      cases e1
      subst e2
      intro B H x y wf rx ry Q q
      cases rx; cases ry
      exact ⟨d0, z, .ref (He.ga X.K f), rfl, rfl, ⟨es, n, _, KD.at_, KD.lit, hn z _ e3, rfl⟩, q _ _ B H μ1 (Nxt.refl wf) (.fn f) p⟩
theorem sd_tin {g : Str} {a : E} {P : Bool → Mu → Prop} (A : At X I Γ) (h : ckT I (.tin g a) e = true) (w : ∀ {x}, ckE I a x = true → DE X Wd x γ μ fun d μ1 => tinW (Γ.gv g) d fun k => P k μ1) : DTT X Wd e γ μ P := by
  cases e <;> try cases (show false = true from h)
  case Compare x ops cs pos =>
    refine ⟨?_, fun z => by cases z⟩
    match ops, cs, h with
    | [.In], [.Name nm p], h =>
      have h : (glb I.sc nm && nmOk nm && decide (nm = g) && decide (g ∈ I.tbs) && ckE I a x) = true := h
      simp only [Bool.and_eq_true, decide_eq_true_eq] at h
      obtain ⟨⟨⟨⟨h1, h2⟩, e1⟩, h3⟩, h5⟩ := h
      subst e1
      obtain ⟨kvs, eg, d0, es, n, hm, KD, hn⟩ := A.tbs nm h3
      refine dt_cmp (op_in_kd KD) (behind_no rfl) ((w h5).imp fun d μ1 k => de_glob (A.glb h1) hm (show RelV (.ref d0) (.ref d0) from rfl) (fun B => .ref d0) ?_ (nmOk1 h2).1)
      obtain ⟨kvs2, z, r, e1, e2, e3, p⟩ := tin_ex k
      rw [eg] at e1
      cases e1
      subst e2
      intro B H x y wf rx ry Q q
      cases rx; cases ry
      exact ⟨z, _, rfl, rfl, hn z _ e3, by rw [Option.isSome_map]; exact q _ _ B H μ1 (Nxt.refl wf) (.bl _) ⟨_, rfl, p⟩⟩
theorem pe_calllD {CX : CXT} {k i : Nat} {f : Addr} {fd : FuncData} {ps : List Str} {sp : Sp} {E : L2.St → XK} {x : Str} {p pos : Pos} {e : Expr} {es : List Expr} {t : TA} (F : FnOk X.prog X.w X.K X.mg X.base CX k f fd ps sp) (hr : Room k X.A) (hN : X.N[i]? = some x) (hv : Vis X.env.scope x) (hk : PySem.W.keepIn X.K (.ref f) = true) (hb : Binds X.K fd ps [])
    (hx : ∀ σ, PassesAt CX X σ (E σ)) (ha : PA X (e :: es) t) (hdb : (x == ("__debug__" : Str)) = false) (hcd : (x == ("__classdict__" : Str)) = false)
    (he : starEach (e :: es) X.env = (false, eval e X.env) :: starEach es X.env) (hpl : (backTo pos (starEach es X.env)).any (·.1) = false) :
    PE X (.Call (.Name x p) (e :: es) [] pos) (fun σ H Q => σ[i]? = some (some (.ref f)) ∧ t σ H fun vs H1 => sp (vs ++ []) H1 Q (E σ)) := by
  refine ⟨fun pins s σ H Q I h => ?_⟩
  obtain ⟨hs, ht⟩ := h
  refine wpAny_Call_Name_kw (thn ((pe_var (pos := p) hN hv hdb hcd).run pins s σ H (fun v H1 => v = .ref f ∧ H1 = H) I ⟨.ref f, hs, rfl, rfl⟩) fun u s1 ⟨v, H1, I1, r1, q1⟩ => ?_)
  obtain ⟨rfl, rfl⟩ := q1
  cases r1
  refine PySem.W.callWith_K (h₀ := X.base) I.ok.mod.kin hk (thn (ha.run pos pins s1 σ _ _ I1 ht) fun us s2 ⟨vs, H2, I2, r, q⟩ => ⟨I2.kIn, ?_⟩) he hpl
  exact run_fnSD F hr hb .nil (hx σ) I2 r q
theorem sd_calll {i : Nat} {fs : List Str} {as : Es} (A : At X I Γ) (h : ckE I (.calll i fs as) e = true)
    (w : ∀ x, gs γ i = some (.fn x) → x ∈ fs ∧ ∀ {xs}, ckEs I as xs = true → DA X Wd xs γ μ fun ds μ1 => ds.length = as.len ∧ Γ.fn x ds μ1 P fun cls fs μ2 => Wd cls fs γ μ2) (w0 : ∃ x, gs γ i = some (.fn x)) : DE X Wd e γ μ P := by
  cases e <;> try cases (show false = true from h)
  case Call fe xs kw pos =>
    cases fe <;> try cases (show false = true from h)
    case Name nm p =>
      cases xs <;> cases kw <;> try cases (show false = true from h)
      rename_i x xs
      have h : (decide (I.N[i]? = some nm) && vis I.sc nm && nmOk nm && (fs.all fun f => decide (I.fns.lookup f = some as.len)) && ckEs I as (x :: xs)) = true := h
      simp only [Bool.and_eq_true, decide_eq_true_eq] at h
      obtain ⟨⟨⟨⟨h1, h2⟩, e1⟩, h3⟩, h4⟩ := h
      obtain ⟨g, hg⟩ := w0
      obtain ⟨hgf, w⟩ := w g hg
      have h3 : I.fns.lookup g = some as.len := of_decide_eq_true (List.all_eq_true.mp h3 g hgf)
      obtain ⟨k, fa, fd, ps, hm, hk, F, hr, hb⟩ := A.fns g _ h3
      have hga : fa = He.ga X.K g := by
        have := hm.symm.trans (A.ga g _ h3)
        cases this; rfl
      subst hga
      have w := w h4
      cases as with
      | nil => cases (show false = true from h4)
      | cons a as =>
      obtain ⟨h5, h6⟩ := bool_and2 (show (ckE I a x && ckEs I as xs) = true from h4)
      intro W σ B H S Q q
      have hσ : σ[i]? = some (some (.ref (He.ga X.K g))) := by
        have e0 : γ[i]? = some (some (.fn g)) := by
          unfold gs at hg
          split at hg
          · rename_i o ho; rw [ho, hg]
          · cases hg
        obtain ⟨v, hv, rv⟩ := S.st.2 i _ e0
        cases rv; exact hv
      have fin : ∀ (vs : List V) (ds : List DV) (B1 H1 : Hp) (μ1 : Mu), Nxt X.K B H μ B1 H1 μ1 → RepL X.K B1 vs ds → (ds.length = (Es.cons a as).len ∧ Γ.fn g ds μ1 P fun cls fs μ2 => Wd cls fs γ μ2) → toSp X.K (Es.cons a as).len (Γ.fn g) (vs ++ []) H1 Q (L2.WE W σ) := fun vs ds B1 H1 μ1 n1 r1 k => by
        rw [List.append_nil]
        exact ⟨by rw [r1.length]; exact k.1, B1, μ1, ds, P, _, n1.w, r1, k.2, fun v d B2 H2 μ2 n2 r2 p2 => q v d B2 H2 μ2 (n1.trans n2) r2 p2,
          fun cls d fs B2 H2 μ2 n2 hx hw => S.xo cls d fs σ γ B2 H2 μ2 (n1.trans n2) (S.st.to (n1.trans n2).s) hx hw⟩
      exact we_of (pe_calllD (E := fun σ => L2.WE W σ) F hr (by rw [A.hN]; exact h1) (A.vis h2) hk hb (fun σ => passAt S.tk σ) pa_w (nmOk1 e1).1 (nmOk1 e1).2 (starEach_cons (ck_nostar h5)) (ck_hpl h6).1)
        ⟨hσ, w W σ B H S _ fun vs ds B1 H1 μ1 n1 r1 k => fin vs ds B1 H1 μ1 n1 r1 k⟩
end
/-! ### f-strings -/
def DFs (X : Cx) (Wd : XD) (es : List Expr) (acc : Str) (γ : Ga) (μ : Mu) (P : Str → Mu → Prop) : Prop := ∀ (W : WX) (σ : L2.St) (B H : Hp), Sit X Wd W γ μ σ B H →
  ∀ Q : Str → Hp → Prop, (∀ y B' H' μ', Nxt X.K B H μ B' H' μ' → P y μ' → Q y H') → tJs (es.map (WE X)) acc σ H Q
section
variable {X : Cx} {Wd : XD} {γ : Ga} {μ : Mu} {e : Expr} {es : List Expr} {acc : Str}
theorem pj_w : ∀ (es : List Expr), PJ X es (es.map (WE X))
  | [] => .nil
  | _ :: es => .cons pe_w (pj_w es)
theorem dfs_nil {P : Str → Mu → Prop} (h : P acc μ) : DFs X Wd [] acc γ μ P := fun W σ B H S Q q => q acc B H μ (Nxt.refl S.wf) h
theorem dfs_cons {P R : Str → Mu → Prop} (h : DE X Wd e γ μ fun d μ1 => ∃ y, d = .str y ∧ R y μ1) (k : ∀ y μ1, R y μ1 → (acc ++ y).length ≤ sizeLine ∧ DFs X Wd es (acc ++ y) γ μ1 P) : DFs X Wd (e :: es) acc γ μ P := fun W σ B H S Q q =>
  h W σ B H S _ fun v d B1 H1 μ1 n1 r1 ⟨y, ed, p⟩ => by
    subst ed
    cases r1
    have g := k y μ1 p
    exact ⟨y, rfl, g.1, g.2 W σ B1 H1 (S.next n1) Q fun y2 B2 H2 μ2 n2 p2 => q y2 B2 H2 μ2 (n1.trans n2) p2⟩
theorem de_fs {e1 e2 : Expr} {P : DV → Mu → Prop} {pos : Pos} (h : DFs X Wd (e1 :: e2 :: es) Str.empty γ μ fun y μ1 => P (.str y) μ1) : DE X Wd (.JoinedStr (e1 :: e2 :: es) pos) γ μ P := fun W σ B H S Q q =>
  we_of (pe_joined (pj_w (e1 :: e2 :: es))) (h W σ B H S (fun y H1 => Q (.str y) H1) fun y B' H' μ' n p => q _ _ B' H' μ' n (.str y) p)
theorem fmt_ex {d : DV} {R : Str → Prop} (h : fmtW d R) : (∃ y, d = .str y ∧ y.length ≤ sizeLine ∧ R y) ∨ ∃ i, d = .int i ∧ i.natAbs.log2 < 1920 ∧ R (toString i) := by
  cases d <;> try exact (show False from h).elim
  case str y => exact .inl ⟨y, rfl, h.1, h.2⟩
  case int i => exact .inr ⟨i, rfl, h.1, h.2⟩
theorem de_fmt {R : Str → Mu → Prop} {pos : Pos} (h : DE X Wd e γ μ fun d μ1 => (∃ y, d = .str y ∧ y.length ≤ sizeLine ∧ R y μ1) ∨ ∃ i, d = .int i ∧ i.natAbs.log2 < 1920 ∧ R (toString i) μ1) : DE X Wd (.FormattedValue e (-1) none pos) γ μ fun d μ1 => ∃ y, d = .str y ∧ R y μ1 := fun W σ B H S Q q =>
  we_of (pe_fmt pe_w) (h W σ B H S _ fun v d B1 H1 μ1 n1 r1 p => by
    rcases p with ⟨y, rfl, hl, p⟩ | ⟨i, rfl, hl, p⟩
    · cases r1
      exact .inl ⟨y, rfl, hl, q _ _ B1 H1 μ1 n1 (.str y) ⟨y, rfl, p⟩⟩
    · cases r1
      exact .inr ⟨i, rfl, hl, q _ _ B1 H1 μ1 n1 (.str _) ⟨_, rfl, p⟩⟩)
end
mutual
theorem sE : ∀ (a : E) {X : Cx} {I : SI} {Γ : Cxt} {Wd : XD} {γ : Ga} {μ : Mu} {e : Expr} {P : DV → Mu → Prop}, At X I Γ → ckE I a e = true → wE Γ Wd a γ μ P → DE X Wd e γ μ P
  | .var i, _, _, _, _, _, _, _, _, A, h, w => sd_var A h w
  | .int i, _, _, _, _, _, _, _, _, A, h, w => sd_int h w
  | .str i, _, _, _, _, _, _, _, _, A, h, w => sd_str h w
  | .bl i, _, _, _, _, _, _, _, _, A, h, w => sd_bl h w
  | .non, _, _, _, _, _, _, _, _, A, h, w => sd_non h w
  | .glob g, _, _, _, _, _, _, _, _, A, h, w => sd_glob A h w
  | .op o a b, _, _, _, _, _, _, _, _, A, h, w => sd_op (Q := fun _ _ => True) A h fun h1 h2 => (sE a A h1 w).imp fun d1 μ1 w => sE b A h2 w
  | .neg a, _, _, _, _, _, _, _, _, A, h, w => sd_neg h fun h1 => sE a A h1 w
  | .not_ a, _, _, _, _, _, _, _, _, A, h, w => sd_not h fun h1 => sE a A h1 w
  | .ite c a b, _, _, _, _, _, _, _, _, A, h, w => sd_ite h fun h1 h2 h3 => (sT c A h1 w).1.imp fun k μ1 w => ifk w (fun w => sE a A h2 w) fun w => sE b A h3 w
  | .and_ a b, _, _, _, _, _, _, _, _, A, h, w => sd_and h fun h1 h2 => (sE a A h1 w).imp fun d μ1 w => asB_imp w fun k μ1 w => ifk w (fun w => sE b A h2 w) fun w => w
  | .or_ a b, _, _, _, _, _, _, _, _, A, h, w => sd_or h fun h1 h2 => (sE a A h1 w).imp fun d μ1 w => asB_imp w fun k μ1 w => ifk w (fun w => w) fun w => sE b A h2 w
  | .tup as, _, _, _, _, _, _, _, _, A, h, w => sd_tup h fun h1 => sEs as A h1 w
  | .lst o as, _, _, _, _, _, _, _, _, A, h, w => sd_lst h fun h1 => sEs as A h1 w
  | .sl o a lo hi, _, _, _, _, _, _, _, _, A, h, w => sd_sl h fun h1 h2 h3 => (sE a A h1 w).imp fun d μ1 w => (sd_part h2 (fun h4 => sE lo A h4 w) fun z => by cases lo <;> first | exact w | exact absurd z (by show ¬ (false = true); decide)).imp fun i μ2 w =>
      sd_part h3 (fun h4 => sE hi A h4 w) fun z => by cases hi <;> first | exact w | exact absurd z (by show ¬ (false = true); decide)
  | .call f as, _, _, _, _, _, _, _, _, A, h, w => sd_call A h fun h1 => sEs as A h1 w
  | .callk f kn pm as ks, _, _, _, _, _, _, _, _, A, h, w => sd_callk A h (fun h1 h2 => (sEs as A h1 w).imp fun ds μ1 w => (sKs ks A h2 w.2).imp fun zs μ2 w2 => ⟨⟨w.1, w2.1⟩, w2.2⟩)
      (fun e _ h2 => by
      subst e
      exact (sKs ks A h2 (show wEs _ _ ks _ _ (fun zs μ2 => _) from w)).imp fun zs μ2 w => w) fun h2 => ckKs_len h2
  | .bf f as, _, _, _, _, _, _, _, _, A, h, w => sd_bf A h fun h1 => (sEs as A h1 w).imp fun ds μ1 w => w.2
  | .bm m a as, _, _, _, _, _, _, _, _, A, h, w => sd_bm A h (fun h1 h2 => (sE a A h1 w).imp fun d μ1 w => ⟨w.1, (sEs as A h2 w.2).imp fun ds μ2 w => w.2⟩)
      fun e _ h1 => (sE a A h1 w).imp fun d μ1 w => ⟨w.1, by have w := w.2; subst e; exact w⟩
  | .isi a t, _, _, _, _, _, _, _, _, A, h, w => sd_isi A h fun h1 => sE a A h1 w
  | .comp o own elt g it c, _, _, _, _, _, _, _, _, A, h, w => by
    obtain ⟨el, tg, iter, ifs, s, p, rfl, k⟩ := ck_comp h
    exact fun W σ B H S Q q => we_of (pe_lc A.calm A.nd pi_w (blk_ok A k.blk) (fun _ _ _ _ _ => pg_b) (fun _ _ _ _ _ => pts_b) (fun _ _ _ _ _ => pe_b) (fold_no (ck_noset k.it)))
      (lc_of A k w (fun w => sI it A k.it w) (fun b w => sG g (A.blk b) k.tg (.inr k.ow) w) (fun b w => sTs c (A.blk b) k.ts w) (fun b w => sE elt (A.blk b) k.el w) W σ B H S Q q)
  | .comp2 o own own1 elt g it c g1 it1 c1, _, _, _, _, _, _, _, _, A, h, w => by
    obtain ⟨el, tg, iter, ifs, tg1, iter1, ifs1, s, p, rfl, k⟩ := ck_comp2 h
    exact fun W σ B H S Q q => we_of (pe_lc2 A.calm A.nd pi_w (blk_ok A k.c.blk) (sub_own k.sub) (fun _ _ _ _ _ => pg_b) (fun _ _ _ _ _ => pts_b) (fun _ _ _ _ _ => pi_b) (fun _ _ _ _ _ => pg_b) (fun _ _ _ _ _ => pts_b) (fun _ _ _ _ _ => pe_b) (fold_no (ck_noset k.c.it)) fun env => fold_no (ck_noset k.it))
      (lc2_of A w (fun w => sI it A k.c.it w) (fun b w => sG g (A.blk b) k.c.tg (.inr k.c.ow) w) (fun b w => sTs c (A.blk b) k.c.ts w) (fun b w => sI it1 (A.blk b) k.it w) (fun b w => sG g1 (A.blk b) k.tg (.inr k.ow1) w) (fun b w => sTs c1 (A.blk b) k.ts w) (fun b w => sE elt (A.blk b) k.c.el w) W σ B H S Q q)
  | .frz a, _, _, _, _, _, _, _, _, A, h, w => sd_frz (a := a) (sE a A h w)
  | .tget g a, _, _, _, _, _, _, _, _, A, h, w => sd_tget A h fun h1 => sE a A h1 w
  | .calll i fs as, X, I, Γ, Wd, γ, μ, e, P, A, h, w => by
    have w : (match gs γ i with | some (.fn x) => x ∈ fs ∧ wEs Γ Wd as γ μ fun ds μ1 => Γ.fn x ds μ1 P fun cls fs μ2 => Wd cls fs γ μ2 | _ => False) := w
    cases q : gs γ i with
    | none => rw [q] at w; exact w.elim
    | some d =>
      cases d <;> try (rw [q] at w; exact (show False from w).elim)
      rename_i x
      rw [q] at w
      exact sd_calll A h (fun y hy => by cases q.symm.trans hy; exact ⟨w.1, fun h1 => sEs as A h1 w.2⟩) ⟨x, q⟩
  | .fld C a f, _, _, _, _, _, _, _, _, A, h, w => sd_fld A h fun h1 => sE a A h1 w
  | .meth C m q a as, _, _, _, _, _, _, _, _, A, h, w => sd_meth A h (fun h1 h2 => (sE a A h1 w).imp fun d μ1 w => ⟨w.1, sEs as A h2 w.2⟩)
      fun e _ h1 => (sE a A h1 w).imp fun d μ1 w => ⟨w.1, by have w := w.2; subst e; exact w⟩
  | .mk o C q dg as, _, _, _, _, _, _, _, _, A, h, w => sd_mk A h (fun h1 => sEs as A h1 w) fun e => by subst e; exact w
  | .mkk o C q kn pm as ks, _, _, _, _, _, _, _, _, A, h, w => sd_mkk A h (fun h1 h2 => (sEs as A h1 w).imp fun ds μ1 w => (sKs ks A h2 w.2).imp fun zs μ2 w2 => ⟨⟨w.1, w2.1⟩, w2.2⟩)
      (fun e _ h2 => by
      subst e
      exact (sKs ks A h2 (show wEs _ _ ks _ _ (fun zs μ2 => _) from w)).imp fun zs μ2 w => w) fun h2 => ckKs_len h2
  | .tcnt a b, _, _, _, _, _, _, _, _, A, h, w => sd_tcnt A h fun h1 h2 => (sE a A h1 w).imp fun d μ1 ⟨ys, e1, e2, w⟩ => ⟨ys, e1, e2, sE b A h2 w⟩
  | .dnew, _, _, _, _, _, _, _, _, A, h, w => sd_dnew h w
  | .dg1 a k, _, _, _, _, _, _, _, _, A, h, w => sd_dg1 A h fun h1 h2 => (sE a A h1 w).imp fun d μ1 w => ⟨w.1, sE k A h2 w.2⟩
  | .dg2 a k x, _, _, _, _, _, _, _, _, A, h, w => sd_dg2 A h fun h1 h2 h3 => (sE a A h1 w).imp fun d μ1 w => ⟨w.1, (sE k A h2 w.2).imp fun e μ2 w => sE x A h3 w⟩
  | .dsd a k x, _, _, _, _, _, _, _, _, A, h, w => sd_dsd A h fun h1 h2 h3 => (sE a A h1 w).imp fun d μ1 w => ⟨w.1, (sE k A h2 w.2).imp fun e μ2 w => sE x A h3 w⟩
  | .dcomp own ek ev g it c, _, _, _, _, _, _, _, _, A, h, w => by
    obtain ⟨kx, vx, tg, iter, ifs, s, p, rfl, k⟩ := ck_dcomp h
    exact fun W σ B H S Q q => we_of (pe_dc A.calm A.nd pi_w (blk_ok A k.blk) (fun _ _ _ _ _ => pg_b) (fun _ _ _ _ _ => pts_b) (fun _ _ _ _ _ => pe_b) (fun _ _ _ _ _ => pe_b) (fold_no (ck_noset k.it)))
      (dc_of w (fun w => sI it A k.it w) (fun b w => sG g (A.blk b) k.tg (.inr k.ow) w) (fun b w => sTs c (A.blk b) k.ts w) (fun b w => sE ek (A.blk b) k.ek w) (fun b w => sE ev (A.blk b) k.ev w) W σ B H S Q q)
  | .fs as, X, I, Γ, Wd, γ, μ, e, P, A, h, w => by
    cases e <;> try cases (show false = true from h)
    case JoinedStr es pos =>
      match es, h with
      | e1 :: e2 :: rest, h => exact de_fs (sFs as A h w)
      | [_], h => cases (show false = true from h)
      | [], h => cases (show false = true from h)
  | .no, _, _, _, _, _, _, _, _, A, h, w => by cases (show false = true from h)
theorem sFs : ∀ (as : Es) {X : Cx} {I : SI} {Γ : Cxt} {Wd : XD} {γ : Ga} {μ : Mu} {es : List Expr} {acc : Str} {P : Str → Mu → Prop}, At X I Γ → ckFs I as es = true → wFs Γ Wd as acc γ μ P → DFs X Wd es acc γ μ P
  | .nil, _, _, _, _, _, _, [], _, _, A, h, w => dfs_nil w
  | .nil, _, _, _, _, _, _, _ :: _, _, _, A, h, w => by cases (show false = true from h)
  | .cons a as, _, _, _, _, _, _, [], _, _, A, h, w => by cases (show false = true from h)
  | .cons a as, X, I, Γ, Wd, γ, μ, e :: es, acc, P, A, h, w => by
    have h := bool_and2 h
    obtain ⟨h1, h2⟩ := h
    cases e <;> try cases (show false = true from h1)
    case FormattedValue x c sp pos =>
      cases sp <;> try cases (show false = true from h1)
      have h1 : (decide (c = -1) && ckE I a x) = true := h1
      obtain ⟨h0, h1⟩ := bool_and2 h1
      have h0 := of_decide_eq_true h0
      subst h0
      exact dfs_cons (de_fmt ((sE a A h1 w).imp fun d μ1 w => fmt_ex w)) fun y μ1 w => ⟨w.1, sFs as A h2 w.2⟩
    case Constant k j pos =>
      cases k <;> try cases (show false = true from h1)
      case str y =>
        cases a <;> try cases (show false = true from h1)
        case str z =>
          have h0 := of_decide_eq_true (show decide (z = y) = true from h1)
          subst h0
          obtain ⟨_, w1, w2⟩ := (show fmtW (.str z) (fun y => (acc ++ y).length ≤ sizeLine ∧ wFs Γ Wd as (acc ++ y) γ μ P) from w)
          exact dfs_cons (P := P) (R := fun y μ1 => (acc ++ y).length ≤ sizeLine ∧ wFs Γ Wd as (acc ++ y) γ μ1 P) (de_str ⟨_, rfl, w1, w2⟩) fun y μ1 w => ⟨w.1, sFs as A h2 w.2⟩
theorem sEs : ∀ (as : Es) {X : Cx} {I : SI} {Γ : Cxt} {Wd : XD} {γ : Ga} {μ : Mu} {es : List Expr} {P : List DV → Mu → Prop}, At X I Γ → ckEs I as es = true → wEs Γ Wd as γ μ P → DA X Wd es γ μ fun ds μ' => ds.length = as.len ∧ P ds μ'
  | .nil, _, _, _, _, _, _, [], _, A, h, w => da_nil ⟨rfl, w⟩
  | .nil, _, _, _, _, _, _, _ :: _, _, A, h, w => by cases (show false = true from h)
  | .cons a as, _, _, _, _, _, _, [], _, A, h, w => by cases (show false = true from h)
  | .cons a as, _, I, _, _, _, _, e :: es, _, A, h, w =>
    have h := bool_and2 (show (ckE I a e && ckEs I as es) = true from h)
    da_cons (starEach_cons (ck_nostar h.1)) ((sE a A h.1 w).imp fun d μ1 w => (sEs as A h.2 w).imp fun ds μ2 w => ⟨by rw [List.length_cons, w.1]; rfl, w.2⟩)
theorem sKs : ∀ (as : Es) {X : Cx} {I : SI} {Γ : Cxt} {Wd : XD} {γ : Ga} {μ : Mu} {es : List Keyword} {P : List DV → Mu → Prop}, At X I Γ → ckKs I as es = true → wEs Γ Wd as γ μ P → DK X Wd es γ μ fun ds μ' => ds.length = as.len ∧ P ds μ'
  | .nil, _, _, _, _, _, _, [], _, A, h, w => dk_nil ⟨rfl, w⟩
  | .nil, _, _, _, _, _, _, _ :: _, _, A, h, w => by cases (show false = true from h)
  | .cons a as, _, _, _, _, _, _, [], _, A, h, w => by cases (show false = true from h)
  | .cons a as, _, I, _, _, _, _, ⟨_, e, _⟩ :: es, _, A, h, w =>
    have h := bool_and2 (show (ckE I a e && ckKs I as es) = true from h)
    dk_cons ((sE a A h.1 w).imp fun d μ1 w => (sKs as A h.2 w).imp fun ds μ2 w => ⟨by rw [List.length_cons, w.1]; rfl, w.2⟩)
theorem sT : ∀ (a : T) {X : Cx} {I : SI} {Γ : Cxt} {Wd : XD} {γ : Ga} {μ : Mu} {e : Expr} {P : Bool → Mu → Prop}, At X I Γ → ckT I a e = true → wT Γ Wd a γ μ P → DTT X Wd e γ μ P
  | .e a, _, _, _, _, _, _, _, _, A, h, w => sd_T h fun h1 => sE a A h1 w
  | .tin g a, _, _, _, _, _, _, _, _, A, h, w => sd_tin A h fun h1 => sE a A h1 w
  | .cmp o a b, _, _, _, _, _, _, _, _, A, h, w => sd_tcmp A h fun h1 h2 => (sE a A h1 w).imp fun d1 μ1 w => sE b A h2 w
  | .not_ a, _, _, _, _, _, _, _, _, A, h, w => sd_tnot h fun h1 => sT a A h1 w
  | .and_ a b, _, _, _, _, _, _, _, _, A, h, w => sd_tand h fun h1 h2 => (sT a A h1 w).1.imp fun k μ1 w => ifk w (fun w => sT b A h2 w) fun w => w
  | .or_ a b, _, _, _, _, _, _, _, _, A, h, w => sd_tor h fun h1 h2 => (sT a A h1 w).1.imp fun k μ1 w => ifk w (fun w => w) fun w => sT b A h2 w
theorem sTs : ∀ (a : Ts) {X : Cx} {I : SI} {Γ : Cxt} {Wd : XD} {γ : Ga} {μ : Mu} {e : List Expr} {P : Bool → Mu → Prop}, At X I Γ → ckTs I a e = true → wTs Γ Wd a γ μ P → DTs X Wd e γ μ P
  | .nil, _, _, _, _, _, _, [], _, A, h, w => .nil w
  | .nil, _, _, _, _, _, _, _ :: _, _, A, h, w => by cases (show false = true from h)
  | .one a, _, _, _, _, _, _, [e], _, A, h, w => .one (sT a A h w).1
  | .one a, _, _, _, _, _, _, [], _, A, h, w => by cases (show false = true from h)
  | .one a, _, _, _, _, _, _, _ :: _ :: _, _, A, h, w => by cases (show false = true from h)
theorem sI : ∀ (a : It) {X : Cx} {I : SI} {Γ : Cxt} {Wd : XD} {γ : Ga} {μ : Mu} {tg iter : Expr} {P : List DV → (Mu → Prop) → Mu → Prop}, At X I Γ → ckI I a tg iter = true → wI Γ Wd a γ μ P → DI X Wd tg iter γ μ P
  | .seq a, _, I, _, _, _, _, _, iter, _, A, h, w => di_seq (sE a A (bool_and2 (show (!isSet iter && ckE I a iter) = true from h)).2 w)
  | .str a, _, I, _, _, _, _, _, iter, _, A, h, w => di_str (sE a A (bool_and2 (show (!isSet iter && ckE I a iter) = true from h)).2 w)
  | .rng1 a, _, I, _, _, _, _, _, iter, _, A, h, w => by
    obtain ⟨x, p, e, pos, rfl, h1, h2, h3⟩ := ck_rng1 h
    subst h1
    obtain ⟨g1, g2, g3, g4⟩ := btn_is A h2
    exact di_rng1 g1 g2 (starEach_cons (ck_nostar h3)) (sE a A h3 w)
  | .rng2 a b, _, I, _, _, _, _, _, iter, _, A, h, w => by
    obtain ⟨x, p, e, f, pos, rfl, h1, h2, h3, h4⟩ := ck_rng2 h
    subst h1
    obtain ⟨g1, g2, g3, g4⟩ := btn_is A h2
    exact di_rng2 g1 g2 (starEach_cons (ck_nostar h3)) (starEach_cons (ck_nostar h4)) ((sE a A h3 w).imp fun d μ1 w => asI_imp w fun k μ1 w => sE b A h4 w)
  | .enum a, _, I, _, _, _, _, tg, iter, _, A, h, w => by
    obtain ⟨x, p, e, pos, es, kk, tp, rfl, rfl, h1, h2, h3⟩ := ck_enum h
    subst h1
    obtain ⟨g1, g2, g3, g4⟩ := btn_is A h2
    exact di_enum g1 g2 (starEach_cons (ck_nostar h3)) (sE a A h3 w)
  | .zip a b, _, I, _, _, _, _, tg, iter, _, A, h, w => by
    obtain ⟨x, p, e, f, pos, es, kk, tp, rfl, rfl, h1, h2, h3, h4⟩ := ck_zip h
    subst h1
    obtain ⟨g1, g2, g3, g4⟩ := btn_is A h2
    exact di_zip g1 g2 (starEach_cons (ck_nostar h3)) (starEach_cons (ck_nostar h4)) ((sE a A h3 w).imp fun d μ1 w => sE b A h4 w)
theorem sG : ∀ (g : G) {X : Cx} {I : SI} {Γ : Cxt} {Wd : XD} {vs : List Nat} {γ : Ga} {μ : Mu} {tg : Expr} {d : DV} {P : Ga → Mu → Prop}, At X I Γ → ckG I g tg = true → Ow I vs (gOwn vs g) → wG Γ Wd g d γ μ P → DGo X Wd vs tg d γ μ P
  | .var i, X, I, _, _, vs, _, _, tg, _, _, A, h, ow, w => by
    cases tg <;> try cases (show false = true from h)
    case Name x p =>
      obtain ⟨h1, h2⟩ := bool_and2 (show (decide (I.N[i]? = some x) && lcl I x) = true from h)
      have h1 := of_decide_eq_true h1
      obtain ⟨l1, l2⟩ := lcl_is A h2
      exact dg_name A.nd (by rw [A.hN]; exact h1) l1 l2 (ow_var h1 ow) w
  | .tup gs, X, I, _, _, vs, _, _, tg, d, _, A, h, ow, w => by
    cases tg <;> try cases (show false = true from h)
    case Tuple es k p =>
      have h : ckGs I gs es = true := h
      cases d <;> try exact (show False from w).elim
      case tup ds =>
        obtain ⟨p1, p2⟩ := ck_gs (env := X.env) h
        exact dg_tup A.calm p1 p2 rfl w.1 (sGs gs A h ow w.2)
  | .ix a b, X, I, _, _, vs, _, _, tg, d, _, A, h, ow, w => by
    cases tg <;> try cases (show false = true from h)
    case Subscript x y p =>
      have h : (!isSl y && ckE I a x && ckE I b y) = true := h
      simp only [Bool.and_eq_true, Bool.not_eq_true'] at h
      exact dg_ix h.1.1 ((sE a A h.1.2 w).imp fun o μ1 w => sE b A h.2 w)
  | .dix a b, X, I, _, _, vs, _, _, tg, d, _, A, h, ow, w => by
    cases tg <;> try cases (show false = true from h)
    case Subscript x y p =>
      have h : (!isSl y && ckE I a x && ckE I b y) = true := h
      simp only [Bool.and_eq_true, Bool.not_eq_true'] at h
      exact dg_dix (by have := A.un; omega) h.1.1 ((sE a A h.1.2 w).imp fun o μ1 w => sE b A h.2 w)
theorem sGs : ∀ (g : Gs) {X : Cx} {I : SI} {Γ : Cxt} {Wd : XD} {vs : List Nat} {γ : Ga} {μ : Mu} {tg : List Expr} {d : List DV} {P : Ga → Mu → Prop}, At X I Γ → ckGs I g tg = true → Ow I vs (gsOwn vs g) → wGs Γ Wd g d γ μ P → DGso X Wd vs tg d γ μ P
  | .nil, _, _, _, _, _, _, _, [], [], _, A, h, ow, w => dgs_nil rfl w
  | .nil, _, _, _, _, _, _, _, _ :: _, _, _, A, h, ow, w => by cases (show false = true from h)
  | .nil, _, _, _, _, _, _, _, [], _ :: _, _, A, h, ow, w => (show False from w).elim
  | .cons g gs, _, _, _, _, _, _, _, [], _, _, A, h, ow, w => by cases (show false = true from h)
  | .cons g gs, _, _, _, _, _, _, _, _ :: _, [], _, A, h, ow, w => (show False from w).elim
  | .cons g gs, X, I, _, _, vs, _, _, e :: es, d :: ds, _, A, h, ow, w => by
    obtain ⟨h1, h2⟩ := bool_and2 (show (ckG I g e && ckGs I gs es) = true from h)
    have ow2 : Ow I vs (gOwn vs g) ∧ Ow I vs (gsOwn vs gs) := by
      rcases ow with k | k
      · exact ⟨.inl k, .inl k⟩
      · obtain ⟨k1, k2⟩ := bool_and2 (show (gOwn vs g && gsOwn vs gs) = true from k)
        exact ⟨.inr k1, .inr k2⟩
    exact dgs_cons (by rw [ck_g1 h1]; rfl) rfl ((sG g A h1 ow2.1 w).imp fun γ1 μ1 w => sGs gs A h2 ow2.2 w)
end
end Sr

set_option Elab.async false
set_option linter.all false
set_option maxRecDepth 100000
set_option autoImplicit false
/-! Exceptions of classes of one's own, made and raised. -/
namespace Sr
open PySem PySem.Spec PyProof.Rows L2
/-! ### __init__ -/
/-- self.f = p, p in slot i -/
def xAsg (N : List Str) (sc : Scope) (f : Str) (i : Nat) : Stmt → Bool
  | .Assign [.Attribute (.Name s _) g _] (.Name p _) _ => decide (g = f) && decide (N[0]? = some s) && decide (N[i]? = some p) && vis sc s && nmOk s && vis sc p && nmOk p
  | _ => false
theorem vis_of {X : Cx} {sc : Scope} {x : Str} (e : X.env.scope = sc) (h : vis sc x = true) : Vis X.env.scope x := by
  unfold Sr.vis at h
  unfold Vis
  rw [e]
  split at h
  · rename_i e; exact .inl e
  · rename_i e; exact .inr (.inl e)
  · rename_i e; exact .inr (.inr e)
  · cases h
theorem xAsg_ok {X : Cx} {N : List Str} {sc : Scope} {f : Str} {i : Nat} {st : Stmt} (hN : X.N = N) (hs : X.env.scope = sc) (h : xAsg N sc f i st = true) : PS X st (tOst X.K f (tVar 0) (tVar i)) := by
  unfold xAsg at h
  split at h
  · simp only [Bool.and_eq_true, decide_eq_true_eq] at h
    obtain ⟨⟨⟨⟨⟨⟨rfl, h1⟩, h2⟩, h3⟩, h4⟩, h5⟩, h6⟩ := h
    rw [← hN] at h1 h2
    exact ps_ost (pe_var h1 (vis_of hs h3) (nmOk1 h4).1 (nmOk1 h4).2) (pe_var h2 (vis_of hs h5) (nmOk1 h6).1 (nmOk1 h6).2) rfl
  · cases h
def xBody (N : List Str) (sc : Scope) : List Str → List Stmt → Bool
  | [f], [s1] => xAsg N sc f 1 s1
  | [f, g], [s1, s2] => xAsg N sc f 1 s1 && xAsg N sc g 2 s2
  | _, _ => false
section
variable {P : Program} {w : World} {K : PySem.W.Frag} {mg : Str → Option Value} {base : Heap}
theorem xinit_ok {C nm qual : Str} {fs N : List Str} {k : Nat} {args : Arguments} {body : List Stmt} {sc : Scope} {f : Addr} {fd : FuncData} (hx : Xc K C fs) (F : FunD K nm qual args body sc [] [] f fd) (S : FnScope N N sc) (hl : N.length = fs.length + 1) (hb : xBody N sc fs body = true) :
    FnOk P w K mg base (L2.CX P w) (k + 1) f fd N (xSp K C fs) := by
  refine F.ok S (fun vs H Q E h => by rw [h.1, hl]) fun cdv A outer s H vs Q E hr h => ?_
  obtain ⟨hlen, a, ws, rfl, ha, h⟩ := h
  match fs, body, hb with
  | [f1], [s1], hb =>
    refine ⟨_, pss_cons (xAsg_ok rfl rfl hb) pss_nil, ?_⟩
    match ws, hlen with
    | [y], _ =>
      refine ⟨y, ?_, .ref a, ?_, a, He.ga K C, rfl, hx.T, hx.no f1 (by simp), .inl ⟨ha, fun dx hd ne => ?_⟩⟩
      · rfl
      · rfl
      · show Q .non _
        refine h dx _ hd ne upd_same ?_ fun b h1 h2 => ?_
        · rw [upd_ne ne, upd_same]; rfl
        · rw [upd_ne h1, upd_ne h2]
  | [f1, f2], [s1, s2], hb =>
    obtain ⟨b1, b2⟩ := bool_and2 (show (xAsg N sc f1 1 s1 && xAsg N sc f2 2 s2) = true from hb)
    refine ⟨_, pss_cons (xAsg_ok rfl rfl b1) (pss_cons (xAsg_ok rfl rfl b2) pss_nil), ?_⟩
    match ws, hlen with
    | [y, z], _ =>
      refine ⟨y, ?_, .ref a, ?_, a, He.ga K C, rfl, hx.T, hx.no f1 (by simp), .inl ⟨ha, fun dx hd ne => ?_⟩⟩
      · rfl
      · rfl
      · refine ⟨z, ?_, .ref a, ?_, a, He.ga K C, rfl, hx.T, hx.no f2 (by simp), .inr ⟨dx, _, upd_same, by rw [upd_ne ne, upd_same], by show 1 ≤ 900; decide, ?_⟩⟩
        · rfl
        · rfl
        · show Q .non _
          refine h dx _ hd ne (by rw [upd_ne ne.symm, upd_same]) ?_ fun b h1 h2 => ?_
          · rw [upd_same]; rfl
          · rw [upd_ne h2, upd_ne h1, upd_ne h2]
end
/-! ### raise C(..) -/
theorem RepF.zip {K : PySem.W.Frag} {B : Hp} : ∀ {fs : List Str} {vs : List V} {ds : List DV}, RepL K B vs ds → RepF K B (fs.zip vs) (fs.zip ds)
  | [], _, _, _ => .nil
  | f :: fs, [], _, h => by cases h; exact .nil
  | f :: fs, v :: vs, _, h => by
    cases h with
    | cons h1 h2 => exact .cons h1 (RepF.zip h2)
theorem RepF.app {K : PySem.W.Frag} {B : Hp} : ∀ {xs ys : List (Str × V)} {ds es : List (Str × DV)}, RepF K B xs ds → RepF K B ys es → RepF K B (xs ++ ys) (ds ++ es)
  | [], _, _, _, h, k => by cases h; exact k
  | (f, v) :: xs, _, _, _, h, k => by
    cases h with
    | cons h1 h2 => exact .cons h1 (RepF.app h2 k)
theorem RepF.rev {K : PySem.W.Frag} {B : Hp} : ∀ {xs : List (Str × V)} {ds : List (Str × DV)}, RepF K B xs ds → RepF K B xs.reverse ds.reverse
  | [], _, h => by cases h; exact .nil
  | (f, v) :: xs, _, h => by
    cases h with
    | cons h1 h2 =>
      rw [List.reverse_cons, List.reverse_cons]
      exact h2.rev.app (.cons h1 .nil)
section
variable {X : Cx} {I : SI} {Γ : Cxt} {Wd : XD} {γ : Ga} {μ : Mu} {st : Stmt} {D : DEnds}
theorem sd_raise {C : Str} {fs : List Str} {as : Es} (A : At X I Γ) (hx : XcAt X C fs) (hf : fs.length = as.len) (hf1 : fs.length ≤ 20) {e : Expr} {es : List Expr} {np cp pos : Pos} (hg : glb I.sc C = true) (hn : nmOk C = true) (h : ckEs I as (e :: es) = true)
    (w : DA X Wd (e :: es) γ μ fun ds μ1 => ds.length = as.len ∧ Wd C (fs.zip ds).reverse γ μ1) : DS1 X Wd (.Raise (some (.Call (.Name C np) (e :: es) [] cp)) none pos) γ μ D := fun W σ B H S E q => by
  obtain ⟨k, fd, N, hm, hxc, F, hr, hb⟩ := hx
  obtain ⟨a1, as', rfl⟩ : ∃ a1 as', as = .cons a1 as' := by
    cases as with
    | nil => cases (show false = true from h)
    | cons a b => exact ⟨a, b, rfl⟩
  obtain ⟨h6, h7⟩ := bool_and2 (show (ckE I a1 e && ckEs I as' es) = true from h)
  refine ws_of (ps_raise A.calm S.tk (pmk_oex hxc.T hxc.ini hxc.tI F hr hb .nil (fun pins σ H s e s' I c => passes_call S.tk (fun _ _ _ _ z => z.elim) pins σ H s e s' I c) (A.glb hg) hm pa_w (nmOk1 hn).1 (starEach_cons (ck_nostar h6)) (ck_hpl h7).1)) ?_
  refine w W σ B H S _ fun vs ds B1 H1 μ1 n1 r1 ⟨hl, p⟩ => ⟨by rw [r1.length, hl, ← hf]; omega, fun a ha => ⟨by simp only [List.length_cons, List.append_nil]; rw [r1.length, hl, hf], a, vs, by rw [List.append_nil], upd_same, fun dx H2 hd ne e1 e2 e3 => ?_⟩⟩
  have hd1 : H1 dx = none := by rwa [upd_ne ne] at hd
  refine ⟨rfl, dx, _, e1, e2, hd1, ?_⟩
  have eH : upd (del H2 a) dx (.xd (fs.zip vs).reverse) = upd H1 dx (.xd (fs.zip vs).reverse) := by
    funext b
    by_cases hbd : b = dx
    · subst hbd; rw [upd_same, upd_same]
    · rw [upd_ne hbd, upd_ne hbd]
      by_cases hba : b = a
      · subst hba; rw [del_same, ha]
      · rw [del_ne hba, e3 b hba hbd, upd_ne hba]
  rw [eH]
  have n2 := n1.w.junkN (o := .xd (fs.zip vs).reverse) hd1
  exact S.xo C (some dx) _ σ γ B1 _ μ1 (n1.trans n2) (S.st.to n1.s) (.inr ⟨dx, _, rfl, upd_same, (RepF.zip r1).rev⟩) p
end
end Sr

set_option Elab.async false
set_option linter.all false
set_option maxRecDepth 100000
set_option autoImplicit false
/-! isinstance of a caught exception that has fields. -/
namespace Sr
open PySem PySem.Spec PySem.Calls PyProof.Rows PySem.W
section
variable {prog : Program} {w : World} {A : Around} {E : Value → Shared → Prop} {s : Shared} {K : Frag} {x D : Addr} {ox : Obj} {od : Option Obj}
theorem findObj_data {C : Addr} {name : Str} {a g : Value} (hc : (clsIn K C).isSome = true) (ha : findIn K (.ref C) name = some (some a)) (hg : specialIn K a "__get__" = some (some g)) (ht : takesIn K a = some true) : findObj K C od name = some (.bind g a) := by
  obtain ⟨cd, hc⟩ := Option.isSome_iff_exists.mp hc
  unfold findObj
  rw [hc, Option.bind_some, ha, Option.bind_some]
  simp [hg, ht]
theorem kin_classF {Q : Option Value → Shared → Prop} (hga : findIn K (.ref D) "__getattribute__" = some (some (.builtin "BaseException.__getattribute__"))) (hgt : findIn K (.ref D) "__getattr__" = some none) (hsub : subIn K (.ref D) (.type "BaseException") = some true)
    (hdct : hasDictIn K D = true) (ha : findIn K (.ref D) "__class__" = some (some (.builtin "object.__class__")))
    (hn : specialIn K (.builtin "object.__class__") "__get__" = some (some (.builtin "getset_descriptor.__get__"))) (htk : takesIn K (.builtin "object.__class__") = some true) (hm : mroIn K D (.type "object") = some true)
    (X : K.In s.heap) (I : InstAt s.heap x ox D od) (h : Q (some (.ref D)) { s with toks := s.toks + 1 }) : wpAny (model prog w) A (getAttr? (.ref x) "__class__") Q E s := by
  have hf : findObj K D od "__class__" = some (.bind (.builtin "getset_descriptor.__get__") (.builtin "object.__class__")) := findObj_data (by obtain ⟨cd, hc, _⟩ := any_some hdct; rw [hc]; rfl) ha hn htk
  obtain ⟨hp, g, d, t, os⟩ := s
  have L0 := I.type (M := model prog w)
  have L1 := looks_findIn (M := model prog w) X hga
  have L2 := looks_findIn (M := model prog w) X hgt
  have L3 := looks_find (M := model prog w) X I hf
  have sub : Looks (model prog w) hp (isInstance (.ref x) (.type "BaseException")) true := L0.andThen (looks_subIn X hsub)
  have hx0 : (false && onTheHeap (Value.builtin "BaseException.__getattribute__")) = false := rfl
  have hx2 : (Value.builtin "BaseException.__getattribute__" == Value.builtin "object.__getattribute__") = false := by decide +kernel
  have hx1 : (onTheHeap (Value.ref D) && Value.builtin "BaseException.__getattribute__" == Value.builtin "object.__getattribute__") = false := by rw [hx2]; rfl
  unfold getAttr? getAttrBy? getAttrBy
  refine wpAny_bind (wpAny_mkText (wpAny_bind (wpAny_attempt (wpAny_holding (wpAny_bind (L0.at (wpAny_bind (L1.at ?_))))))))
  show wpAny _ _ (if (onTheHeap (Value.ref D) && Value.builtin "BaseException.__getattribute__" == Value.builtin "object.__getattribute__") = true then _ else _) _ _ _
  rw [hx1, if_neg Bool.false_ne_true]
  unfold getAttrByItsOwn hookBefore
  refine wpAny_bind ?_
  rw [if_pos (show onTheHeap (Value.ref D) = true from rfl)]
  refine L2.at ?_
  refine wpAny_bind (wpAny_attempt (wpAny_holding ?_))
  unfold callGetattribute
  rw [hx0, if_neg Bool.false_ne_true]
  unfold boundAndCalled
  rw [PySem.F.excAttr_ValueError.ga.bind (.ref x)]
  refine wpAny_bind (wpAny_pure ?_)
  show wpAny _ _ (call (.builtin "BaseException.__getattribute__") [.ref x, .str "__class__" t]) _ _ _
  refine wpAny_call (codeAny_call_builtin PySem.F.excAttr_ValueError.ga.plain PySem.F.entry_bexc_ga ?_)
  refine @check_slot (model prog w) _ _ ⟨hp, g, d, t + 1, os⟩ "BaseException.__getattribute__" "BaseException" "__getattribute__" (.ref x) [.str "__class__" t] [] _ (by decide +kernel) (by decide +kernel) sub (PySem.F.args_bexc_ga (.ref x) (.str "__class__" t)) ?_
  unfold Builtin.«object.__getattribute__»
  refine wpAny_bind (wpAny_of_eq (a := ((Value.ref x : Value), [Value.str "__class__" t])) (by first | rfl | (simp only [slotArgs]; rfl)) ?_)
  refine wpAny_bind (wpAny_pure (wpAny_bind (L0.at (wpAny_bind (L3.at ?_)))))
  show wpAny _ _ (holding [Value.builtin "object.__class__"] (call (.builtin "getset_descriptor.__get__") [.builtin "object.__class__", .ref x, .ref D]) >>= ret) _ _ _
  refine wpAny_bind (wpAny_holding (wpAny_call (class_get (s := ⟨hp, g, d, t + 1, os⟩) (ox := ox) (od := od) X I hm ?_)))
  refine wpAny_pure ?_
  show wpAny _ _ (handedOut (.ref D)) _ _ _
  rw [handedOut_of (v := .ref D) rfl]
  first
    | exact wpAny_pure (wpAny_pure h)
    | exact wpAny_pure h
    | exact wpAny_pure (wpAny_bind (wpAny_pure (wpAny_pure h)))
theorem kitx_excF (hga : findIn K (.ref D) "__getattribute__" = some (some (.builtin "BaseException.__getattribute__"))) (hgt : findIn K (.ref D) "__getattr__" = some none) (hsub : subIn K (.ref D) (.type "BaseException") = some true) (hdct : hasDictIn K D = true) (ha : findIn K (.ref D) "__class__" = some (some (.builtin "object.__class__")))
    (hn : specialIn K (.builtin "object.__class__") "__get__" = some (some (.builtin "getset_descriptor.__get__"))) (htk : takesIn K (.builtin "object.__class__") = some true) (hm : mroIn K D (.type "object") = some true) :
    KitX K (.ref x) (.ref D) (fun h => ∃ od, InstAt h x ox D od) where
  ty := fun _ _ _ ⟨_, I⟩ => I.type
  it := fun _ _ X _ => by
    obtain ⟨cdD, hcD, _⟩ := any_some hdct
    unfold clsIn at hcD
    split at hcD
    · rename_i c' d' cd' sl' ho
      intro A' Q' E' s' k q
      unfold isType loadHead
      exact wpAny_bind (wpAny_loadPart (k _ _ (X _ _ ho)) (wpAny_pure q))
    · cases hcD
  ne := fun h tp dd its n sl X htp => by
    obtain ⟨cdD, hcD, _⟩ := any_some hdct
    refine Bool.eq_false_iff.mpr fun q => ?_
    have e : D = tp := Value.ref.inj (beq_iff_eq.mp q)
    subst e
    unfold clsIn at hcD
    split at hcD
    · rename_i c' d' cd' sl' ho
      have z := (X _ _ ho).symm.trans htp
      cases z
    · cases hcD
  ca := fun X ⟨_, I⟩ k => kin_classF hga hgt hsub hdct ha hn htk hm X I k
end
end Sr

set_option Elab.async false
set_option linter.all false
set_option maxRecDepth 100000
set_option autoImplicit false
/-! The suites of except clauses. -/
namespace Sr
open PySem PySem.Spec PyProof.Rows L2
section
variable {X : Cx} {a dx D : Addr} {oe : Obj} {pn : List (Addr × Obj)}
theorem inst_at {s : Shared} {pins : List (Addr × Obj)} {σ : L2.St} {H : Hp} {fs : List (Str × V)} (hz : Zc (.ref D) (some dx) oe) (hf : ∃ vs, oe.data = .fields vs) (I : Inv (X.suite a ((a, oe) :: pn)) pins σ H s) (ea : H dx = some (.xd fs)) : ∃ od, PySem.W.InstAt s.heap a oe D od := by
  obtain ⟨ha, _⟩ := I.pin (a, oe) (List.mem_append_left _ List.mem_cons_self)
  obtain ⟨vs, hd⟩ := hf
  have hx : ObjOk X.prog X.w H s.heap dx (.xd fs) := I.hok dx _ ea
  obtain ⟨mA, hns, hr⟩ := hx
  obtain ⟨od, ho, hl⟩ := lookIn_ns hns
  exact ⟨some od, ha, hz.1, by unfold PySem.W.notCls; rw [hd] <;> rfl, by rw [hz.2]; exact ho⟩
theorem call_isF (C : ExcC X.K D) (hz : Zc (.ref D) (some dx) oe) (hf : ∃ vs, oe.data = .fields vs) : CallR (X.suite a ((a, oe) :: pn)) (.builtin "isinstance")
    (fun xs H Q => ∃ (c : V) (cv : Value) (b : Bool) (fs : List (Str × V)), xs = [.ref a, c] ∧ (∀ u, RelV c u → u = cv) ∧ PySem.W.kitOne X.K (.ref D) cv = some b ∧ H dx = some (.xd fs) ∧ Q (.bl b) H) := by
  intro pins s σ H xs us Q I r h
  obtain ⟨c, cv, b, fs, rfl, hcv, e, ea, q⟩ := h
  cases r with
  | cons rx rr =>
    cases rr with
    | cons rt rr =>
      cases rr
      cases rx
      have ec := hcv _ rt
      subst ec
      exact PySem.W.kia_one (kitx_excF C.hg C.hk C.hs C.hd C.ha C.hn C.ht C.hm) I.kIn (inst_at hz hf I ea) e (fun z => nomatch z) fun tk => ⟨.bl b, H, I.kept (t' := tk) fun _ _ z => z, rfl, q⟩
theorem vals_is {K : PySem.W.Frag} : ∀ {cs : List Cl} {its : List Value}, Vals (cs.map (Cl.v K)) its → its = cs.map (Cl.val K)
  | [], _, h => by cases h; rfl
  | c :: cs, _, h => by
    cases h with
    | cons h1 h2 => rw [List.map_cons, vals_is h2, Cl.rel h1]
theorem call_isFT (C : ExcC X.K D) (hz : Zc (.ref D) (some dx) oe) (hf : ∃ vs, oe.data = .fields vs) : CallR (X.suite a ((a, oe) :: pn)) (.builtin "isinstance")
    (fun xs H Q => ∃ (tp : Addr) (cs : List Cl) (b : Bool) (fs : List (Str × V)), xs = [.ref a, .ref tp] ∧ SqT X.K H tp (cs.map (Cl.v X.K)) ∧ PySem.W.kitAny X.K (.ref D) (cs.map (Cl.val X.K)) = some b ∧ H dx = some (.xd fs) ∧ Q (.bl b) H) := by
  intro pins s σ H xs us Q I r h
  obtain ⟨tp, cs, b, fs, rfl, hq, e, ea, q⟩ := h
  cases r with
  | cons rx rr =>
    cases rr with
    | cons rt rr =>
      cases rr
      cases rx
      cases rt
      obtain ⟨its, rv, ⟨⟨cls, dd, data, sl⟩, ho, hc, n, hd⟩, _⟩ := I.tuple hq
      simp only at hc hd
      subst hc hd
      rw [vals_is rv] at ho
      exact PySem.W.kia_tup (kitx_excF C.hg C.hk C.hs C.hd C.ha C.hn C.ht C.hm) I.kIn (inst_at hz hf I ea) ho e (fun z => nomatch z) fun tk => ⟨.bl b, H, I.kept (t' := tk) fun _ _ z => z, rfl, q⟩
end
/-! ### items -/
def XE1.Ok (X : Cx) (cls : Str) : XE1 → Prop
  | fld f => PySem.W.findIn X.K (.ref (He.ga X.K cls)) f = some none
  | isa cs tup r => (∀ c ∈ cs, ClAt X c) ∧ ∃ b, r.lookup cls = some b ∧ (tup = false → ∀ c, cs = [c] → PySem.W.kitOne X.K (.ref (He.ga X.K cls)) (c.val X.K) = some b) ∧ (tup = true → PySem.W.kitAny X.K (.ref (He.ga X.K cls)) (cs.map (Cl.val X.K)) = some b)
section
variable {X : Cx} {cls nm : Str} {a dx : Addr} {oe : Obj} {pn : List (Addr × Obj)} {i : Nat} {σ : L2.St} {B : Hp} {μ : Mu} {xs : List (Str × V)} {fs : List (Str × DV)}
theorem gl_of {sc : Scope} {x : Str} (e : X.env.scope = sc) (h : glb sc x = true) : Gl X x := by
  unfold Sr.glb at h
  show X.env.scope.names.lookup x = _
  rw [e]
  split at h
  · assumption
  · cases h
theorem cl_pe {c : Cl} {e : Expr} (ck : ckCl X.env.scope c e = true) (h : ClAt X c) : PE (X.suite a ((a, oe) :: pn)) e (tC (c.v X.K)) := by
  unfold ckCl at ck
  split at ck
  · simp only [Bool.and_eq_true, decide_eq_true_eq] at ck
    obtain ⟨⟨rfl, hg⟩, hn⟩ := ck
    cases c with
    | own c => exact pe_glob (X := X.suite a ((a, oe) :: pn)) (gl_of (X := X) rfl hg) h rfl (nmOk1 hn).1
    | blt n => exact pe_bltn (X := X.suite a ((a, oe) :: pn)) (v := .ty n) (gl_of (X := X) rfl hg) h.1 h.2.1 rfl h.2.2 (nmOk1 hn).1
  · cases ck
theorem cl_nostar {sc : Scope} {c : Cl} {e : Expr} (ck : ckCl sc c e = true) : ∀ e' p, e ≠ .Starred e' p := by
  rintro e' p rfl
  cases ck
theorem cls_pa : ∀ {cs : List Cl} {es : List Expr}, ckCls X.env.scope cs es = true → (∀ c ∈ cs, ClAt X c) → PA (X.suite a ((a, oe) :: pn)) es (fun _ H Q => Q (cs.map (Cl.v X.K)) H)
  | [], [], _, _ => pa_nil
  | c :: cs, e :: es, ck, h => by
    obtain ⟨c1, c2⟩ := bool_and2 (show (ckCl X.env.scope c e && ckCls X.env.scope cs es) = true from ck)
    exact pa_cons (cl_pe c1 (h c List.mem_cons_self)) (cls_pa c2 fun d hd => h d (List.mem_cons_of_mem _ hd)) (starEach_cons (cl_nostar c1))
  | [], _ :: _, ck, _ => by cases ck
  | _ :: _, [], ck, _ => by cases ck
theorem isa_d {cs : List Cl} {t : Bool} {r : List (Str × Bool)} {d : DV} {b : Bool} (h : (XE1.isa cs t r).d cls fs = some d) (o : r.lookup cls = some b) : d = .bl b := by
  have h : (r.lookup cls).map DV.bl = some d := h
  rw [o] at h; cases h; rfl
theorem ck_any1 {sc : Scope} {c : Cl} {e : Expr} {env : Env} {pos : Pos} (ck : ckCl sc c e = true) : (backTo pos (starEach [e] env)).any (·.1) = false := by
  unfold ckCl at ck
  split at ck
  · rfl
  · cases ck
theorem item_ok (hx : Xf X.K cls) (hz : Zc (.ref (He.ga X.K cls)) (some dx) oe) (hf : ∃ vs, oe.data = .fields vs) (hi : X.N[i]? = some nm) (hv : Vis X.env.scope nm) (hn : nmOk nm = true) (hσ : σ[i]? = some (some (.ref a))) (hB : X.mg "isinstance" = none) :
    ∀ {x : XE1} {e : Expr} {d : DV} {H : Hp} {Q : VK}, ckX1 X.env.scope nm x e = true → x.Ok X cls → x.d cls fs = some d → Wf X.K B H μ → H dx = some (.xd xs) → RepF X.K B xs fs →
      (∀ v H', Nxt X.K B H μ B H' μ → H' dx = some (.xd xs) → Rep X.K B v d → Q v H') → WE (X.suite a ((a, oe) :: pn)) e σ H Q := by
  have pv : ∀ {p : Pos}, PE (X.suite a ((a, oe) :: pn)) (.Name nm p) (tVar i) := fun {p} => pe_var (X := X.suite a ((a, oe) :: pn)) hi hv (nmOk1 hn).1 (nmOk1 hn).2
  intro x e d H Q ck ok hd w hh rf q
  unfold ckX1 at ck
  split at ck
  · simp only [Bool.and_eq_true, decide_eq_true_eq] at ck
    obtain ⟨rfl, rfl⟩ := ck
    obtain ⟨v, hv2, rv⟩ := rf.look (show fs.lookup _ = some d from hd)
    exact we_of (pe_xf hx.f ok hz hf pv) ⟨.ref a, hσ, rfl, rfl, dx, xs, v, rfl, hh, hv2, q v H (Nxt.refl w) hh rv⟩
  · simp only [Bool.and_eq_true, decide_eq_true_eq] at ck
    obtain ⟨⟨⟨rfl, hg⟩, rfl⟩, c1⟩ := ck
    obtain ⟨o1, b, o2, o3, _⟩ := ok
    have ed : d = .bl b := isa_d hd o2
    subst ed
    exact we_of (pe_callB (call_isF hx.c hz hf) (gl_of (X := X) rfl hg) hB (by decide +kernel) (pa_cons pv (pa_cons (cl_pe c1 (o1 _ List.mem_cons_self)) pa_nil (starEach_cons (cl_nostar c1))) rfl) (by decide) (by decide) rfl (ck_any1 c1))
      ⟨.ref a, hσ, _, _, b, xs, rfl, fun u hu => Cl.rel hu, o3 rfl _ rfl, hh, q _ H (Nxt.refl w) hh (.bl b)⟩
  · simp only [Bool.and_eq_true, decide_eq_true_eq] at ck
    obtain ⟨⟨⟨⟨rfl, hg⟩, rfl⟩, hl⟩, c1⟩ := ck
    obtain ⟨o1, b, o2, _, o3⟩ := ok
    have ed : d = .bl b := isa_d hd o2
    subst ed
    refine we_of (pe_callB (call_isFT hx.c hz hf) (gl_of (X := X) rfl hg) hB (by decide +kernel) (pa_cons pv (pa_cons (pe_tupX (cls_pa c1 o1)) pa_nil rfl) rfl) (by decide) (by decide) rfl rfl) ⟨.ref a, hσ, by rw [List.length_map, sizeLine_eq]; omega, fun p o hp _ _ => ?_⟩
    have ne : dx ≠ p := ne_of_none hh hp
    exact ⟨p, _, b, xs, rfl, .inl (.inr ⟨o, upd_same⟩), o3 rfl, by rw [upd_ne ne]; exact hh, q _ _ (w.junkN hp) (by rw [upd_ne ne]; exact hh) (.bl b)⟩
  · cases ck
theorem x1_nostar {sc : Scope} {x : XE1} {e : Expr} (ck : ckX1 sc nm x e = true) : ∀ e' p, e ≠ .Starred e' p := by
  rintro e' p rfl
  cases x with
  | fld f => cases (show false = true from ck)
  | isa cs t r =>
    cases cs with
    | nil => cases t <;> cases (show false = true from ck)
    | cons c cs => cases cs <;> cases t <;> cases (show false = true from ck)
theorem items_ok (hx : Xf X.K cls) (hz : Zc (.ref (He.ga X.K cls)) (some dx) oe) (hf : ∃ vs, oe.data = .fields vs) (hi : X.N[i]? = some nm) (hv : Vis X.env.scope nm) (hn : nmOk nm = true) (hσ : σ[i]? = some (some (.ref a))) (hB : X.mg "isinstance" = none) :
    ∀ {its : List XE1} {es : List Expr} {ds : List DV} {H : Hp} {Q : List V → Hp → Prop}, ckXs X.env.scope nm its es = true → (∀ x ∈ its, x.Ok X cls) → xds cls fs its = some ds → Wf X.K B H μ → H dx = some (.xd xs) → RepF X.K B xs fs →
      (∀ vs H', Nxt X.K B H μ B H' μ → H' dx = some (.xd xs) → RepL X.K B vs ds → Q vs H') → WA (X.suite a ((a, oe) :: pn)) es σ H Q
  | [], [], ds, H, Q, ck, ok, hd, w, hh, rf, q => by
    cases hd
    exact wa_of pa_nil (q [] H (Nxt.refl w) hh .nil)
  | x :: its, e :: es, ds, H, Q, ck, ok, hd, w, hh, rf, q => by
    obtain ⟨c1, c2⟩ := bool_and2 (show (ckX1 X.env.scope nm x e && ckXs X.env.scope nm its es) = true from ck)
    have hd : (match x.d cls fs, xds cls fs its with
      | some d, some ds => some (d :: ds)
      | _, _ => none) = some ds := hd
    split at hd
    · rename_i d dr e1 e2
      cases hd
      exact wa_of (pa_cons pe_w pa_w (starEach_cons (x1_nostar c1))) (item_ok hx hz hf hi hv hn hσ hB c1 (ok x List.mem_cons_self) e1 w hh rf fun v H1 n1 hh1 r1 =>
        items_ok hx hz hf hi hv hn hσ hB c2 (fun y hy => ok y (List.mem_cons_of_mem _ hy)) e2 n1.w hh1 rf fun vs H2 n2 hh2 r2 => q (v :: vs) H2 (n1.trans n2) hh2 (.cons r1 r2))
    · cases hd
  | [], _ :: _, _, _, _, ck, _, _, _, _, _, _ => by cases ck
  | _ :: _, [], _, _, _, ck, _, _, _, _, _, _ => by cases ck
end
theorem ko_pe {X : Cx} {k : KCo} {e : Expr} (h : ckKo k e = true) : ∃ v, PE X e (tC v) ∧ ∀ (K : PySem.W.Frag) (B : Hp), Rep K B v k.d := by
  unfold ckKo at h
  split at h
  · exact ⟨.non, pe_non, fun _ _ => .non⟩
  · have := of_decide_eq_true h
    subst this
    exact ⟨.bl _, pe_bl, fun _ _ => .bl _⟩
  · have := of_decide_eq_true h
    subst this
    exact ⟨.str _, pe_str, fun _ _ => .str _⟩
  · cases h
theorem xds_len {cls : Str} {fs : List (Str × DV)} : ∀ {its : List XE1} {ds : List DV}, xds cls fs its = some ds → ds.length = its.length
  | [], _, h => by cases h; rfl
  | x :: its, ds, h => by
    have h : (match x.d cls fs, xds cls fs its with
      | some d, some ds => some (d :: ds)
      | _, _ => none) = some ds := h
    split at h
    · rename_i d dr e1 e2
      cases h
      rw [List.length_cons, List.length_cons, xds_len e2]
    · cases h
theorem swap_name {x : Str} {p pos : Pos} {v : Expr} {env : Env} (hc : isComp v = false) : swapsWithSole [.Name x p] v pos.line env = pure false ∧ swappedStores [.Name x p] v env = pure none := by
  constructor
  · cases v <;> first | rfl | exact absurd hc (by show ¬ (true = false); decide)
  · cases v <;> first | rfl | exact absurd hc (by show ¬ (true = false); decide)
theorem x1_nocomp {sc : Scope} {nm : Str} {x : XE1} {e : Expr} (ck : ckX1 sc nm x e = true) : isComp e = false := by
  cases e <;> first | rfl | skip
  all_goals
    cases x with
    | fld f => cases (show false = true from ck)
    | isa cs t r =>
      cases cs with
      | nil => cases t <;> cases (show false = true from ck)
      | cons c cs => cases cs <;> cases t <;> cases (show false = true from ck)
theorem ko_nocomp {k : KCo} {e : Expr} (h : ckKo k e = true) : isComp e = false := by
  unfold ckKo at h
  split at h <;> first | rfl | cases h
section
variable {X : Cx} {cls : Str} {a dx : Addr} {oe : Obj} {pn : List (Addr × Obj)} {σ : L2.St} {B H : Hp} {μ : Mu} {γ : Ga} {xs : List (Str × V)} {fs : List (Str × DV)} {D : DEnds} {E : Ends}
theorem suite_ok (hN : X.N.Nodup) (hx : Xf X.K cls) (hz : Zc (.ref (He.ga X.K cls)) (some dx) oe) (hf : ∃ vs, oe.data = .fields vs) (hB : X.mg "isinstance" = none) {nm : Option Str}
    (hnm : ∀ n, nm = some n → ∃ i : Nat, X.N[i]? = some n ∧ Vis X.env.scope n ∧ nmOk n = true ∧ σ[i]? = some (some (V.ref a))) {su : Sx} {sts : List Stmt} (ck : ckSx X.N X.env.scope nm su sts = true) (ok : ∀ x ∈ su.its, x.Ok X cls)
    (w : sxW cls fs su γ μ D) (rs : RepSt X.K B σ γ) (wf : Wf X.K B H μ) (hh : H dx = some (.xd xs)) (rf : RepF X.K B xs fs) (q : EOk X.K B H μ D E) : WSs (X.suite a ((a, oe) :: pn)) sts E σ H := by
  have tg : ∀ {j : Nat} {t : Str} {p : Pos}, ckTg X.N X.env.scope j t = true → PG (X.suite a ((a, oe) :: pn)) (.Name t p) (gName j) := fun {j t p} h => by
    obtain ⟨h1, h2⟩ := bool_and2 h
    have h2 := of_decide_eq_true h2
    exact pg_name (X := X.suite a ((a, oe) :: pn)) hN (of_decide_eq_true h1) (.inl h2) (.inr h2)
  unfold ckSx at ck
  split at ck
  · obtain ⟨c1, c2⟩ := bool_and2 ck
    obtain ⟨v, pv, rv⟩ := ko_pe (X := X.suite a ((a, oe) :: pn)) c2
    obtain ⟨s1, s2⟩ := swap_name (ko_nocomp c2)
    exact wss_of (pss_cons (ps_asg pv (tg c1) s1 s2) pss_nil) (q.nx _ _ B H μ (Nxt.refl wf) (rs.set _ (rv X.K B)) w)
  · obtain ⟨v, pv, rv⟩ := ko_pe (X := X.suite a ((a, oe) :: pn)) ck
    exact wss_of (pss_cons (ps_ret pv) pss_nil) (q.rt _ _ B H μ (Nxt.refl wf) (rv X.K B) w)
  · obtain ⟨c1, c2⟩ := bool_and2 ck
    split at c2
    · obtain ⟨i, h1, h2, h3, h4⟩ := hnm _ rfl
      obtain ⟨d, e1, w⟩ := w
      obtain ⟨s1, s2⟩ := swap_name (x1_nocomp c2)
      exact wss_of (pss_cons (ps_asg pe_w (tg c1) s1 s2) pss_nil) (item_ok hx hz hf h1 h2 h3 h4 hB c2 (ok _ List.mem_cons_self) e1 wf hh rf fun v H1 n1 _ r1 => q.nx _ _ B H1 μ n1 (rs.set _ r1) w)
    · cases c2
  · obtain ⟨c, c2⟩ := bool_and2 ck
    obtain ⟨c1, c3⟩ := bool_and2 c
    split at c2
    · obtain ⟨i, h1, h2, h3, h4⟩ := hnm _ rfl
      obtain ⟨ds, e1, w⟩ := w
      refine wss_of (pss_cons (ps_asg (pe_lst pa_w) (tg c1) rfl rfl) pss_nil) (items_ok hx hz hf h1 h2 h3 h4 hB c2 ok e1 wf hh rf fun vs H1 n1 _ r1 => ⟨?_, fun p hp => ?_⟩)
      · rw [r1.length, xds_len e1, sizeLine_eq]; have := of_decide_eq_true c3; omega
      · have n2 := n1.w.knowN (o := .lst vs) hp
        exact q.nx _ _ _ _ μ (n1.trans n2) ((rs.to n2.s).set _ (.lst upd_same (r1.to n2.s))) w
    · cases c2
  · split at ck
    · obtain ⟨i, h1, h2, h3, h4⟩ := hnm _ rfl
      obtain ⟨d, e1, w⟩ := w
      exact wss_of (pss_cons (ps_ret pe_w) pss_nil) (item_ok hx hz hf h1 h2 h3 h4 hB ck (ok _ List.mem_cons_self) e1 wf hh rf fun v H1 n1 _ r1 => q.rt _ _ B H1 μ n1 r1 w)
    · cases ck
  · obtain ⟨c1, c2⟩ := bool_and2 ck
    split at c2
    · obtain ⟨i, h1, h2, h3, h4⟩ := hnm _ rfl
      obtain ⟨ds, e1, w⟩ := w
      refine wss_of (pss_cons (ps_ret (pe_lst pa_w)) pss_nil) (items_ok hx hz hf h1 h2 h3 h4 hB c2 ok e1 wf hh rf fun vs H1 n1 _ r1 => ⟨?_, fun p hp => ?_⟩)
      · rw [r1.length, xds_len e1, sizeLine_eq]; have := of_decide_eq_true c1; omega
      · have n2 := n1.w.knowN (o := .lst vs) hp
        exact q.rt _ _ _ _ μ (n1.trans n2) (.lst upd_same (r1.to n2.s)) w
    · cases c2
  · cases ck
end
end Sr

set_option Elab.async false
set_option linter.all false
set_option maxRecDepth 100000
set_option autoImplicit false
/-! try .. except. -/
namespace Sr
open PySem PySem.Spec PyProof.Rows L2
section
variable {X : Cx} {I : SI} {Γ : Cxt} {Wd : XD} {γ : Ga} {μ : Mu} {D : DEnds}
theorem At.tr (A : At X I Γ) {pn : List (Addr × Obj)} {xe : Value → Shared → Prop} (h : PassesOwn (model X.prog X.w) X.A X.env xe) : At (X.tr pn xe) I Γ :=
  ⟨A.hN, A.nd, A.sc, A.cel, A.calm, h, A.un, A.blt, A.fns, A.kfs, A.gvs, A.tbs, A.ga, A.clsf, A.mths, A.mks, A.mkks, A.stk, A.exs, A.exm, A.isa⟩
theorem any_kit {l : List (Str × Cl × Bool)} {K : PySem.W.Frag} {cls : Str} (h : ∀ q ∈ l, PySem.W.kitOne K (.ref (He.ga K q.1)) (q.2.1.val K) = some q.2.2) : ∀ {cs : List Cl} {b : Bool}, isaAny l cls cs = some b → PySem.W.kitAny K (.ref (He.ga K cls)) (cs.map (Cl.val K)) = some b
  | [], b, e => by cases e; rfl
  | c :: cs, b, e => by
    unfold isaAny at e
    unfold PySem.W.kitAny
    rw [List.map_cons]
    split at e
    · rename_i hm
      have := h _ hm
      simp only at this
      simp only [this]
      exact e
    · split at e
      · rename_i hm
        have := h _ hm
        simp only at this
        simp only [this]
        exact any_kit h e
      · cases e
theorem it_ok (A : At X I Γ) {cls : Str} {flds : List Str} (he : (cls, flds) ∈ I.exs) : ∀ {x : XE1}, ckIt I cls flds x = true → x.Ok X cls
  | .fld f, h => by
    obtain ⟨⟨_, _, _, _, hxc, _⟩, _⟩ := A.exs _ he
    exact hxc.no f (of_decide_eq_true h)
  | .isa cs tup r, h => by
    unfold ckIt at h
    obtain ⟨h1, h2⟩ := bool_and2 h
    refine ⟨fun c hc => ?_, ?_⟩
    · have := List.all_eq_true.mp h1 c hc
      simp only [Bool.or_eq_true, decide_eq_true_eq] at this
      rcases this with m | m
      · exact (A.isa _ m).1
      · exact (A.isa _ m).1
    · split at h2
      · rename_i b hb
        refine ⟨b, hb, fun ht c e => ?_, fun ht => ?_⟩
        · subst ht e
          simp only [Bool.false_eq_true, if_false, decide_eq_true_eq] at h2
          exact (A.isa _ h2).2
        · subst ht
          simp only [if_true, decide_eq_true_eq] at h2
          exact any_kit (fun q hq => (A.isa q hq).2) h2
      · cases h2
/-- a try with one except clause -/
theorem sd_try (A : At X I Γ) (hstm : I.stm = true) {C : Str} {nm : Option Nat} {n : Option Str} {su : Sx} {tbl : List (Str × Bool)} {body sts : List Stmt} {np hp pos : Pos} (hg : glb I.sc C = true) (hn : nmOk C = true) (ht : ckTb I C su tbl = true)
    (hs : ckHd I su sts nm n = true)
    (hb : ∀ Y : Cx, Y.K = X.K → At Y I Γ → DS Y (fun cls fs γ1 μ1 => ∃ k, tbl.lookup cls = some k ∧ if k = true then fs ≠ [] ∧ sxW cls fs su (dropG nm γ1) μ1 (dropE nm D) else Wd cls fs γ1 μ1) body γ μ D) :
    DS1 X Wd (.Try body [.ExceptHandler (some (.Name C np)) n sts hp] [] [] pos) γ μ D := fun W σ B H S E q => by
  obtain ⟨hst, hfr⟩ := A.stk hstm
  obtain ⟨ht, t3⟩ := bool_and2 ht
  obtain ⟨t1, t2⟩ := bool_and2 ht
  have hB : X.mg "isinstance" = none := A.blt _ (of_decide_eq_true t1)
  have hent : ∀ {cls : Str} {k : Bool}, tbl.lookup cls = some k → X.mg C = some (.ref (He.ga X.K C)) ∧ PySem.W.exmOne X.K (.ref (He.ga X.K cls)) (.ref (He.ga X.K C)) = some k ∧ (k = true → Xf X.K cls ∧ ∀ x ∈ su.its, x.Ok X cls) := fun {cls k} e => by
    have m := PySem.mem_of_lookup e
    obtain ⟨a1, a2⟩ := bool_and2 (List.all_eq_true.mp t3 _ m)
    have a1 := A.exm _ (of_decide_eq_true a1)
    refine ⟨a1.1, a1.2, fun hk => ?_⟩
    subst hk
    obtain ⟨e2, he2, h3⟩ := List.any_eq_true.mp (show (I.exs.any fun e => decide (e.1 = cls) && su.its.all (ckIt I cls e.2)) = true from by simpa using a2)
    obtain ⟨c1, flds⟩ := e2
    obtain ⟨h3, h4⟩ := bool_and2 h3
    have h3 : c1 = cls := of_decide_eq_true h3
    subst h3
    exact ⟨(A.exs _ he2).2, fun x hx => it_ok A he2 (List.all_eq_true.mp h4 x hx)⟩
  have hC : X.mg C = some (.ref (He.ga X.K C)) := by
    cases tbl with
    | nil => cases t2
    | cons r rs =>
      obtain ⟨c1, k1⟩ := r
      exact (hent (cls := c1) (k := k1) (by rw [List.lookup_cons]; simp)).1
  have hN : Names X C (.ref (He.ga X.K C)) := ⟨A.glb hg, (nmOk1 hn).1, .inl hC⟩
  match nm, n, sts, hs with
  | none, none, [], hs => cases su <;> cases (show false = true from hs)
  | none, none, b0 :: sts, hs =>
    refine ws_of (ps_try_only (X := X) (c := .ref (He.ga X.K C)) (tb := fun W D σ H => ∀ pn xe, Takes (X.tr pn xe) W → PassesOwn (model X.prog X.w) X.A X.env xe → WSs (X.tr pn xe) body D σ H)
      (ts := fun a cls d D σ H => ∀ oe pn, Zc cls d oe → (∃ vs, oe.data = .fields vs) → WSs (X.suite a ((a, oe) :: pn)) (b0 :: sts) D σ H) (Wout := W) hst hfr hN S.tk
      (fun W pn xe tk po => ⟨fun pins s σ H D I h => h pn xe tk po pins s I⟩) (fun a oe cls d pn hz hf => ⟨fun pins s σ H D I h => h oe pn hz hf pins s I⟩)) ?_
    intro pn xe tk po
    refine hb (X.tr pn xe) rfl (A.tr po) _ σ B H ⟨S.st, S.wf, fun cls dd fs σ' γ' B' H' μ' n1 rs hx w => ?_, tk⟩ E q
    obtain ⟨k, e1, w⟩ := w
    obtain ⟨_, m2, m3⟩ := hent e1
    refine ⟨k, m2, fun hk a ha oe pn hz hf => ?_, fun hk => ?_⟩
    · subst hk
      obtain ⟨f1, f2⟩ := m3 rfl
      simp only [if_true] at w
      rcases hx with hx | ⟨dx, xs, rfl, hh, rf⟩
      · exact absurd hx w.1
      · exact suite_ok A.nd f1 hz hf hB (nm := none) (fun _ h => by cases h) (by rw [A.hN, A.sc]; exact hs) f2 w.2 rs n1.w hh rf (q.to n1)
    · subst hk
      simp only [Bool.false_eq_true, if_false] at w
      exact S.xo cls dd fs σ' γ' B' H' μ' n1 rs hx w
  | some i, some y, [], hs =>
    obtain ⟨_, hs⟩ := bool_and2 (show (_ && ckSx I.N I.sc (some y) su []) = true from hs)
    cases su <;> cases (show false = true from hs)
  | some i, some y, b0 :: sts, hs =>
    obtain ⟨hs, h3⟩ := bool_and2 (show (ckTg I.N I.sc i y && nmOk y && ckSx I.N I.sc (some y) su (b0 :: sts)) = true from hs)
    obtain ⟨h1, h2⟩ := bool_and2 hs
    obtain ⟨g1, g2⟩ := bool_and2 h1
    have g1 : X.N[i]? = some y := by rw [A.hN]; exact of_decide_eq_true g1
    have g2 : X.env.scope.names.lookup y = some .local := by rw [A.lookup]; exact of_decide_eq_true g2
    refine ws_of (ps_try_as (X := X) (i := i) (c := .ref (He.ga X.K C)) (tb := fun W D σ H => ∀ pn xe, Takes (X.tr pn xe) W → PassesOwn (model X.prog X.w) X.A X.env xe → WSs (X.tr pn xe) body D σ H)
      (ts := fun a cls d D σ H => ∀ oe pn, Zc cls d oe → (∃ vs, oe.data = .fields vs) → WSs (X.suite a ((a, oe) :: pn)) (b0 :: sts) D σ H) (Wout := W) hst hfr A.nd g1 g2 hN S.tk
      (fun W pn xe tk po => ⟨fun pins s σ H D I h => h pn xe tk po pins s I⟩) (fun a oe cls d pn hz hf => ⟨fun pins s σ H D I h => h oe pn hz hf pins s I⟩)) ?_
    intro pn xe tk po
    refine hb (X.tr pn xe) rfl (A.tr po) _ σ B H ⟨S.st, S.wf, fun cls dd fs σ' γ' B' H' μ' n1 rs hx w => ?_, tk⟩ E q
    obtain ⟨k, e1, w⟩ := w
    obtain ⟨_, m2, m3⟩ := hent e1
    refine ⟨k, m2, fun hk a ha oe pn hz hf => ?_, fun hk => ?_⟩
    · subst hk
      obtain ⟨f1, f2⟩ := m3 rfl
      simp only [if_true] at w
      rcases hx with hx | ⟨dx, xs, rfl, hh, rf⟩
      · exact absurd hx w.1
      · intro pins s J
        have q2 := q.to n1
        refine suite_ok A.nd f1 hz hf hB (nm := some y) (D := dropE (some i) D) (E := { nx := fun σ' H' => E.nx (σ'.set i none) H', rt := E.rt, bk := fun σ' H' => E.bk (σ'.set i none) H', ct := fun σ' H' => E.ct (σ'.set i none) H' }) (γ := γ'.set i none) (fun z h => ⟨i, by cases h; exact g1, by cases h; exact .inl g2, by cases h; exact h2, ?_⟩) (by rw [A.hN, A.sc]; exact h3) f2 w.2 (rs.drop i _) n1.w hh rf
          ⟨fun σ2 γ2 B2 H2 μ2 n2 r2 p => q2.nx _ _ B2 H2 μ2 n2 (r2.drop i none) p, q2.rt, fun σ2 γ2 B2 H2 μ2 n2 r2 p => q2.bk _ _ B2 H2 μ2 n2 (r2.drop i none) p, fun σ2 γ2 B2 H2 μ2 n2 r2 p => q2.ct _ _ B2 H2 μ2 n2 (r2.drop i none) p⟩ pins s J
        have hl : (σ'.set i (some (V.ref a))).length = X.N.length := J.len
        have hi := (List.getElem?_eq_some_iff.mp g1).1
        rw [List.length_set] at hl
        exact List.getElem?_set_self (by omega)
    · subst hk
      simp only [Bool.false_eq_true, if_false] at w
      exact S.xo cls dd fs σ' γ' B' H' μ' n1 rs hx w
  | none, some _, _, hs => cases hs
  | some _, none, _, hs => cases hs
end
end Sr

set_option Elab.async false
set_option linter.all false
set_option maxRecDepth 100000
set_option autoImplicit false
/-! Statements are sound. -/
namespace Sr
open PySem PySem.Spec PyProof.Rows L2
section
variable {X : Cx} {I : SI} {Γ : Cxt} {Wd : XD} {γ : Ga} {μ : Mu} {c e tg iter : Expr} {P : DV → Mu → Prop} {D : DEnds}
theorem allV {I : SI} {b : Bool} : Ow I (List.range I.N.length) b := .inl fun i h => List.mem_range.mpr h
theorem star_each {t : Expr} {p : Pos} {es : List Expr} {env : Env} : assignEach (.Starred t p :: es) env = (true, assign t env) :: assignEach es env := rfl
theorem ck_stars : ∀ {gs hs : Gs} {i : Nat} {es : List Expr} {env : Env} {I : SI}, ckStar I gs i hs es = true → (assignEach es env).length = gs.len + hs.len + 1 ∧ (assignEach es env).findIdx? (·.1) = some gs.len
  | .nil, hs, i, es, env, I, h => by
    unfold ckStar at h
    split at h
    · rename_i x p q es
      obtain ⟨_, h2⟩ := bool_and2 h
      obtain ⟨p1, p2⟩ := ck_gs (env := env) h2
      rw [star_each]
      refine ⟨?_, ?_⟩
      · rw [List.length_cons, p1]; show _ = 0 + hs.len + 1; omega
      · rw [List.findIdx?_cons]; rfl
    · cases h
  | .cons g gs, hs, i, [], env, I, h => by cases (show false = true from h)
  | .cons g gs, hs, i, e :: es, env, I, h => by
    obtain ⟨h1, h2⟩ := bool_and2 (show (ckG I g e && ckStar I gs i hs es) = true from h)
    obtain ⟨p1, p2⟩ := ck_stars (env := env) h2
    rw [ck_g1 h1]
    refine ⟨?_, ?_⟩
    · rw [List.length_cons, p1]; show _ = gs.len + 1 + hs.len + 1; omega
    · rw [List.findIdx?_cons, p2]; rfl
theorem sStar : ∀ {gs hs : Gs} {i : Nat} {es : List Expr} {γ : Ga} {μ : Mu} {fs ls : List DV} {dm : DV} {P : Ga → Mu → Prop}, At X I Γ → ckStar I gs i hs es = true → fs.length = gs.len →
    wGs Γ Wd gs fs γ μ (fun γ1 μ1 => wGs Γ Wd hs ls (γ1.set i (some dm)) μ1 P) → DGso X Wd (List.range I.N.length) es (fs ++ dm :: ls) γ μ P
  | .nil, hs, i, es, γ, μ, fs, ls, dm, P, A, h, hl, w => by
    unfold ckStar at h
    split at h
    · rename_i x p q es
      obtain ⟨h, h2⟩ := bool_and2 h
      obtain ⟨h0, h1⟩ := bool_and2 h
      have h0 := of_decide_eq_true h0
      obtain ⟨l1, l2⟩ := lcl_is A h1
      cases fs with
      | cons f fs => cases hl
      | nil =>
        have w : wGs Γ Wd hs ls (γ.set i (some dm)) μ P := w
        have k : DGso X Wd (List.range I.N.length) (.Name x p :: es) (dm :: ls) γ μ P := dgs_cons rfl rfl ((dg_name A.nd (by rw [A.hN]; exact h0) l1 l2 (List.mem_range.mpr (List.getElem?_eq_some_iff.mp h0).1) (P := fun γ1 μ1 => wGs Γ Wd hs ls γ1 μ1 P) w).imp fun γ1 μ1 w => sGs hs A h2 allV w)
        exact k
    · cases h
  | .cons g gs, hs, i, [], γ, μ, fs, ls, dm, P, A, h, hl, w => by cases (show false = true from h)
  | .cons g gs, hs, i, e :: es, γ, μ, fs, ls, dm, P, A, h, hl, w => by
    obtain ⟨h1, h2⟩ := bool_and2 (show (ckG I g e && ckStar I gs i hs es) = true from h)
    cases fs with
    | nil => cases hl
    | cons f fs =>
      exact dgs_cons (by rw [ck_g1 h1]; rfl) rfl ((sG g A h1 allV (show wG Γ Wd g f γ μ _ from w)).imp fun γ1 μ1 w => sStar A h2 (Nat.succ.inj hl) w)
theorem sd_star {gs hs : Gs} {i : Nat} {o : Bool} {es : List Expr} {k : Nat} {p pos : Pos} {v : Expr} {xe : E} (A : At X I Γ) (h : ckStar I gs i hs es = true) (hv : isComp v = false) (ht : isTupE v = false)
    (w : DE X Wd v γ μ fun d μ1 => ∃ xs, sq μ1 d = some xs ∧ gs.len + hs.len ≤ xs.length ∧ xs.length ≤ 16384 ∧ newL o (midD gs.len hs.len xs) μ1 fun dm μ2 =>
      wGs Γ Wd gs (xs.take gs.len) γ μ2 fun γ1 μ3 => wGs Γ Wd hs (xs.drop (xs.length - hs.len)) (γ1.set i (some dm)) μ3 D.nx) : DS1 X Wd (.Assign [.Tuple es k p] v pos) γ μ D := fun W σ B H S E q => by
  obtain ⟨p1, p2⟩ := ck_stars (env := X.env) h
  refine ws_of (ps_asg pe_w (pg_star A.calm pgs_w p1 p2) ?_ ?_ rfl) (w W σ B H S _ fun v d B1 H1 μ1 n1 r1 k1 => ?_)
  · cases v <;> first | rfl | exact absurd hv (by show ¬ (true = false); decide)
  · cases v <;> first | rfl | exact absurd ht (by show ¬ (true = false); decide)
  · obtain ⟨xs, e, hl, hz, k1⟩ := k1
    obtain ⟨a, vs, rfl, rl, sc⟩ := sq_at e n1.w r1
    refine ⟨a, vs, rfl, sc.elim (fun z => .inr z.1) (fun z => .inl z.1), by rw [rl.length]; exact hl, by rw [rl.length]; exact hz, fun L hL => ?_⟩
    have rm : RepL X.K B1 ((vs.drop gs.len).take (vs.length - gs.len - hs.len)) (midD gs.len hs.len xs) := by
      unfold midD
      rw [rl.length]
      exact (rl.drop _).take _
    refine newL_ok (Q := fun x H2 => WGs X es (vs.take gs.len ++ [x] ++ vs.drop (vs.length - hs.len)) σ H2 (fun σ' H' => E.nx σ' H')) (Nxt.refl n1.w) k1 hL rm fun x dm B2 H2 μ2 n2 r2 k2 => ?_
    have S2 := (S.next n1).next n2
    have hlen : (xs.take gs.len).length = gs.len := by rw [List.length_take]; omega
    have ra : RepL X.K B2 (vs.take gs.len ++ [x] ++ vs.drop (vs.length - hs.len)) (xs.take gs.len ++ dm :: xs.drop (xs.length - hs.len)) := by
      rw [List.append_assoc, rl.length]
      exact ((rl.take _).to n2.s).app (.cons r2 ((rl.drop _).to n2.s))
    exact sStar A h hlen k2 W σ B2 H2 _ S2 ra _ fun σ' γ' B' H' μ' n _ rs p => q.nx _ _ _ _ _ ((n1.trans n2).trans n) rs p
theorem forF_imp {st : Mu → Prop} {T T' : DV → Ga → Mu → DEnds → Prop} {D : DEnds} (hT : ∀ d γ μ D D', (∀ γ μ, D.nx γ μ → D'.nx γ μ) → (∀ d μ, D.rt d μ → D'.rt d μ) → (∀ γ μ, D.bk γ μ → D'.bk γ μ) → (∀ γ μ, D.ct γ μ → D'.ct γ μ) → T d γ μ D → T' d γ μ D') : ∀ {xs : List DV} {γ : Ga} {μ : Mu}, forF st T D xs γ μ → forF st T' D xs γ μ
  | [], _, _, h => h
  | d :: ds, _, _, h => by
    refine ⟨h.1, hT _ _ _ _ _ ?_ ?_ ?_ ?_ h.2⟩
    · exact fun _ _ p => forF_imp hT p
    · exact fun _ _ p => p
    · exact fun _ _ p => p
    · exact fun _ _ p => forF_imp hT p
theorem ends_le {D D' : DEnds} (h1 : ∀ γ' μ', D.nx γ' μ' → D'.nx γ' μ') (h2 : ∀ d μ', D.rt d μ' → D'.rt d μ') (h3 : ∀ γ' μ', D.bk γ' μ' → D'.bk γ' μ') (h4 : ∀ γ' μ', D.ct γ' μ' → D'.ct γ' μ') {sts : List Stmt} (h : DS X Wd sts γ μ D) : DS X Wd sts γ μ D' := h.imp h1 h2 h3 h4
theorem DG.imp {tg : Expr} {d : DV} {P P' : Ga → Mu → Prop} (h : DG X Wd tg d γ μ P) (hp : ∀ γ' μ', P γ' μ' → P' γ' μ') : DG X Wd tg d γ μ P' := by
  obtain ⟨vs, k⟩ := h
  exact ⟨vs, k.imp hp⟩
theorem ds1_imp {st : Stmt} {F : Ga → Mu → Prop} (h : DS1 X Wd st γ μ D) (hp : ∀ γ' μ', D.nx γ' μ' → F γ' μ') : DS1 X Wd st γ μ { nx := F, rt := D.rt, bk := D.bk, ct := D.ct } := fun W σ B H S E q =>
  h W σ B H S E ⟨fun σ' γ' B' H' μ' n r p => q.nx σ' γ' B' H' μ' n r (hp _ _ p), q.rt, q.bk, q.ct⟩
theorem swap_no {tg v : Expr} {pos : Pos} {env : Env} (hc : isComp v = false) (ht : (isTupE v && isTup tg) = false) : swapsWithSole [tg] v pos.line env = pure false ∧ swappedStores [tg] v env = pure none := by
  constructor
  · cases v <;> first | rfl | exact absurd hc (by show ¬ (true = false); decide)
  · cases v <;> first | rfl | (cases tg <;> first | rfl | exact absurd ht (by show ¬ (true = false); decide)) | skip
    all_goals (cases tg <;> first | rfl | exact absurd hc (by show ¬ (true = false); decide))
/-- how an assignment is checked -/
theorem ck_asg {g : G} {xe : E} {st : Stmt} (h : ckS I (.asg g xe) st = true) : ∃ tg v pos, st = .Assign [tg] v pos ∧ ckG I g tg = true ∧ ckE I xe v = true ∧
    ((isComp v = false ∧ (isTupE v && isTup tg) = false) ∨ (isFn I.sc = true ∧ isCompE xe = true ∧ ((∃ a b s p, v = .ListComp a b s p) ∨ ∃ a b c s p, v = .DictComp a b c s p))) := by
  cases st <;> try cases (show false = true from h)
  case Assign tgs v pos =>
    match tgs, h with
    | [tg], h =>
      have h : (ckG I g tg && ckE I xe v && asgV I xe tg v) = true := h
      obtain ⟨h, h3⟩ := bool_and2 h
      obtain ⟨h1, h2⟩ := bool_and2 h
      refine ⟨tg, v, pos, rfl, h1, h2, ?_⟩
      unfold asgV at h3
      split at h3
      · exact .inr ⟨(bool_and2 h3).1, (bool_and2 h3).2, .inl ⟨_, _, _, _, rfl⟩⟩
      · exact .inr ⟨(bool_and2 h3).1, (bool_and2 h3).2, .inr ⟨_, _, _, _, _, rfl⟩⟩
      · refine .inl ⟨rfl, ?_⟩
        show (true && isTup tg) = false
        simpa using h3
      · refine .inl ⟨by simpa using h3, ?_⟩
        rename_i n1 n3 n2
        cases v <;> first | rfl | exact absurd rfl (n2 _ _ _)
    | [], h => cases (show false = true from h)
    | _ :: _ :: _, h => cases (show false = true from h)
end
mutual
theorem sS : ∀ (s : S) {X : Cx} {I : SI} {Γ : Cxt} {Wd : XD} {γ : Ga} {μ : Mu} {st : Stmt} {D : DEnds}, At X I Γ → ckS I s st = true → wS Γ Wd s γ μ D → DS1 X Wd st γ μ D
  | .asg g xe, X, I, Γ, Wd, γ, μ, st, D, A, h, w => by
    obtain ⟨tg, v, pos, rfl, h1, h2, h3⟩ := ck_asg h
    rcases h3 with ⟨h3, h4⟩ | ⟨hf, hx, hv⟩
    · obtain ⟨k1, k2⟩ := swap_no (tg := tg) (v := v) (pos := pos) (env := X.env) h3 h4
      exact ds_asg k1 k2 (by rw [ck_g1 h1]; rfl) ((sE xe A h2 w).imp fun d μ1 w => DG.of (sG g A h1 allV w))
    · have oth : (∀ i, g ≠ .var i) → DS1 X Wd (.Assign [tg] v pos) γ μ D := fun hg => by
        have k2 : swappedStores [tg] v X.env = pure none := by rcases hv with ⟨_, _, _, _, rfl⟩ | ⟨_, _, _, _, _, rfl⟩ <;> (cases tg <;> rfl)
        refine ds_asg ?_ k2 (by rw [ck_g1 h1]; rfl) ((sE xe A h2 w).imp fun d μ1 w => DG.of (sG _ A h1 allV w))
        rcases hv with ⟨_, _, _, _, rfl⟩ | ⟨_, _, _, _, _, rfl⟩ <;> (cases g <;> first | exact absurd rfl (hg _) | (cases tg <;> first | rfl | cases (show false = true from h1)))
      cases g with
      | tup gs => exact oth fun _ z => by cases z
      | ix a b => exact oth fun _ z => by cases z
      | dix a b => exact oth fun _ z => by cases z
      | var i =>
        cases tg <;> try cases (show false = true from h1)
        case Name x p2 =>
          obtain ⟨g1, g2⟩ := bool_and2 (show (decide (I.N[i]? = some x) && lcl I x) = true from h1)
          have g1 := of_decide_eq_true g1
          cases xe <;> first | exact absurd hx (by show ¬ (false = true); decide) | skip
          case comp o own elt g it c =>
            obtain ⟨el, tg, iter, ifs, s, p, e, k⟩ := ck_comp h2
            cases e
            refine ds_setC A hf g1 g2 (blk_ok A k.blk) (ck_noset k.it) ?_
            exact lc_of A k w (fun w => sI it A k.it w) (fun b w => sG g (A.blk b) k.tg (.inr k.ow) w) (fun b w => sTs c (A.blk b) k.ts w) (fun b w => sE elt (A.blk b) k.el w)
          case comp2 o own own1 elt g it c g1 it1 c1 =>
            obtain ⟨el, tg, iter, ifs, tg1, iter1, ifs1, s, p, e, k⟩ := ck_comp2 h2
            cases e
            refine ds_setC2 A hf (by assumption) g2 (blk_ok A k.c.blk) (ck_noset k.c.it) (ck_noset k.it) (sub_own k.sub) ?_
            exact lc2_of A w (fun w => sI it A k.c.it w) (fun b w => sG g (A.blk b) k.c.tg (.inr k.c.ow) w) (fun b w => sTs c (A.blk b) k.c.ts w) (fun b w => sI it1 (A.blk b) k.it w) (fun b w => sG g1 (A.blk b) k.tg (.inr k.ow1) w) (fun b w => sTs c1 (A.blk b) k.ts w) (fun b w => sE elt (A.blk b) k.c.el w)
          case dcomp own ek ev g it c =>
            obtain ⟨kx, vx, tg, iter, ifs, s, p, e, k⟩ := ck_dcomp h2
            cases e
            refine ds_setD A hf g1 g2 (blk_ok A k.blk) (ck_noset k.it) ?_
            exact dc_of w (fun w => sI it A k.it w) (fun b w => sG g (A.blk b) k.tg (.inr k.ow) w) (fun b w => sTs c (A.blk b) k.ts w) (fun b w => sE ek (A.blk b) k.ek w) (fun b w => sE ev (A.blk b) k.ev w)
  | .par i j a b, _, _, _, _, _, _, st, _, A, h, w => by cases st <;> cases (show false = true from h)
  | .aug i o xe, X, I, Γ, Wd, γ, μ, st, D, A, h, w => by
    cases st <;> try cases (show false = true from h)
    case AugAssign tg op v pos =>
      cases tg <;> try cases (show false = true from h)
      case Name x p =>
        have h : (decide (I.N[i]? = some x) && lcl I x && decide (binO o = some op) && ckE I xe v) = true := h
        obtain ⟨h, h4⟩ := bool_and2 h
        obtain ⟨h, h3⟩ := bool_and2 h
        obtain ⟨h1, h2⟩ := bool_and2 h
        have w : (match gs γ i with | some d => wE Γ Wd xe γ μ fun d2 μ1 => augW o d d2 μ1 fun d3 μ2 => D.nx (γ.set i (some d3)) μ2 | none => False) := w
        cases q : gs γ i with
        | none => rw [q] at w; exact w.elim
        | some d =>
          rw [q] at w
          exact ds_aug A (of_decide_eq_true h1) h2 (of_decide_eq_true h3) q (sE xe A h4 w)
  | .star gs i hs o xe, X, I, Γ, Wd, γ, μ, st, D, A, h, w => by
    cases st <;> try cases (show false = true from h)
    case Assign tgs v pos =>
      match tgs, h with
      | [.Tuple es k p], h =>
        have h : (ckStar I gs i hs es && ckE I xe v && !isComp v && !isTupE v) = true := h
        simp only [Bool.and_eq_true, Bool.not_eq_true'] at h
        obtain ⟨⟨⟨h1, h2⟩, h3⟩, h4⟩ := h
        exact sd_star (xe := xe) A h1 h3 h4 (sE xe A h2 w)
      | [], h => cases (show false = true from h)
      | tg :: _ :: _, h => cases tg <;> cases (show false = true from h)
  | .expr xe, X, I, Γ, Wd, γ, μ, st, D, A, h, w => by
    cases st <;> try cases (show false = true from h)
    case Expr v pos =>
      obtain ⟨h1, h2⟩ := bool_and2 (show (!isComp v && ckE I xe v) = true from h)
      refine ds_expr ?_ (sE xe A h2 w)
      have h1 : isComp v = false := by simpa using h1
      cases v <;> first | rfl | exact absurd h1 (by show ¬ (true = false); decide)
  | .ret xe, X, I, Γ, Wd, γ, μ, st, D, A, h, w => by
    cases st <;> try cases (show false = true from h)
    case Return v pos =>
      cases v with
      | none => cases (show false = true from h)
      | some v => exact ds_ret (sE xe A h w)
  | .ret0, X, I, Γ, Wd, γ, μ, st, D, A, h, w => by
    cases st <;> try cases (show false = true from h)
    case Return v pos =>
      cases v with
      | none => exact ds_retN w
      | some v => cases (show false = true from h)
  | .ite c a b, X, I, Γ, Wd, γ, μ, st, D, A, h, w => by
    cases st <;> try cases (show false = true from h)
    case If t x y pos =>
      have h : (ckT I c t && ckSs I a x && ckSs I b y) = true := h
      simp only [Bool.and_eq_true] at h
      exact ds_if ((sT c A h.1.1 w).1.imp fun k μ1 w => ifk w (fun w => sSs a A h.1.2 w) fun w => sSs b A h.2 w)
  | .while_ c b, X, I, Γ, Wd, γ, μ, st, D, A, h, w => by
    cases st <;> try cases (show false = true from h)
    case While t x y pos =>
      cases y with
      | cons _ _ => cases (show false = true from h)
      | nil =>
        obtain ⟨h1, h2⟩ := bool_and2 (show (ckT I c t && ckSs I b x) = true from h)
        obtain ⟨J, j0, turn⟩ := w
        exact ds_while A ⟨J, j0, fun m γ μ j => (sT c A h1 (turn m γ μ j)).1.imp fun k μ1 w => ifk w (fun w => sSs b A h2 w) fun w => w⟩
  | .for_ g it b, X, I, Γ, Wd, γ, μ, st, D, A, h, w => by
    cases st <;> try cases (show false = true from h)
    case For tg iter x y pos =>
      cases y with
      | cons _ _ => cases (show false = true from h)
      | nil =>
        have h : (!isSet iter && ckG I g tg && ckI I it tg iter && ckSs I b x) = true := h
        obtain ⟨h, h4⟩ := bool_and2 h
        obtain ⟨h, h3⟩ := bool_and2 h
        obtain ⟨h1, h2⟩ := bool_and2 h
        refine ds_for A (by simpa using h1) ((sI it A h3 w).imp fun xs stay μ1 w => forF_imp (fun d γ μ D D' e1 e2 e3 e4 w => ?_) w)
        exact (DG.of (sG g A h2 allV w)).imp fun γ1 μ1 w => (sSs b A h4 w).imp e1 e2 e3 e4
  | .pass, X, I, Γ, Wd, γ, μ, st, D, A, h, w => by
    cases st <;> try cases (show false = true from h)
    exact ds_pass w
  | .brk, X, I, Γ, Wd, γ, μ, st, D, A, h, w => by
    cases st <;> try cases (show false = true from h)
    exact ds_break w
  | .cont, X, I, Γ, Wd, γ, μ, st, D, A, h, w => by
    cases st <;> try cases (show false = true from h)
    exact ds_continue w
  | .never, X, I, Γ, Wd, γ, μ, st, D, A, h, w => (show False from w).elim
  | .setf C a f xe, X, I, Γ, Wd, γ, μ, st, D, A, h, w => sd_setf A h fun h1 h2 => (sE xe A h1 w).imp fun d μ1 w => sE a A h2 w
  | .raise C fs as, X, I, Γ, Wd, γ, μ, st, D, A, h, w => by
    cases st <;> try cases (show false = true from h)
    case Raise ex cause pos =>
      match ex, cause, h with
      | some (.Call (.Name x np) (e :: es) [] cp), none, h =>
        have h : (decide (x = C) && glb I.sc x && nmOk x && decide ((C, fs) ∈ I.exs) && decide (fs.length = as.len) && decide (0 < fs.length) && decide (fs.length ≤ 20) && ckEs I as (e :: es)) = true := h
        simp only [Bool.and_eq_true, decide_eq_true_eq] at h
        obtain ⟨⟨⟨⟨⟨⟨⟨rfl, h1⟩, h2⟩, h3⟩, h4⟩, _⟩, h5⟩, h6⟩ := h
        exact sd_raise A (A.exs _ h3).1 h4 h5 h1 h2 h6 ((sEs as A h6 w).imp fun ds μ1 w => w)
      | some (.Call (.Name x np) [] [] cp), none, h =>
        have h : (decide (x = C) && glb I.sc x && nmOk x && decide ((C, fs) ∈ I.exs) && decide (fs.length = as.len) && decide (0 < fs.length) && decide (fs.length ≤ 20) && ckEs I as []) = true := h
        simp only [Bool.and_eq_true, decide_eq_true_eq] at h
        obtain ⟨⟨⟨⟨⟨⟨⟨rfl, h1⟩, h2⟩, h3⟩, h4⟩, h7⟩, h5⟩, h6⟩ := h
        cases as with
        | nil => exact absurd h7 (by rw [h4]; exact Nat.lt_irrefl 0)
        | cons a b => cases (show false = true from h6)
  | .try_ b C nm su tbl, X, I, Γ, Wd, γ, μ, st, D, A, h, w => by
    cases st <;> try cases (show false = true from h)
    case Try body hs oe fb pos =>
      match hs, oe, fb, h with
      | [.ExceptHandler (some (.Name x np)) n sts hp], [], [], h =>
        obtain ⟨h, h7⟩ := bool_and2 (show (I.stm && decide (x = C) && glb I.sc x && nmOk x && ckTb I C su tbl && ckSs I b body && ckHd I su sts nm n) = true from h)
        simp only [Bool.and_eq_true, decide_eq_true_eq] at h
        obtain ⟨⟨⟨⟨⟨h1, rfl⟩, h3⟩, h4⟩, h5⟩, h6⟩ := h
        exact sd_try A h1 h3 h4 h5 h7 fun Y _ AY => sSs b AY h6 w
  | .doc, X, I, Γ, Wd, γ, μ, st, D, A, h, w => by
    cases st <;> try cases (show false = true from h)
    case Expr v pos =>
      cases v <;> try cases (show false = true from h)
      case Constant k j p =>
        cases k <;> try cases (show false = true from h)
        exact ds_doc w
theorem sSs : ∀ (s : Ss) {X : Cx} {I : SI} {Γ : Cxt} {Wd : XD} {γ : Ga} {μ : Mu} {st : List Stmt} {D : DEnds}, At X I Γ → ckSs I s st = true → wSs Γ Wd s γ μ D → DS X Wd st γ μ D
  | .nil, _, _, _, _, _, _, [], _, A, h, w => dss_nil w
  | .nil, _, _, _, _, _, _, _ :: _, _, A, h, w => by cases (show false = true from h)
  | .cons a as, _, _, _, _, _, _, [], _, A, h, w => by cases (show false = true from h)
  | .cons a as, _, I, _, _, _, _, e :: es, _, A, h, w => by
    obtain ⟨h1, h2⟩ := bool_and2 (show (ckS I a e && ckSs I as es) = true from h)
    exact dss_cons (ds1_imp (D := { nx := fun γ1 μ1 => wSs _ _ as γ1 μ1 _, rt := _, bk := _, ct := _ }) (sS a A h1 w) fun γ1 μ1 w => sSs as A h2 w)
end
end Sr

set_option Elab.async false
set_option linter.all false
set_option maxRecDepth 100000
set_option autoImplicit false
/-! The defs of a text, linked by levels; the end of a law. -/
namespace Sr
open PySem PySem.Spec PyProof.Rows L2
/-- a def in the small language: its names by slot, its parameters, its body -/
structure SD where
  N : List Str
  ps : List Str
  s : Ss
structure Pgm where
  defs : List (Str × SD)
  gvs : List (Str × DV)
def isTab : DV → Bool
  | .tab _ => true
  | _ => false
def gvD (gvs : List (Str × DV)) (g : Str) : DV := match gvs.lookup g with
  | some d => d
  | none => .non
/-- what a program's texts lean on: defs by places; by keywords; built-ins; fields by class; methods; instances made, by places, by keywords; exceptions; the class and the method of a def; defs with keyword-only parameters -/
structure Lk where
  fns : List (Str × Nat)
  kfs : List KF
  blt : List Str
  clsf : List (Str × Str) := []
  mths : List (Str × Str × Str × Nat) := []
  mks : List (Str × Str × Nat × List Str) := []
  mkks : List (Str × KF) := []
  exs : List (Str × List Str) := []
  exm : List (Str × Str × Bool) := []
  isa : List (Str × Cl × Bool) := []
  own : List (Str × Str × Str) := []
  kwo : List Str := []
def Pgm.I (p : Pgm) (J : Lk) (N : List Str) (sc : Scope) : SI := { N := N, sc := sc, cel := fun _ => true, fns := J.fns, gvs := (p.gvs.map (·.1)).filter fun x => !isTab (gvD p.gvs x), kfs := J.kfs, blt := J.blt, tbs := (p.gvs.map (·.1)).filter fun x => isTab (gvD p.gvs x), clsf := J.clsf, mths := J.mths, mks := J.mks, mkks := J.mkks, exs := J.exs, exm := J.exm, isa := J.isa, stm := true }
/-- where a def stands -/
def Lk.path (J : Lk) (x : Str) : Str × Option Str := match J.own.lookup x with
  | some (C, m) => (C, some m)
  | none => (x, none)
def AllL {α : Type} (P : α → Prop) : List α → Prop
  | [] => True
  | a :: as => P a ∧ AllL P as
theorem AllL.get {α : Type} {P : α → Prop} : ∀ {as : List α}, AllL P as → ∀ a ∈ as, P a
  | _ :: _, h, a, ha => by
    rcases List.mem_cons.mp ha with e | e
    · subst e; exact h.1
    · exact h.2.get a e
def initG (N : List Str) (ds : List DV) : Ga := ds.map some ++ List.replicate (N.length - ds.length) none
/-- what the defs are worth, calls at most so deep -/
def fnS (p : Pgm) : Nat → Str → Spec
  | 0, _ => fun _ _ _ _ => False
  | k + 1, x => fun ds μ P X => match p.defs.lookup x with
    | none => False
    | some d => ds.length = d.ps.length ∧ wSs ⟨fnS p k, gvD p.gvs⟩ (fun cls fs _ μ' => X cls fs μ') d.s (initG d.N ds) μ { nx := fun _ μ' => P .non μ', rt := P }
theorem fnS_succ {p : Pgm} {k : Nat} {x : Str} {d : SD} (h : p.defs.lookup x = some d) {ds : List DV} {μ : Mu} {P : DV → Mu → Prop} {X : XP} : fnS p (k + 1) x ds μ P X =
    (ds.length = d.ps.length ∧ wSs ⟨fnS p k, gvD p.gvs⟩ (fun cls fs _ μ' => X cls fs μ') d.s (initG d.N ds) μ { nx := fun _ μ' => P .non μ', rt := P }) := by
  simp only [fnS, h]
/-- the table of defs at that name -/
def TbL (K : PySem.W.Frag) (w : World) (mg : Str → Option Value) (g : Str) (kvs : List (Str × Option Str)) : Prop := ∃ (d : Addr) (es : Array DictEntry) (n : Nat), mg g = some (.ref d) ∧ KDict K w d es n ∧
  ∀ z r, kvs.lookup z = some r → PySem.W.nsIn K d z = some (r.map fun f => .ref (He.ga K f))
structure DefL (K : PySem.W.Frag) (p : Pgm) (J : Lk) (x : Str) (d : SD) (fd : FuncData) : Prop where
  b : x ∉ J.kwo → Binds K fd d.ps []
  kb : ∀ k ∈ J.kfs, k.f = x → d.ps.length = k.n + k.pm.length ∧ (∀ i ∈ k.pm, i < k.ks.length) ∧ ∃ g, KBn K fd d.ps k.n k.ks g fun vs zs => vs ++ k.pm.map fun i => zs.getD i .non
  mk_ : ∀ q ∈ J.mks, q.2.1 = x → d.ps.length = q.2.2.1 + 1 + q.2.2.2.length ∧ ∃ (ds : List Value) (vs : List V), Vals vs ds ∧ Binds K fd d.ps ds ∧ ∀ B, RepL K B vs (q.2.2.2.map (gvD p.gvs))
  mkk : ∀ q ∈ J.mkks, q.2.f = x → d.ps.length = q.2.n + 1 + q.2.pm.length ∧ (∀ i ∈ q.2.pm, i < q.2.ks.length) ∧ ∃ g, KBn K fd d.ps (q.2.n + 1) q.2.ks g fun vs zs => vs ++ q.2.pm.map fun i => zs.getD i .non
/-- an exception's class and its __init__ -/
def XeL (K : PySem.W.Frag) (mg : Str → Option Value) (q : Str × List Str) : Prop := mg q.1 = some (.ref (He.ga K q.1)) ∧ Xc K q.1 q.2 ∧ Xf K q.1 ∧ ∃ (nm qual : Str) (N : List Str) (args : Arguments) (body : List Stmt) (sc : Scope) (fd : FuncData),
  FunD K nm qual args body sc [] [] (He.fAd K (q.1, some "__init__")) fd ∧ FnScope N N sc ∧ N.length = q.2.length + 1 ∧ xBody N sc q.2 body = true ∧ Binds K fd N []
def XmL (K : PySem.W.Frag) (mg : Str → Option Value) (q : Str × Str × Bool) : Prop := mg q.2.1 = some (.ref (He.ga K q.2.1)) ∧ PySem.W.exmOne K (.ref (He.ga K q.1)) (.ref (He.ga K q.2.1)) = some q.2.2
def XiL (K : PySem.W.Frag) (mg : Str → Option Value) (q : Str × Cl × Bool) : Prop := ClM K mg q.2.1 ∧ PySem.W.kitOne K (.ref (He.ga K q.1)) (q.2.1.val K) = some q.2.2
structure Linked (K : PySem.W.Frag) (w : World) (mg : Str → Option Value) (p : Pgm) (J : Lk) : Prop where
  fn : ∀ (x : Str) (d : SD), p.defs.lookup x = some d → ∃ (nm : Str) (args : Arguments) (body : List Stmt) (sc : Scope) (kws : List (Str × V)) (fd : FuncData), FnScope d.N d.ps sc ∧ ckSs (p.I J d.N sc) d.s body = true ∧
    FunD K nm x args body sc [] kws (He.fAd K (J.path x)) fd ∧ DefL K p J x d fd
  glo : ∀ (x : Str) (n : Nat), J.fns.lookup x = some n → (∃ d, p.defs.lookup x = some d ∧ d.ps.length = n) ∧ mg x = some (.ref (He.fAd K (J.path x))) ∧ He.fAd K (J.path x) = He.ga K x ∧ x ∉ J.kwo
  kf : ∀ k ∈ J.kfs, (∃ d, p.defs.lookup k.f = some d) ∧ mg k.f = some (.ref (He.fAd K (J.path k.f)))
  clsf : ∀ q ∈ J.clsf, Cls K (He.ga K q.1) ∧ NoAttr K (He.ga K q.1) q.2
  mths : ∀ q ∈ J.mths, (∃ d, p.defs.lookup q.2.2.1 = some d ∧ d.ps.length = q.2.2.2) ∧ Cls K (He.ga K q.1) ∧ Meth K (He.ga K q.1) q.2.1 (He.fAd K (J.path q.2.2.1)) ∧ q.2.2.1 ∉ J.kwo
  mks : ∀ q ∈ J.mks, (∃ d, p.defs.lookup q.2.1 = some d) ∧ mg q.1 = some (.ref (He.ga K q.1)) ∧ Mk K (He.ga K q.1) (He.fAd K (J.path q.2.1))
  mkks : ∀ q ∈ J.mkks, (∃ d, p.defs.lookup q.2.f = some d) ∧ mg q.1 = some (.ref (He.ga K q.1)) ∧ Mk K (He.ga K q.1) (He.fAd K (J.path q.2.f))
  blt : ∀ x ∈ J.blt, mg x = none
  gv : ∀ (x : Str) (d : DV), p.gvs.lookup x = some d → isTab d = false → ∃ v u, mg x = some u ∧ RelV v u ∧ ∀ B, Rep K B v d
  tb : ∀ (g : Str) (kvs : List (Str × Option Str)), p.gvs.lookup g = some (.tab kvs) → TbL K w mg g kvs
  xe : ∀ q ∈ J.exs, XeL K mg q
  xm : ∀ q ∈ J.exm, XmL K mg q
  xi : ∀ q ∈ J.isa, XiL K mg q
theorem lookup_map {α β : Type} {f : α → β} {x : Str} {b : β} : ∀ {l : List (Str × α)}, (l.map fun q => (q.1, f q.2)).lookup x = some b → ∃ a, l.lookup x = some a ∧ f a = b
  | [], h => by cases h
  | (y, a) :: l, h => by
    rw [List.map_cons, List.lookup_cons] at h
    rw [List.lookup_cons]
    cases e : x == y with
    | true =>
      rw [e] at h
      exact ⟨a, rfl, Option.some.inj h⟩
    | false =>
      rw [e] at h
      exact lookup_map h
theorem lookup_fst {α : Type} {x : Str} : ∀ {l : List (Str × α)}, x ∈ l.map (·.1) → ∃ a, l.lookup x = some a
  | [], h => by cases h
  | (y, a) :: l, h => by
    rw [List.lookup_cons]
    cases e : x == y with
    | true => exact ⟨a, rfl⟩
    | false =>
      rcases List.mem_cons.mp h with z | z
      · subst z; simp at e
      · exact lookup_fst z
section
variable {P : Program} {w : World} {K : PySem.W.Frag} {mg : Str → Option Value} {base : Heap} {p : Pgm} {J : Lk}
theorem init_rep {K : PySem.W.Frag} {B : Hp} {N : List Str} {vs : List V} {ds : List DV} (r : RepL K B vs ds) : RepSt K B (L2.start N vs) (initG N ds) := by
  refine ⟨by unfold L2.start initG; rw [List.length_append, List.length_append, List.length_map, List.length_map, List.length_replicate, List.length_replicate, r.length], fun i d e => ?_⟩
  unfold initG at e
  unfold L2.start
  by_cases h : i < ds.length
  · rw [List.getElem?_append_left (by rw [List.length_map]; exact h), List.getElem?_map] at e
    cases e1 : ds[i]? with
    | none => rw [e1] at e; cases e
    | some d0 =>
      rw [e1] at e; cases e
      obtain ⟨v, hv, rv⟩ := r.get e1
      exact ⟨v, by rw [List.getElem?_append_left (by rw [List.length_map, r.length]; exact h), List.getElem?_map, hv]; rfl, rv⟩
  · rw [List.getElem?_append_right (by rw [List.length_map]; omega), List.getElem?_replicate] at e
    split at e <;> cases e
theorem link (L : Linked K w mg p J) : ∀ (k : Nat) (x : Str) (d : SD) (nm : Str) (args : Arguments) (body : List Stmt) (sc : Scope) (kws : List (Str × V)) (f : Addr) (fd : FuncData), p.defs.lookup x = some d → FnScope d.N d.ps sc → ckSs (p.I J d.N sc) d.s body = true → FunD K nm x args body sc [] kws f fd →
    FnOk P w K mg base (L2.CX P w) (2 * k + 1) f fd d.ps (toSp K d.ps.length (fnS p k x))
  | 0, x, d, nm, args, body, sc, kws, f, fd, hd, S, hc, F => by
    refine ⟨fun vs H Q E h => ?_, fun A outer s H args us vs Q E hr he hb hv h => ?_⟩
    · obtain ⟨_, _, _, _, _, _, _, _, h, _⟩ := h
      exact h.elim
    · obtain ⟨_, _, _, _, _, _, _, _, h, _⟩ := h
      exact h.elim
  | k + 1, x, d, nm, args, body, sc, kws, f, fd, hd, S, hc, F => by
    refine F.ok (k := 2 * k + 2) S (fun vs H Q E h => h.1) fun cdv A outer s H vs Q E hr h => ?_
    obtain ⟨hl, B, μ, ds, PP, XPd, wf, rl, hs, hQ, hE⟩ := h
    rw [fnS_succ hd] at hs
    obtain ⟨hl2, hs⟩ := hs
    refine ⟨_, pss_w, ?_⟩
    have hr2 : Room (2 * k + 1) (A.deeper (envOfC x sc s.heap.objs.size f cdv)) := hr.mono (by omega)
    have At0 : At (cxOf (L2.CX P w) P w K mg base d.N x sc f cdv A outer s H E) (p.I J d.N sc) ⟨fnS p k, gvD p.gvs⟩ := by
      refine ⟨rfl, S.nd, rfl, fun _ _ => rfl, rfl, passes_of rfl, ?_, L.blt, ?_, ?_, ?_, ?_, ?_, L.clsf, ?_, ?_, ?_, fun _ => ⟨rfl, rfl⟩, ?_, L.xm, L.xi⟩
      · have := hr.un
        show (A.deeper _).units + 160 < cLine
        omega
      · intro y n e
        obtain ⟨⟨d2, e1, en⟩, hm, hga, hkw⟩ := L.glo y n e
        subst en
        obtain ⟨nm2, a2, b2, sc2, kw2, fd2, S2, c2, F2, hb⟩ := L.fn y d2 e1
        exact ⟨2 * k + 1, _, fd2, d2.ps, hm, F2.kp, link L k y d2 nm2 a2 b2 sc2 kw2 _ fd2 e1 S2 c2 F2, hr2, hb.b hkw⟩
      · intro kf e
        obtain ⟨⟨d2, e1⟩, hm⟩ := L.kf kf e
        obtain ⟨nm2, a2, b2, sc2, kw2, fd2, S2, c2, F2, hb⟩ := L.fn kf.f d2 e1
        obtain ⟨h1, h2, g, h3⟩ := hb.kb kf e rfl
        exact ⟨2 * k + 1, d2.ps.length, _, fd2, d2.ps, g, hm, F2.kp, link L k kf.f d2 nm2 a2 b2 sc2 kw2 _ fd2 e1 S2 c2 F2, hr2, h1, h2, h3⟩
      · intro y e
        obtain ⟨e, et⟩ := List.mem_filter.mp e
        obtain ⟨d2, e1⟩ := lookup_fst e
        have eg : gvD p.gvs y = d2 := by unfold gvD; rw [e1]
        rw [eg] at et
        obtain ⟨v, u, h1, h2, h3⟩ := L.gv y d2 e1 (by simpa using et)
        refine ⟨v, u, h1, h2, ?_⟩
        show ∀ B, Rep K B v (gvD p.gvs y)
        rw [eg]
        exact h3
      · intro y e
        obtain ⟨e, et⟩ := List.mem_filter.mp e
        obtain ⟨d2, e1⟩ := lookup_fst e
        have eg : gvD p.gvs y = d2 := by unfold gvD; rw [e1]
        rw [eg] at et
        cases d2 <;> try cases et
        exact ⟨_, eg, L.tb y _ e1⟩
      · intro y n e
        obtain ⟨_, hm, hga, _⟩ := L.glo y n e
        rw [hga] at hm
        exact hm
      · intro q e
        obtain ⟨⟨d2, e1, en⟩, hc, hm, hkw⟩ := L.mths q e
        obtain ⟨nm2, a2, b2, sc2, kw2, fd2, S2, c2, F2, hb⟩ := L.fn q.2.2.1 d2 e1
        refine ⟨2 * k + 1, _, fd2, d2.ps, hc, hm, ?_, hr2, hb.b hkw⟩
        rw [← en]
        exact link L k _ d2 nm2 a2 b2 sc2 kw2 _ fd2 e1 S2 c2 F2
      · intro q e
        obtain ⟨⟨d2, e1⟩, hm, hM⟩ := L.mks q e
        obtain ⟨nm2, a2, b2, sc2, kw2, fd2, S2, c2, F2, hb⟩ := L.fn q.2.1 d2 e1
        obtain ⟨h1, dsv, vs, h2, h3, h4⟩ := hb.mk_ q e rfl
        exact ⟨2 * k + 1, d2.ps.length, _, fd2, d2.ps, dsv, vs, hm, hM, link L k _ d2 nm2 a2 b2 sc2 kw2 _ fd2 e1 S2 c2 F2, hr.mono (by omega), h3, h2, h4, by rw [List.length_map]; exact h1⟩
      · intro q e
        obtain ⟨⟨d2, e1⟩, hm, hM⟩ := L.mkks q e
        obtain ⟨nm2, a2, b2, sc2, kw2, fd2, S2, c2, F2, hb⟩ := L.fn q.2.f d2 e1
        obtain ⟨h1, h2, g, h3⟩ := hb.mkk q e rfl
        exact ⟨2 * k + 1, d2.ps.length, _, fd2, d2.ps, g, hm, hM, link L k _ d2 nm2 a2 b2 sc2 kw2 _ fd2 e1 S2 c2 F2, hr.mono (by omega), h1, h2, h3⟩
      · intro q e
        obtain ⟨h1, h2, h3, nm2, q2, N2, a2, b2, sc2, fd2, F2, S2, l2, x2, hb⟩ := L.xe q e
        exact ⟨⟨1, fd2, N2, h1, h2, xinit_ok (k := 0) h2 F2 S2 l2 x2, hr.mono (by omega), hb⟩, h3⟩
    exact sSs d.s At0 hc hs (fun cls d _ H => E cls d H) (L2.start d.N vs) B H ⟨init_rep rl, wf, fun cls dd fs σ' γ' B' H' μ' n r hx hw => hE cls dd fs B' H' μ' n hx hw, takes_of rfl rfl rfl rfl⟩ _
      ⟨fun σ' γ' B' H' μ' n r q => hQ _ _ _ _ _ n .non q, fun v dd B' H' μ' n r q => hQ _ _ _ _ _ n r q, fun _ _ _ _ _ _ _ z => z.elim, fun _ _ _ _ _ _ _ z => z.elim⟩
/-- a def without defaults that is called by keywords -/
theorem kbn_plain {x qual : Str} {params : Arguments} {body : List Stmt} {scope : Scope} {f : Addr} {fd : FuncData} {ps ks : List Str} {n : Nat} {pm : List Nat} {kws : List (Str × V)} (F : FunD K x qual params body scope [] kws f fd)
    (h : ∀ (kV doc pmv : Value) (an : Option Addr) (cdv ct : Value) (us ws : List Value), us.length = n → ws.length = ks.length → bindArgs (PySem.W.fnOf x qual params body scope .none kV doc pmv an cdv ct) ⟨us, ks.zip ws⟩ = pure (ps.zip (us ++ pm.map fun i => ws.getD i .none))) :
    ∃ g, KBn K fd ps n ks g fun vs zs => vs ++ pm.map fun i => zs.getD i .non := by
  obtain ⟨oc, od, dV, kV, doc, pmv, an, cdv, ct, osl, rfl, lk, hcd, hD, hK⟩ := F.ex
  rcases hD with ⟨_, rfl⟩ | ⟨e, _⟩
  · refine ⟨fun us ws => us ++ pm.map fun i => ws.getD i .none, fun s us ws _ h1 h2 => .of_eq (h kV doc pmv an cdv ct us ws h1 h2), fun {vs us zs ws} r rz => r.append ?_⟩
    clear h
    induction pm with
    | nil => exact .nil
    | cons i pm ih =>
      refine .cons ?_ ih
      show RelV (zs.getD i .non) (ws.getD i .none)
      rw [List.getD_eq_getElem?_getD, List.getD_eq_getElem?_getD]
      cases e : zs[i]? with
      | some v =>
        obtain ⟨u, e2, ru⟩ := rz.get e
        rw [e2]; exact ru
      | none =>
        rw [rz.none_of e]; exact rfl
  · exact absurd rfl e
end
/-! ### from the top's facts -/
structure RowE where
  x : Str
  nm : Str
  d : SD
  args : Arguments
  body : List Stmt
  sc : Scope
  kwd : List (Str × He.Dv) := []
def RowE.at_ (J : Lk) (r : RowE) : He.DefD := ⟨J.path r.x, r.nm, r.x, r.args, r.body, r.sc, [], r.kwd⟩
structure RowE.Good (p : Pgm) (J : Lk) (r : RowE) : Prop where
  S : FnScope r.d.N r.d.ps r.sc
  ck : ckSs (p.I J r.d.N r.sc) r.d.s r.body = true
  b : r.x ∉ J.kwo → ∀ (kV doc pm : Value) (an : Option Addr) (cdv ct : Value) (us : List Value), us.length = r.d.ps.length → bindArgs (PySem.W.fnOf r.nm r.x r.args r.body r.sc .none kV doc pm an cdv ct) ⟨us, []⟩ = pure (r.d.ps.zip us)
  kb : AllL (fun k => k.f = r.x → r.d.ps.length = k.n + k.pm.length ∧ (∀ i ∈ k.pm, i < k.ks.length) ∧ ∀ (kV doc pm : Value) (an : Option Addr) (cdv ct : Value) (us ws : List Value), us.length = k.n → ws.length = k.ks.length →
    bindArgs (PySem.W.fnOf r.nm r.x r.args r.body r.sc .none kV doc pm an cdv ct) ⟨us, k.ks.zip ws⟩ = pure (r.d.ps.zip (us ++ k.pm.map fun i => ws.getD i .none))) J.kfs
  mk_ : AllL (fun q => q.2.1 = r.x → r.d.ps.length = q.2.2.1 + 1 + q.2.2.2.length ∧ r.kwd.length = q.2.2.2.length ∧ ((r.kwd = [] ∧ ∀ (kV doc pm : Value) (an : Option Addr) (cdv ct : Value) (us : List Value), us.length = r.d.ps.length → bindArgs (PySem.W.fnOf r.nm r.x r.args r.body r.sc .none kV doc pm an cdv ct) ⟨us, []⟩ = pure (r.d.ps.zip us)) ∨
    (r.kwd ≠ [] ∧ ∀ (D : Addr) (doc pm : Value) (an : Option Addr) (cdv ct : Value) (us ks : List Value), us.length = q.2.2.1 + 1 → ks.length = r.kwd.length → KwChain D ((r.kwd.map (·.1)).zip ks) (bindArgs (PySem.W.fnOf r.nm r.x r.args r.body r.sc .none (.ref D) doc pm an cdv ct) ⟨us, []⟩) (r.d.ps.zip (us ++ ks))))) J.mks
  mkk : AllL (fun q => q.2.f = r.x → r.d.ps.length = q.2.n + 1 + q.2.pm.length ∧ (∀ i ∈ q.2.pm, i < q.2.ks.length) ∧ ∀ (kV doc pm : Value) (an : Option Addr) (cdv ct : Value) (us ws : List Value), us.length = q.2.n + 1 → ws.length = q.2.ks.length →
    bindArgs (PySem.W.fnOf r.nm r.x r.args r.body r.sc .none kV doc pm an cdv ct) ⟨us, q.2.ks.zip ws⟩ = pure (r.d.ps.zip (us ++ q.2.pm.map fun i => ws.getD i .none))) J.mkks
inductive AllG (p : Pgm) (J : Lk) : List RowE → Prop
  | nil : AllG p J []
  | cons {r : RowE} {rs : List RowE} : r.Good p J → AllG p J rs → AllG p J (r :: rs)
theorem AllG.get {p : Pgm} {J : Lk} : ∀ {rs : List RowE}, AllG p J rs → ∀ r ∈ rs, r.Good p J
  | _, .nil, _, h => by cases h
  | _, .cons g a, r, h => by
    rcases List.mem_cons.mp h with z | z
    · subst z; exact g
    · exact a.get r z
theorem lookup_rows {x : Str} {d : SD} : ∀ {rows : List RowE}, (rows.map fun r => (r.x, r.d)).lookup x = some d → ∃ r ∈ rows, r.x = x ∧ r.d = d
  | [], h => by cases h
  | r :: rows, h => by
    rw [List.map_cons, List.lookup_cons] at h
    cases e : x == r.x with
    | true =>
      rw [e] at h
      exact ⟨r, List.mem_cons_self, (by simpa using e : x = r.x).symm, Option.some.inj h⟩
    | false =>
      rw [e] at h
      obtain ⟨r2, h1, h2⟩ := lookup_rows h
      exact ⟨r2, List.mem_cons_of_mem _ h1, h2⟩
/-- the facts that are asked -/
def faOf (J : Lk) (more : List He.Fa) : List He.Fa := J.fns.map (fun q => .glo q.1) ++ (J.kfs.map (fun k => .glo k.f) ++ (J.blt.map .free ++ (J.clsf.flatMap (fun q => [.cls q.1, .noat q.1 q.2]) ++ (J.mths.flatMap (fun q => [.cls q.1, .meth q.1 q.2.1]) ++
  (J.mks.flatMap (fun q => [.glo q.1, .mkr q.1]) ++ (J.mkks.flatMap (fun q => [.glo q.1, .mkr q.1]) ++ more))))))
theorem fa_fn {J : Lk} {more : List He.Fa} {q : Str × Nat} (h : q ∈ J.fns) : He.Fa.glo q.1 ∈ faOf J more := List.mem_append.mpr (.inl (List.mem_map.mpr ⟨q, h, rfl⟩))
theorem fa_kf {J : Lk} {more : List He.Fa} {k : KF} (h : k ∈ J.kfs) : He.Fa.glo k.f ∈ faOf J more := List.mem_append.mpr (.inr (List.mem_append.mpr (.inl (List.mem_map.mpr ⟨k, h, rfl⟩))))
theorem fa_blt {J : Lk} {more : List He.Fa} {x : Str} (h : x ∈ J.blt) : He.Fa.free x ∈ faOf J more := List.mem_append.mpr (.inr (List.mem_append.mpr (.inr (List.mem_append.mpr (.inl (List.mem_map.mpr ⟨x, h, rfl⟩))))))
theorem fa_clsf {J : Lk} {more : List He.Fa} {q : Str × Str} (h : q ∈ J.clsf) {a : He.Fa} (ha : a ∈ [He.Fa.cls q.1, .noat q.1 q.2]) : a ∈ faOf J more :=
  List.mem_append.mpr (.inr (List.mem_append.mpr (.inr (List.mem_append.mpr (.inr (List.mem_append.mpr (.inl (List.mem_flatMap.mpr ⟨q, h, ha⟩))))))))
theorem fa_mth {J : Lk} {more : List He.Fa} {q : Str × Str × Str × Nat} (h : q ∈ J.mths) {a : He.Fa} (ha : a ∈ [He.Fa.cls q.1, .meth q.1 q.2.1]) : a ∈ faOf J more :=
  List.mem_append.mpr (.inr (List.mem_append.mpr (.inr (List.mem_append.mpr (.inr (List.mem_append.mpr (.inr (List.mem_append.mpr (.inl (List.mem_flatMap.mpr ⟨q, h, ha⟩))))))))))
theorem fa_mk {J : Lk} {more : List He.Fa} {q : Str × Str × Nat × List Str} (h : q ∈ J.mks) {a : He.Fa} (ha : a ∈ [He.Fa.glo q.1, .mkr q.1]) : a ∈ faOf J more :=
  List.mem_append.mpr (.inr (List.mem_append.mpr (.inr (List.mem_append.mpr (.inr (List.mem_append.mpr (.inr (List.mem_append.mpr (.inr (List.mem_append.mpr (.inl (List.mem_flatMap.mpr ⟨q, h, ha⟩))))))))))))
theorem fa_mkk {J : Lk} {more : List He.Fa} {q : Str × KF} (h : q ∈ J.mkks) {a : He.Fa} (ha : a ∈ [He.Fa.glo q.1, .mkr q.1]) : a ∈ faOf J more :=
  List.mem_append.mpr (.inr (List.mem_append.mpr (.inr (List.mem_append.mpr (.inr (List.mem_append.mpr (.inr (List.mem_append.mpr (.inr (List.mem_append.mpr (.inr (List.mem_append.mpr (.inl (List.mem_flatMap.mpr ⟨q, h, ha⟩))))))))))))))
/-- the lists of a program's links go by its rows -/
def okJ (p : Pgm) (J : Lk) : Bool :=
  J.fns.all (fun q => (match p.defs.lookup q.1 with | some d => d.ps.length == q.2 | none => false) && decide (J.path q.1 = (q.1, none)) && !decide (q.1 ∈ J.kwo)) &&
  (J.kfs.all (fun k => (p.defs.lookup k.f).isSome && decide (J.path k.f = (k.f, none))) &&
  (J.mths.all (fun q => (match p.defs.lookup q.2.2.1 with | some d => d.ps.length == q.2.2.2 | none => false) && decide (J.path q.2.2.1 = (q.1, some q.2.1)) && !decide (q.2.2.1 ∈ J.kwo)) &&
  (J.mks.all (fun q => (p.defs.lookup q.2.1).isSome && decide (J.path q.2.1 = (q.1, some ("__init__" : Str)))) && J.mkks.all (fun q => (p.defs.lookup q.2.f).isSome && decide (J.path q.2.f = (q.1, some ("__init__" : Str)))))))
theorem linked_of {p : Pgm} {J : Lk} {rows : List RowE} {more : List He.Fa} (hrows : p.defs = rows.map fun r => (r.x, r.d)) (hg : AllG p J rows)
    (hj : okJ p J = true) {K : PySem.W.Frag} {h : Heap} {mg : Str → Option Value} (X : K.In h) (G : h.Ns mainGlobals mg) {dl : List He.DefD} (hdl : ∀ r ∈ rows, r.at_ J ∈ dl) (c : He.SaysD (faOf J more) dl K)
    (hgv : ∀ (x : Str) (d : DV), p.gvs.lookup x = some d → isTab d = false → ∃ v u, mg x = some u ∧ RelV v u ∧ ∀ B, Rep K B v d)
    (hkw : ∀ r ∈ rows, AllL (fun q => q.2.1 = r.x → ∀ B, RepL K B (r.kwd.map fun z => z.2.v K) (q.2.2.2.map (gvD p.gvs))) J.mks)
    {w : World} (htb : ∀ (g : Str) (kvs : List (Str × Option Str)), p.gvs.lookup g = some (.tab kvs) → TbL K w mg g kvs)
    (hxe : ∀ q ∈ J.exs, XeL K mg q) (hxm : ∀ q ∈ J.exm, XmL K mg q) (hxi : ∀ q ∈ J.isa, XiL K mg q) : Linked K w mg p J := by
  have fact : ∀ {a : He.Fa}, a ∈ faOf J more → a.ok K = true := fun ha => He.SaysD.facts c ha
  unfold okJ at hj
  simp only [Bool.and_eq_true, List.all_eq_true] at hj
  obtain ⟨j1, j2, j3, j4, j5⟩ := hj
  refine ⟨fun x d hd => ?_, fun x n hx => ?_, fun k hk => ?_, fun q hq => ?_, fun q hq => ?_, fun q hq => ?_, fun q hq => ?_, fun x hx => ?_, hgv, htb, hxe, hxm, hxi⟩
  · rw [hrows] at hd
    obtain ⟨r, hr, rfl, rfl⟩ := lookup_rows hd
    obtain ⟨fd, F⟩ := He.SaysD.defs c (d := r.at_ J) (hdl r hr)
    have gd := hg.get r hr
    have F : FunD K r.nm r.x r.args r.body r.sc [] (r.kwd.map fun q => (q.1, q.2.v K)) (He.fAd K (J.path r.x)) fd := F
    refine ⟨r.nm, r.args, r.body, r.sc, _, fd, gd.S, gd.ck, F, ⟨fun hn => F.bindsN (gd.b hn), fun k hk e => ?_, fun q hq e => ?_, fun q hq e => ?_⟩⟩
    · obtain ⟨k1, k2, k3⟩ := gd.kb.get k hk e
      exact ⟨k1, k2, kbn_plain F k3⟩
    · obtain ⟨k1, k2, k3⟩ := gd.mk_.get q hq e
      refine ⟨k1, ?_⟩
      have rep := (hkw r hr).get q hq e
      rcases k3 with ⟨z, k3⟩ | ⟨z, k3⟩
      · rw [z] at rep
        exact ⟨[], [], .nil, F.bindsN k3, rep⟩
      · have hz : (r.kwd.map fun q => (q.1, q.2.v K)) ≠ [] := fun e => z (List.map_eq_nil_iff.mp e)
        obtain ⟨ds, rv, hb⟩ := F.binds0 (ps := r.d.ps) (q.2.2.1 + 1) hz (by rw [List.length_map, k1, k2]) (fun D doc pm an cdv ct us ks l1 l2 => by
          have := k3 D doc pm an cdv ct us ks l1 (by rw [l2, List.length_map])
          rw [List.map_map]
          exact this)
        rw [List.map_map] at rv
        exact ⟨ds, _, rv, hb, rep⟩
    · obtain ⟨k1, k2, k3⟩ := gd.mkk.get q hq e
      exact ⟨k1, k2, kbn_plain F k3⟩
  · have hm := PySem.mem_of_lookup hx
    have hj := j1 _ hm
    simp only [Bool.and_eq_true, decide_eq_true_eq, Bool.not_eq_true', decide_eq_false_iff_not] at hj
    obtain ⟨⟨h1, h2⟩, h3⟩ := hj
    have hga : He.fAd K (J.path x) = He.ga K x := by rw [h2]; rfl
    refine ⟨?_, ?_, hga, h3⟩
    · cases e : p.defs.lookup x with
      | none => rw [e] at h1; cases h1
      | some d => rw [e] at h1; exact ⟨d, rfl, eq_of_beq h1⟩
    · rw [hga]; exact He.glo_ok X G (fact (fa_fn hm))
  · have hj := j2 _ hk
    simp only [Bool.and_eq_true, decide_eq_true_eq] at hj
    refine ⟨Option.isSome_iff_exists.mp hj.1, ?_⟩
    rw [show He.fAd K (J.path k.f) = He.ga K k.f by rw [hj.2]; rfl]
    exact He.glo_ok X G (fact (fa_kf hk))
  · exact ⟨He.cls_ok (fact (fa_clsf hq (by simp))), He.noat_ok (fact (fa_clsf hq (by simp)))⟩
  · have hj := j3 _ hq
    simp only [Bool.and_eq_true, decide_eq_true_eq, Bool.not_eq_true', decide_eq_false_iff_not] at hj
    obtain ⟨⟨h1, h2⟩, h3⟩ := hj
    refine ⟨?_, He.cls_ok (fact (fa_mth hq (by simp))), ?_, h3⟩
    · cases e : p.defs.lookup q.2.2.1 with
      | none => rw [e] at h1; cases h1
      | some d => rw [e] at h1; exact ⟨d, rfl, eq_of_beq h1⟩
    · rw [h2]
      exact He.meth_ok (fact (fa_mth hq (by simp)))
  · have hj := j4 _ hq
    simp only [Bool.and_eq_true, decide_eq_true_eq] at hj
    refine ⟨Option.isSome_iff_exists.mp hj.1, He.glo_ok X G (fact (fa_mk hq (by simp))), ?_⟩
    rw [hj.2]
    exact He.mkr_ok (fact (fa_mk hq (by simp)))
  · have hj := j5 _ hq
    simp only [Bool.and_eq_true, decide_eq_true_eq] at hj
    refine ⟨Option.isSome_iff_exists.mp hj.1, He.glo_ok X G (fact (fa_mkk hq (by simp))), ?_⟩
    rw [hj.2]
    exact He.mkr_ok (fact (fa_mkk hq (by simp)))
  · exact He.free_ok X G (fact (fa_blt hx))
/-- the end of a law -/
theorem end_of {l : PySem.W.OpenLaw} {n k : Nat} {q : Program} {loose : List Str} {XP : (Str → Option Value) → Heap → Prop} {YP : World → Heap → Prop} {d : DefRec} {x : Str}
    (hn : l.most = some n) (hn2 : n ≤ sizeLine) (hdf : d.params.defaults = []) (hr : Room k callerA)
    (F : ∀ (w : World) (mg : Str → Option Value) (fa : Addr) (h : Heap), YP w h → h.Ns mainGlobals mg → mg d.name = some (.ref fa) →
      ∃ (K : PySem.W.Frag) (fd : FuncData) (sp : Sp), K.In h ∧ (∀ (s : Shared) (u : Value), BindsTo s fd ⟨[u], []⟩ [(x, u)]) ∧
        (∀ (H : Hp) (a : Addr) (ns : List Int), ns.length ≤ n → (∀ z ∈ ns, Builtin.Int.intBits z ≤ 1048576) → Only H → SqL K H a (ns.map V.int) → sp [.ref a] H (fun v _ => v = .bl true) fun _ _ _ => False) ∧
        ∀ base : Heap, K.In base → base.Ns mainGlobals mg → FnOk l.prog w K mg base (L2.CX l.prog w) k fa fd [x] sp) :
    PySem.W.WalkO q loose XP YP l.row.toRowW d [] (fun f vs => PySem.call f vs) := by
  refine Att.attach_callB hn hdf fun w s0 s1 mg mb fa o pm cd doc a vs ns G Y ho hd hcd hmg hobj hints hlen hbits hg => ?_
  obtain ⟨K, fd, sp, KX, hb, hsp, hF⟩ := F w mg fa _ Y G.T.g hmg
  exact law_call KX G.T.g G.T.b G.T.builtins G.T.nolimit hg hobj hints (Nat.le_trans hlen hn2) hr hF hb (fun H hO hS => hsp H a ns hlen hbits hO hS) fun H e s' z => by
    obtain ⟨_, _, _, _, _, _, _, _, _, _, _, _, z⟩ := z
    exact z
/-- the law's promise, over trees -/
theorem law_sp {K : PySem.W.Frag} {sp : Spec} {ns : List Int} {H : Hp} {a : Addr} (hS : SqL K H a (ns.map V.int)) (h : sp [.rol (ns.map DV.int)] (fun _ => none) (fun d _ => d = .bl true) fun _ _ _ => False) :
    toSp K 1 sp [.ref a] H (fun v _ => v = .bl true) fun _ _ _ => False :=
  ⟨rfl, H, fun _ => none, _, _, _, ⟨Same.refl _, fun _ _ z => by cases z⟩, .cons (.rol hS (.of_ints ns)) .nil, h, fun v d B' H' μ' n r e => by subst e; cases r; rfl, fun _ _ _ _ _ _ _ _ z => z⟩
end Sr

set_option Elab.async false
set_option linter.all false
set_option maxRecDepth 100000
set_option autoImplicit false
/-! Plain reading of the small language's meaning. -/
namespace Sr
open PySem PySem.Spec PyProof.Rows L2
theorem gs0 {o : Option DV} {γ : Ga} : gs (o :: γ) 0 = o := rfl
theorem gsS {o : Option DV} {γ : Ga} {i : Nat} : gs (o :: γ) (i + 1) = gs γ i := by
  show (match (o :: γ)[i + 1]? with | some o => o | none => none) = _
  rw [List.getElem?_cons_succ]; rfl
/-! ### equality -/
def eqvDs : List DV → List DV → Bool
  | [], [] => true
  | x :: xs, y :: ys => eqvD x y && eqvDs xs ys
  | _, _ => false
theorem eqvDs_pys : ∀ (xs ys : List DV), PyData.eqvAll (pyDs xs) (pyDs ys) = eqvDs xs ys
  | [], [] => by simp [pyDs, PyData.eqvAll, eqvDs]
  | x :: xs, [] => by simp [pyDs, PyData.eqvAll, eqvDs]
  | [], y :: ys => by simp [pyDs, PyData.eqvAll, eqvDs]
  | x :: xs, y :: ys => by simp [pyDs, PyData.eqvAll, eqvDs, eqvDs_pys xs ys, eqvD]
theorem eqv_ss {x y : Str} : eqvD (.str x) (.str y) = decide (x = y) := by
  show PyData.eqv (.str x) (.str y) = _
  simp only [PyData.eqv]
  by_cases h : x = y <;> simp [h]
theorem eqv_ii {x y : Int} : eqvD (.int x) (.int y) = decide (x = y) := by
  show PyData.eqv (.int x) (.int y) = _
  simp only [PyData.eqv]
  by_cases h : x = y <;> simp [h]
theorem eqv_nn : eqvD .non .non = true := by
  show PyData.eqv .none .none = _
  simp [PyData.eqv]
theorem eqv_bb {x y : Bool} : eqvD (.bl x) (.bl y) = (x == y) := by
  show PyData.eqv (.bool x) (.bool y) = _
  simp [PyData.eqv]
theorem eqv_ll {x y : List DV} : eqvD (.lst x) (.lst y) = eqvDs x y := by
  show PyData.eqv (.list _) (.list _) = _
  simp only [PyData.eqv, eqvDs_pys]
theorem eqv_tt {x y : List DV} : eqvD (.tup x) (.tup y) = eqvDs x y := by
  show PyData.eqv (.tuple _) (.tuple _) = _
  simp only [PyData.eqv, eqvDs_pys]
theorem eqvDs_nil : eqvDs [] [] = true := rfl
theorem eqvDs_cons {x y : DV} {xs ys : List DV} : eqvDs (x :: xs) (y :: ys) = (eqvD x y && eqvDs xs ys) := rfl
theorem eqvDs_cn {x : DV} {xs : List DV} : eqvDs (x :: xs) [] = false := rfl
theorem eqvDs_nc {x : DV} {xs : List DV} : eqvDs [] (x :: xs) = false := rfl
mutual
/-- may be compared -/
def cmpOk : Nat → DV → Bool
  | _, .non => true
  | _, .bl _ => true
  | _, .int _ => true
  | _, .str x => PyData.strOk x
  | n + 1, .tup xs => cmpOks n xs
  | n + 1, .lst xs => cmpOks n xs
  | n + 1, .rol xs => cmpOks n xs
  | _, _ => false
def cmpOks : Nat → List DV → Bool
  | _, [] => true
  | n, x :: xs => cmpOk n x && cmpOks n xs
end
mutual
theorem cmpOk_is : ∀ (n : Nat) (d : DV), cmpOk n d = true → isD d = true ∧ (pyD d).canLay0 = true ∧ (pyD d).depth ≤ n
  | n, .non, _ => ⟨rfl, by simp [pyD, PyData.canLay0], by simp [pyD, PyData.depth]⟩
  | n, .bl _, _ => ⟨rfl, by simp [pyD, PyData.canLay0], by simp [pyD, PyData.depth]⟩
  | n, .int _, _ => ⟨rfl, by simp [pyD, PyData.canLay0], by simp [pyD, PyData.depth]⟩
  | n, .str x, h => ⟨rfl, by simp only [cmpOk] at h; simpa [pyD, PyData.canLay0] using h, by simp [pyD, PyData.depth]⟩
  | n + 1, .tup xs, h => by
    simp only [cmpOk] at h
    obtain ⟨p, q, r⟩ := cmpOks_is n xs h
    exact ⟨p, by simpa [pyD, PyData.canLay0] using q, by simpa [pyD, PyData.depth] using r⟩
  | n + 1, .lst xs, h => by
    simp only [cmpOk] at h
    obtain ⟨p, q, r⟩ := cmpOks_is n xs h
    exact ⟨p, by simpa [pyD, PyData.canLay0] using q, by simpa [pyD, PyData.depth] using r⟩
  | n + 1, .rol xs, h => by
    simp only [cmpOk] at h
    obtain ⟨p, q, r⟩ := cmpOks_is n xs h
    exact ⟨p, by simpa [pyD, PyData.canLay0] using q, by simpa [pyD, PyData.depth] using r⟩
  | 0, .tup xs, h => by simp [cmpOk] at h
  | 0, .lst xs, h => by simp [cmpOk] at h
  | 0, .rol xs, h => by simp [cmpOk] at h
  | _, .ins _ _, h => by simp [cmpOk] at h
  | _, .ref _, h => by simp [cmpOk] at h
  | _, .ty _, h => by simp [cmpOk] at h
theorem cmpOks_is : ∀ (n : Nat) (ds : List DV), cmpOks n ds = true → isDs ds = true ∧ PyData.canLayAll0 (pyDs ds) = true ∧ PyData.depthAll (pyDs ds) ≤ n
  | n, [], _ => ⟨rfl, by simp [pyDs, PyData.canLayAll0], by simp [pyDs, PyData.depthAll]⟩
  | n, d :: ds, h => by
    simp only [cmpOks, Bool.and_eq_true] at h
    obtain ⟨p, q, r⟩ := cmpOk_is n d h.1
    obtain ⟨p2, q2, r2⟩ := cmpOks_is n ds h.2
    refine ⟨by simp [isDs, p, p2], by simp [pyDs, PyData.canLayAll0, q, q2], ?_⟩
    simp only [pyDs, PyData.depthAll]
    omega
end
theorem okD_of {d : DV} (n : Nat) (h : cmpOk n d = true) (hn : n ≤ 150) : okD d := by
  obtain ⟨p, q, r⟩ := cmpOk_is n d h
  exact ⟨p, q, by omega⟩
theorem okD_int {i : Int} : okD (.int i) = True := eq_true (okD_of 0 (by simp [cmpOk]) (by decide))
theorem okD_bl {i : Bool} : okD (.bl i) = True := eq_true (okD_of 0 (by simp [cmpOk]) (by decide))
theorem okD_non : okD .non = True := eq_true (okD_of 0 (by simp [cmpOk]) (by decide))
theorem okD_str {x : Str} : okD (.str x) = (PyData.strOk x = true) := propext ⟨fun h => by simpa [pyD, PyData.canLay0] using h.2.1, fun h => okD_of 0 (by simpa [cmpOk] using h) (by decide)⟩
/-! ### operators, row by row -/
section
variable {d e : DV} {μ : Mu} {P : DV → Mu → Prop} {i j : Int} {xs ys : List DV} {x y : Str} {o : Bool} {a : Addr}
theorem o_eq : o2W .eq d e μ P = (okD (dl μ d) ∧ okD (dl μ e) ∧ P (.bl (eqvD (dl μ d) (dl μ e))) μ) := by cases d <;> cases e <;> rfl
theorem o_ne : o2W .ne d e μ P = (okD (dl μ d) ∧ okD (dl μ e) ∧ P (.bl (!eqvD (dl μ d) (dl μ e))) μ) := by cases d <;> cases e <;> rfl
theorem o_addI : o2W (.add o) (.int i) (.int j) μ P = P (.int (i + j)) μ := rfl
theorem o_addS : o2W (.add o) (.str x) (.str y) μ P = (x.length + y.length ≤ sizeLine ∧ P (.str (x ++ y)) μ) := rfl
theorem o_addT : o2W (.add o) (.tup xs) (.tup ys) μ P = (xs.length + ys.length ≤ sizeLine ∧ P (.tup (xs ++ ys)) μ) := rfl
theorem o_addL : o2W (.add o) (.lst xs) (.lst ys) μ P = (xs.length + ys.length ≤ sizeLine ∧ newL o (xs ++ ys) μ P) := by
  refine propext ⟨fun ⟨_, _, e1, e2, h⟩ => ?_, fun h => ⟨xs, ys, rfl, rfl, h⟩⟩
  cases e1; cases e2; exact h
theorem o_sub : o2W .sub (.int i) (.int j) μ P = P (.int (i - j)) μ := rfl
theorem o_mul : o2W .mul (.int i) (.int j) μ P = (CMulW i j ∧ P (.int (i * j)) μ) := rfl
theorem o_fdiv : o2W .fdiv (.int i) (.int j) μ P = (CDivW i j ∧ P (.int (i / j)) μ) := rfl
theorem o_mod : o2W .mod (.int i) (.int j) μ P = (0 < j ∧ P (.int (i % j)) μ) := rfl
theorem o_pow : o2W .pow (.int i) (.int j) μ P = (CPow i j ∧ P (.int (i ^ j.toNat)) μ) := rfl
theorem o_lt : o2W .lt (.int i) (.int j) μ P = P (.bl (decide (i < j))) μ := rfl
theorem o_le : o2W .le (.int i) (.int j) μ P = P (.bl (decide (i ≤ j))) μ := rfl
theorem o_gt : o2W .gt (.int i) (.int j) μ P = P (.bl (decide (j < i))) μ := rfl
theorem o_ge : o2W .ge (.int i) (.int j) μ P = P (.bl (decide (j ≤ i))) μ := rfl
theorem o_isN : o2W .isN d .non μ P = P (.bl (isNon d)) μ := by cases d <;> rfl
theorem o_notN : o2W .notN d .non μ P = P (.bl (!isNon d)) μ := by cases d <;> rfl
theorem o_ixS : o2W .ix (.str x) (.int i) μ P = (x.length ≤ sizeLine ∧ ∃ c, atI x.cps.toList i = some c ∧ P (.str (sgn c)) μ) := rfl
theorem o_ixT : o2W .ix (.tup xs) (.int i) μ P = (∃ x, atI xs i = some x ∧ P x μ) := by
  refine propext ⟨fun ⟨_, x, e1, h⟩ => ?_, fun ⟨x, h⟩ => ⟨xs, x, rfl, h⟩⟩
  cases e1; exact ⟨x, h⟩
theorem o_ixL : o2W .ix (.lst xs) (.int i) μ P = (∃ x, atI xs i = some x ∧ P x μ) := by
  refine propext ⟨fun ⟨_, x, e1, h⟩ => ?_, fun ⟨x, h⟩ => ⟨xs, x, rfl, h⟩⟩
  cases e1; exact ⟨x, h⟩
theorem o_ixR : o2W .ix (.rol xs) (.int i) μ P = (∃ x, atI xs i = some x ∧ P x μ) := by
  refine propext ⟨fun ⟨_, x, e1, h⟩ => ?_, fun ⟨x, h⟩ => ⟨xs, x, rfl, h⟩⟩
  cases e1; exact ⟨x, h⟩
theorem o_ixO : o2W .ix (.ref a) (.int i) μ P = (∃ xs x, μ a = some (.lst xs) ∧ atI xs i = some x ∧ P x μ) := by
  refine propext ⟨fun ⟨xs, x, e1, h⟩ => ?_, fun ⟨xs, x, e, h⟩ => ⟨xs, x, by simp only [sq, e], h⟩⟩
  simp only [sq] at e1
  split at e1
  · rename_i z hz
    cases e1; exact ⟨xs, x, hz, h⟩
  · cases e1
theorem atI_lit {α : Type} {xs : List α} {n : Nat} : atI xs ((n : Nat) : Int) = xs[n]? := by
  unfold atI ixN
  rw [if_pos (Int.natCast_nonneg n)]
  by_cases h : n < xs.length
  · rw [if_pos (by omega)]
    simp
  · rw [if_neg (by omega)]
    simp at h
    simp [h]
theorem atI_0 {α : Type} {x : α} {xs : List α} : atI (x :: xs) 0 = some x := atI_lit (n := 0)
theorem atI_1 {α : Type} {x y : α} {xs : List α} : atI (x :: y :: xs) 1 = some y := atI_lit (n := 1)
theorem atI_2 {α : Type} {x y z : α} {xs : List α} : atI (x :: y :: z :: xs) 2 = some z := atI_lit (n := 2)
theorem atI_3 {α : Type} {x y z w : α} {xs : List α} : atI (x :: y :: z :: w :: xs) 3 = some w := atI_lit (n := 3)
theorem atI_last {α : Type} {xs : List α} {x : α} : atI (xs ++ [x]) (-1) = some x := by
  unfold atI ixN
  rw [if_neg (by decide), if_pos (by simp only [List.length_append, List.length_singleton]; omega)]
  have : (-1 + ((xs ++ [x]).length : Int)).toNat = xs.length := by simp only [List.length_append, List.length_singleton]; omega
  rw [this]
  simp
theorem atI_last' {α : Type} {xs : List α} (h : xs ≠ []) : atI xs (-1) = some (xs.getLast h) := by
  have := atI_last (xs := xs.dropLast) (x := xs.getLast h)
  rwa [List.dropLast_concat_getLast] at this
theorem mut_is {k : Addr → List DV → Prop} : mutW (.ref a) μ k = (∃ xs, μ a = some (.lst xs) ∧ k a xs) := by
  refine propext ⟨fun ⟨b, xs, e, h⟩ => ?_, fun ⟨xs, h⟩ => ⟨a, xs, rfl, h⟩⟩
  cases e; exact ⟨xs, h⟩
theorem newF : newL false xs μ P = P (.lst xs) μ := rfl
theorem newT : newL true xs μ P = ∀ a, μ a = none → P (.ref a) (upm μ a (.lst xs)) := rfl
theorem setW_is {b : DV} {Q : Mu → Prop} : setW (.ref a) (.int i) b μ Q = (∃ xs j, μ a = some (.lst xs) ∧ ixN xs.length i = some j ∧ Q (upm μ a (.lst (xs.set j b)))) := by
  refine propext ⟨fun ⟨a', xs, k, j, e1, e2, e3, h⟩ => ?_, fun ⟨xs, j, h1, h2⟩ => ⟨a, xs, i, j, rfl, h1, rfl, h2⟩⟩
  cases e1; cases e3; exact ⟨xs, j, e2, h⟩
end
/-- the text has this def -/
def Has (p : Pgm) (x : Str) (d : SD) : Prop := p.defs.lookup x = some d
/-- a def's own reading -/
theorem fn_in {p : Pgm} {k : Nat} {x : Str} {d : SD} (h : Has p x d) {ds : List DV} {μ : Mu} {P : DV → Mu → Prop} {X : XP} (hl : ds.length = d.ps.length)
    (w : wSs ⟨fnS p k, gvD p.gvs⟩ (fun cls fs _ μ' => X cls fs μ') d.s (initG d.N ds) μ { nx := fun _ μ' => P .non μ', rt := P }) : fnS p (k + 1) x ds μ P X := by
  rw [fnS_succ h]; exact ⟨hl, w⟩
end Sr
namespace Sr
open PySem PySem.Spec PyProof.Rows L2
section
variable {Γ : Cxt} {Wd : XD} {γ : Ga} {μ : Mu} {D : DEnds} {s : S} {ss : Ss} {c : T} {b : Ss}
theorem st (h : wS Γ Wd s γ μ { nx := fun γ1 μ1 => wSs Γ Wd ss γ1 μ1 D, rt := D.rt, bk := D.bk, ct := D.ct }) : wSs Γ Wd (.cons s ss) γ μ D := h
theorem sn (h : D.nx γ μ) : wSs Γ Wd .nil γ μ D := h
theorem while_ok (J : Nat → Ga → Mu → Prop) (m0 : Nat) (h0 : J m0 γ μ) (hs : ∀ m γ μ, J m γ μ → wT Γ Wd c γ μ fun k μ1 =>
      if k = true then wSs Γ Wd b γ μ1 { nx := fun γ2 μ2 => ∃ m2, m2 < m ∧ J m2 γ2 μ2, rt := D.rt, bk := D.nx, ct := fun γ2 μ2 => ∃ m2, m2 < m ∧ J m2 γ2 μ2 } else D.nx γ μ1) : wS Γ Wd (.while_ c b) γ μ D := ⟨J, ⟨m0, h0⟩, hs⟩
theorem forF_by {stay : Mu → Prop} {turn : DV → Ga → Mu → DEnds → Prop} (J : List DV → Ga → Mu → Prop) (hst : ∀ r γ μ, J r γ μ → stay μ)
    (hd : ∀ d ds γ μ (N : Ga → Mu → Prop), J (d :: ds) γ μ → (∀ γ' μ', J ds γ' μ' → N γ' μ') → turn d γ μ { nx := N, rt := D.rt, bk := D.nx, ct := N })
    (hn : ∀ γ μ, J [] γ μ → D.nx γ μ) : ∀ (xs : List DV) {γ : Ga} {μ : Mu}, J xs γ μ → forF stay turn D xs γ μ
  | [], γ, μ, j => ⟨hst _ _ _ j, hn _ _ j⟩
  | d :: ds, γ, μ, j => ⟨hst _ _ _ j, hd d ds γ μ _ j fun γ' μ' j' => forF_by J hst hd hn ds j'⟩
theorem compF_by {stay : Mu → Prop} {turn : DV → List DV → Mu → (List DV → Mu → Prop) → Prop} {k : List DV → Mu → Prop} (J : List DV → List DV → Mu → Prop) (hst : ∀ r acc μ, J r acc μ → stay μ)
    (hd : ∀ d ds acc μ (K : List DV → Mu → Prop), J (d :: ds) acc μ → (∀ acc' μ', J ds acc' μ' → K acc' μ') → turn d acc μ K)
    (hn : ∀ acc μ, J [] acc μ → k acc μ) : ∀ (xs : List DV) {acc : List DV} {μ : Mu}, J xs acc μ → compF stay turn xs acc μ k
  | [], acc, μ, j => ⟨hst _ _ _ j, hn _ _ j⟩
  | d :: ds, acc, μ, j => ⟨hst _ _ _ j, hd d ds acc μ _ j fun acc' μ' j' => compF_by J hst hd hn ds j'⟩
end
end Sr
namespace Sr
open PySem PySem.Spec PyProof.Rows L2
section
variable {μ : Mu} {xs : List DV} {i : Int} {x : Str} {b : Bool}
theorem dl_lst : dl μ (.lst xs) = .lst xs := rfl
theorem dl_rol : dl μ (.rol xs) = .rol xs := rfl
theorem dl_tup : dl μ (.tup xs) = .tup xs := rfl
theorem dl_int : dl μ (.int i) = .int i := rfl
theorem dl_str : dl μ (.str x) = .str x := rfl
theorem dl_bl : dl μ (.bl b) = .bl b := rfl
theorem dl_non : dl μ .non = .non := rfl
theorem dl_ref {a : Addr} (h : μ a = some (.lst xs)) : dl μ (.ref a) = .lst xs := by simp only [dl, h]
theorem okD_ints {zs : List Int} : okD (.lst (zs.map DV.int)) := okD_of 1 (by
  simp only [cmpOk]
  induction zs with
  | nil => rfl
  | cons z zs ih => simp [cmpOks, cmpOk, ih]) (by decide)
theorem okD_nil : okD (.lst []) := okD_of 1 rfl (by decide)
theorem eqv_nil : eqvDs xs [] = xs.isEmpty := by cases xs <;> rfl
theorem atI_map_last {zs : List Int} {z : Int} : atI ((zs ++ [z]).map DV.int) (-1) = some (.int z) := by
  rw [List.map_append]; exact atI_last
end
end Sr
namespace Sr
open PySem PySem.Spec PyProof.Rows L2
theorem lit_inj {a b : String} : (Str.ofString a = Str.ofString b) = (a = b) := by
  refine propext ⟨fun h => ?_, fun h => by rw [h]⟩
  rw [Str.ofString_eq_toList, Str.ofString_eq_toList] at h
  have h : (a.toList.map Char.toNat).toArray = (b.toList.map Char.toNat).toArray := congrArg Str.cps h
  have h := congrArg Array.toList h
  rw [List.toList_toArray, List.toList_toArray] at h
  have inj : ∀ {l m : List Char}, l.map Char.toNat = m.map Char.toNat → l = m := by
    intro l
    induction l with
    | nil => intro m h; cases m with
      | nil => rfl
      | cons _ _ => cases h
    | cons c l ih => intro m h; cases m with
      | nil => cases h
      | cons e m =>
        rw [List.map_cons, List.map_cons, List.cons.injEq] at h
        rw [ih h.2, Char.ext (UInt32.toNat_inj.mp h.1)]
  exact String.toList_inj.mp (inj h)
theorem strOk_lit {a : String} : PyData.strOk (Str.ofString a) = true := by
  rw [Str.ofString_eq_toList]
  show (Array.all _ _) = true
  rw [Array.all_eq_true]
  intro i hi
  simp only [List.getElem_toArray, List.getElem_map, decide_eq_true_eq]
  generalize (a.toList[i]'_) = c
  have := c.valid
  rcases this with h | ⟨_, h⟩
  · exact Nat.lt_of_lt_of_le h (by decide)
  · exact h
theorem ok_lit {a : String} : okD (.str (Str.ofString a)) = True := eq_true (by rw [okD_str]; exact strOk_lit)
theorem atI_m1a {α : Type} {x : α} : atI [x] (-1) = some x := atI_last (xs := [])
theorem atI_m1b {α : Type} {x y : α} : atI [x, y] (-1) = some y := atI_last (xs := [x])
theorem atI_m1c {α : Type} {x y z : α} : atI [x, y, z] (-1) = some z := atI_last (xs := [x, y])
theorem atI_m1d {α : Type} {x y z w : α} : atI [x, y, z, w] (-1) = some w := atI_last (xs := [x, y, z])
theorem atI_m1e {α : Type} {x y z w v : α} : atI [x, y, z, w, v] (-1) = some v := atI_last (xs := [x, y, z, w])
section
variable {d e : DV} {μ : Mu} {P : DV → Mu → Prop} {x : Str} {xs : List DV}
theorem fl_all : List.all xs (fun x => (fl x).isSome) = true → True := fun _ => trivial
theorem o_innL : o2W .inn (.str x) (.lst xs) μ P = (xs.all (fun x => (fl x).isSome) = true ∧ P (.bl (inD (.str x) xs)) μ) := by
  refine propext ⟨fun ⟨ys, e, _, _, h1, h2⟩ => ?_, fun ⟨h1, h2⟩ => ⟨xs, rfl, rfl, rfl, h1, h2⟩⟩
  cases e; exact ⟨h1, h2⟩
theorem o_ninL : o2W .nin (.str x) (.lst xs) μ P = (xs.all (fun x => (fl x).isSome) = true ∧ P (.bl (!inD (.str x) xs)) μ) := by
  refine propext ⟨fun ⟨ys, e, _, _, h1, h2⟩ => ?_, fun ⟨h1, h2⟩ => ⟨xs, rfl, rfl, rfl, h1, h2⟩⟩
  cases e; exact ⟨h1, h2⟩
theorem inD_nil : inD d [] = false := rfl
theorem inD_cons : inD d (e :: xs) = (eqvD e d || inD d xs) := rfl
theorem flS : (fl (.str x)).isSome = true := rfl
theorem flI {i : Int} : (fl (.int i)).isSome = true := rfl
end
end Sr
namespace Sr
open PySem PySem.Spec PyProof.Rows L2
section
variable {stay : Mu → Prop} {turn : DV → List DV → Mu → (List DV → Mu → Prop) → Prop} {k : List DV → Mu → Prop} {μ : Mu} {acc : List DV} {α : Type}
/-- a comprehension that changes nothing -/
theorem compF_pure (g : α → Option DV) {em : α → DV} : ∀ {ys : List α} {acc : List DV}, stay μ → acc.length + ys.length ≤ sizeLine →
    (∀ y ∈ ys, ∀ (acc : List DV) (k : List DV → Mu → Prop), acc.length < sizeLine → (match g y with | some d => k (acc ++ [d]) μ | none => k acc μ) → turn (em y) acc μ k) → k (acc ++ ys.filterMap g) μ → compF stay turn (ys.map em) acc μ k
  | [], acc, hs, hl, ht, h => ⟨hs, by simpa using h⟩
  | y :: ys, acc, hs, hl, ht, h => by
    refine ⟨hs, ht y List.mem_cons_self acc _ (by rw [List.length_cons] at hl; omega) ?_⟩
    rw [List.filterMap_cons] at h
    cases e : g y with
    | none =>
      rw [e] at h
      exact compF_pure g hs (by rw [List.length_cons] at hl; omega) (fun z hz => ht z (List.mem_cons_of_mem _ hz)) h
    | some d =>
      rw [e] at h
      refine compF_pure g hs (by rw [List.length_append, List.length_singleton]; rw [List.length_cons] at hl; omega) (fun z hz => ht z (List.mem_cons_of_mem _ hz)) ?_
      rw [List.append_assoc]; exact h
theorem compF_map (g : α → DV) {em : α → DV} {ys : List α} (hs : stay μ) (hl : acc.length + ys.length ≤ sizeLine)
    (ht : ∀ y ∈ ys, ∀ (acc : List DV) (k : List DV → Mu → Prop), acc.length < sizeLine → k (acc ++ [g y]) μ → turn (em y) acc μ k) (h : k (acc ++ ys.map g) μ) : compF stay turn (ys.map em) acc μ k := by
  refine compF_pure (fun y => some (g y)) hs hl ht ?_
  rw [show (fun y => some (g y)) = some ∘ g from rfl, List.filterMap_eq_map]
  exact h
theorem map_id' {xs : List DV} : xs.map (fun d => d) = xs := by simp
end
end Sr
namespace Sr
open PySem PySem.Spec PyProof.Rows L2
section
variable {μ : Mu} {xs : List DV}
theorem sq_l : sq μ (.lst xs) = some xs := rfl
theorem sq_r : sq μ (.rol xs) = some xs := rfl
theorem sq_t : sq μ (.tup xs) = some xs := rfl
theorem sq_o {a : Addr} (h : μ a = some (.lst xs)) : sq μ (.ref a) = some xs := by simp only [sq, h]
theorem lc_l : lc μ (.lst xs) = some xs := rfl
theorem lc_o {a : Addr} (h : μ a = some (.lst xs)) : lc μ (.ref a) = some xs := by simp only [lc, h]
theorem intsD_map : ∀ {zs : List Int}, intsD (zs.map DV.int) = some zs
  | [] => rfl
  | z :: zs => by
    show (intsD (zs.map DV.int)).map (z :: ·) = _
    rw [intsD_map]; rfl
theorem strsD_map : ∀ {zs : List Str}, strsD (zs.map DV.str) = some zs
  | [] => rfl
  | z :: zs => by
    show (strsD (zs.map DV.str)).map (z :: ·) = _
    rw [strsD_map]; rfl
theorem blsD_map : ∀ {zs : List Bool}, blsD (zs.map DV.bl) = some zs
  | [] => rfl
  | z :: zs => by
    show (blsD (zs.map DV.bl)).map (z :: ·) = _
    rw [blsD_map]; rfl
theorem lst_tup {t : List DV} : (DV.lst xs ≠ DV.tup t) = True := eq_true (fun h => by cases h)
end
end Sr
namespace Sr
open PySem PySem.Spec PyProof.Rows L2
theorem atN_0 {α : Type} {xs : List α} : atI xs 0 = xs[0]? := atI_lit (n := 0)
theorem atN_1 {α : Type} {xs : List α} : atI xs 1 = xs[1]? := atI_lit (n := 1)
theorem atN_2 {α : Type} {xs : List α} : atI xs 2 = xs[2]? := atI_lit (n := 2)
theorem atN_3 {α : Type} {xs : List α} : atI xs 3 = xs[3]? := atI_lit (n := 3)
theorem atN_4 {α : Type} {xs : List α} : atI xs 4 = xs[4]? := atI_lit (n := 4)
theorem atN_5 {α : Type} {xs : List α} : atI xs 5 = xs[5]? := atI_lit (n := 5)
theorem atN_6 {α : Type} {xs : List α} : atI xs 6 = xs[6]? := atI_lit (n := 6)
theorem atN_7 {α : Type} {xs : List α} : atI xs 7 = xs[7]? := atI_lit (n := 7)
theorem atN_8 {α : Type} {xs : List α} : atI xs 8 = xs[8]? := atI_lit (n := 8)
theorem atN_9 {α : Type} {xs : List α} : atI xs 9 = xs[9]? := atI_lit (n := 9)
theorem atN_10 {α : Type} {xs : List α} : atI xs 10 = xs[10]? := atI_lit (n := 10)
theorem atN_11 {α : Type} {xs : List α} : atI xs 11 = xs[11]? := atI_lit (n := 11)
theorem atN_12 {α : Type} {xs : List α} : atI xs 12 = xs[12]? := atI_lit (n := 12)
theorem atN_13 {α : Type} {xs : List α} : atI xs 13 = xs[13]? := atI_lit (n := 13)
theorem atN_14 {α : Type} {xs : List α} : atI xs 14 = xs[14]? := atI_lit (n := 14)
theorem atN_15 {α : Type} {xs : List α} : atI xs 15 = xs[15]? := atI_lit (n := 15)
theorem range_get {xs : List DV} : ∀ {n : Nat}, n ≤ xs.length → (List.range n).map (fun k => xs.getD k .non) = xs.take n := fun {n} h => by
  apply List.ext_getElem
  · simp; omega
  · intro i h1 h2
    simp at h1 h2
    simp [List.getD_eq_getElem?_getD, List.getElem?_eq_getElem (show i < xs.length by omega)]
end Sr
namespace Sr
def Ss.drop : Nat → Ss → Ss
  | 0, s => s
  | _ + 1, .nil => .nil
  | n + 1, .cons _ ss => ss.drop n
end Sr

set_option Elab.async false
set_option linter.all false
set_option maxRecDepth 100000
set_option autoImplicit false
/-! Plain helps. -/
namespace Sr
open PySem PySem.Spec PyProof.Rows L2

theorem mulW_of {i j : Int} (n m : Nat) (h1 : i.natAbs < 2 ^ n) (h2 : j.natAbs < 2 ^ m) (h : n + m < 1000000) : CMulW i j := by
  have g : ∀ (x k : Nat), x < 2 ^ k → x.log2 ≤ k := fun x k hx => by
    by_cases h0 : x = 0
    · subst h0; rw [show Nat.log2 0 = 0 by decide]; exact Nat.zero_le _
    · exact Nat.le_of_lt ((Nat.log2_lt h0).mpr hx)
  have := g _ _ h1
  have := g _ _ h2
  show i.natAbs.log2 + j.natAbs.log2 < 1000000
  omega
theorem line_100 {n : Nat} (h : n ≤ 1000) : n ≤ sizeLine := by rw [sizeLine_eq]; omega
/-- two rows, item by item -/
inductive A2 {α β : Type} (R : α → β → Prop) : List α → List β → Prop
  | nil : A2 R [] []
  | cons {a : α} {b : β} {as : List α} {bs : List β} : R a b → A2 R as bs → A2 R (a :: as) (b :: bs)
theorem A2.take {α β : Type} {R : α → β → Prop} : ∀ {as : List α} {bs : List β} (n : Nat), A2 R as bs → A2 R (as.take n) (bs.take n)
  | _, _, 0, _ => .nil
  | _, _, n + 1, .nil => .nil
  | _, _, n + 1, .cons h t => .cons h (t.take n)
theorem A2.app {α β : Type} {R : α → β → Prop} : ∀ {as as2 : List α} {bs bs2 : List β}, A2 R as bs → A2 R as2 bs2 → A2 R (as ++ as2) (bs ++ bs2)
  | _, _, _, _, .nil, k => k
  | _, _, _, _, .cons h t, k => .cons h (t.app k)
theorem A2.imp {α β : Type} {R R' : α → β → Prop} (f : ∀ a b, R a b → R' a b) : ∀ {as : List α} {bs : List β}, A2 R as bs → A2 R' as bs
  | _, _, .nil => .nil
  | _, _, .cons h t => .cons (f _ _ h) (t.imp f)
theorem A2.len {α β : Type} {R : α → β → Prop} : ∀ {as : List α} {bs : List β}, A2 R as bs → as.length = bs.length
  | _, _, .nil => rfl
  | _, _, .cons h t => by rw [List.length_cons, List.length_cons, t.len]
theorem A2.mem {α β : Type} {R : α → β → Prop} {a : α} : ∀ {as : List α} {bs : List β}, A2 R as bs → a ∈ as → ∃ b, R a b
  | _, _, .nil, h => by cases h
  | _, _, .cons r t, h => by
    rcases List.mem_cons.mp h with z | z
    · subst z; exact ⟨_, r⟩
    · exact t.mem z
theorem cut_drop {α : Type} {f : α → DV} {ns : List α} {i : Nat} : cutD (ns.map f) (some (i : Int)) none = (ns.drop i).map f := by
  unfold cutD
  rw [HT.sIx_nat, HT.sIx_none, List.map_drop, List.length_map]
  by_cases h : i ≤ ns.length
  · rw [Nat.min_eq_left h, List.take_of_length_le (by simp)]
  · rw [Nat.min_eq_right (by omega), List.drop_of_length_le (show (ns.map f).length ≤ i by rw [List.length_map]; omega)]
    simp
theorem cut_take {α : Type} {f : α → DV} {ns : List α} {i : Nat} : cutD (ns.map f) none (some (i : Int)) = (ns.take i).map f := by
  unfold cutD
  rw [HT.sIx_nat, HT.sIx_none, List.map_take, List.length_map, List.drop_zero, Nat.sub_zero]
  by_cases h : i ≤ ns.length
  · rw [Nat.min_eq_left h]
  · rw [Nat.min_eq_right (by omega), List.take_of_length_le (by simp), List.take_of_length_le (by rw [List.length_map]; omega)]
/-- nothing but these two is changed -/
def Oth (r g : Addr) (μ μ' : Mu) : Prop := ∀ a, a ≠ r → a ≠ g → μ' a = μ a
theorem Oth.refl {r g : Addr} {μ : Mu} : Oth r g μ μ := fun _ _ _ => rfl
theorem Oth.trans {r g : Addr} {μ μ1 μ2 : Mu} (h : Oth r g μ μ1) (k : Oth r g μ1 μ2) : Oth r g μ μ2 := fun a h1 h2 => (k a h1 h2).trans (h a h1 h2)
/-- a range, walked -/
theorem rngD_mem {lo : Int} {n : Nat} {d : DV} (h : d ∈ rngD lo n) : ∃ i : Nat, i < n ∧ d = .int (lo + i) := by
  unfold rngD at h
  obtain ⟨i, hi, rfl⟩ := List.mem_map.mp h
  exact ⟨i, List.mem_range.mp hi, rfl⟩
theorem rngD_length {lo : Int} {n : Nat} : (rngD lo n).length = n := by unfold rngD; rw [List.length_map, List.length_range]
end Sr

set_option Elab.async false
set_option linter.all false
set_option maxRecDepth 100000
set_option autoImplicit false
/-! The tray that draws come from. -/
local macro_rules
  | `(tactic| walk_at $s:str) => do
    let x := s.getString.splitOn " "
    let w := x.headD ""
    if w != "ws" && w != "wgo" && w != "wx" && w != "wxo" then Lean.Macro.throwUnsupported
    let base : List Lean.Name := [`wS, `wE, `wEs, `wT, `wTs, `wI, `wG, `wGs, `gs0, `gsS, `asB, `asI, `o_eq, `o_ne, `o_addI, `o_addS, `o_addT, `o_addL, `o_sub, `o_mul, `o_fdiv, `o_mod, `o_pow, `o_lt, `o_le, `o_gt, `o_ge, `o_isN, `o_notN, `o_ixS, `o_ixT, `o_ixL, `o_ixR, `o_ixO, `atN_0, `atN_1, `atN_2, `atN_3, `atN_4, `atN_5, `atN_6, `atN_7, `atN_8, `atN_9, `atN_10, `atN_11, `atN_12, `atN_13, `atN_14, `atN_15, `List.getElem?_cons_succ, `List.getElem?_cons_zero, `mut_is, `newF, `newT, `setW_is, `bmW, `bmT, `bfW, `slB, `slW, `sq_l, `sq_r, `sq_t, `lc_l, `lst_tup, `implies_true, `intsD_map, `strsD_map, `blsD_map, `List.set_cons_zero, `List.set_cons_succ, `if_true, `if_false, `Bool.false_eq_true, `Bool.true_eq_false, `Option.some.injEq, `MO.lst.injEq, `DV.ref.injEq, `DV.int.injEq, `DV.str.injEq, `DV.lst.injEq, `DV.tup.injEq, `exists_eq_left', `exists_eq_left, `exists_eq', `exists_eq, `exists_and_left, `true_and, `and_true, `dl_lst, `dl_tup, `dl_int, `dl_str, `dl_bl, `dl_non, `dl_rol, `okD_int, `okD_bl, `okD_non, `okD_str, `eqv_ss, `eqv_ii, `eqv_nn, `eqv_bb, `eqv_ll, `eqv_tt, `eqvDs_nil, `eqvDs_cons, `eqvDs_cn, `eqvDs_nc, `lit_inj, `strOk_lit, `atI_m1a, `atI_m1b, `atI_m1c, `atI_m1d, `atI_m1e, `o_innL, `o_ninL, `inD_nil, `inD_cons, `flS, `flI, `List.all_cons, `List.all_nil, `Bool.and_true, `Bool.and_self, `Bool.or_false, `Bool.or_true, `Bool.true_or, `Bool.false_or, `decide_true, `decide_false, `reduceIte, `String.reduceEq, `Gs.len, `midD, `List.length_cons, `List.length_nil, `List.take_succ_cons, `List.take_zero, `List.take_nil, `List.drop_zero, `List.drop_succ_cons, `List.drop_nil, `List.nil_append, `List.cons_append, `List.getD_cons_zero, `List.map_cons, `List.map_nil, `Nat.zero_add, `Nat.add_zero, `Nat.reduceAdd, `Nat.reduceLeDiff, `Nat.reduceSub, `Int.reduceSub, `Int.reduceAdd, `Int.reduceMul, `Int.reduceLT, `Int.reduceLE, `Bool.not_eq_true', `Bool.not_true, `Bool.not_false, `Bool.not_not, `decide_eq_true_eq, `isNon, `tyD, `isT, `upm_same]
    let more : List Lean.Name := if w == "ws" || w == "wgo" then [] else [`wFs, `fmtW, `emp_app, `Int.cast_ofNat_Int, `Int.reduceEq, `Int.reduceNeg, `eq_self, `Nat.reduceEqDiff, `Int.reduceToNat, `Option.isSome_some, `Option.isSome_none, `List.length_map]
    let ids := (base ++ more ++ (x.drop 1).map String.toName).toArray.map Lean.mkIdent
    let ls ← ids.mapM fun i => `(Lean.Parser.Tactic.simpLemma| $i:ident)
    let t ← `(tactic| simp -implicitDefEqProofs only [$ls,*])
    if w == "ws" || w == "wx" then pure t
    else `(tactic| repeat (first | (with_reducible refine Sr.st ?_) | (with_reducible refine Sr.sn ?_) | ($t:tactic)))
namespace Sr
open PySem PySem.Spec PyProof.Rows L2
def sd__law_draw_d94d : SD := ⟨["_law_tray_here", "_law_many", "_law_mixed", "_law_found"], ["_law_tray_here", "_law_many"],
  (.cons (.while_ (.and_ (.cmp .lt (.op .ix (.var 0) (.int 1)) (.int 2)) (.cmp .ne (.op .ix (.var 0) (.int 0)) (.lst false .nil))) (.cons (.asg (.ix (.var 0) (.int 1)) (.bm .popAt (.op .ix (.var 0) (.int 0)) (.cons (.int 0) .nil))) .nil))
  (.cons (.ite (.cmp .ge (.op .ix (.var 0) (.int 1)) (.int 2)) (.cons (.asg (.var 3) (.op .mod (.op .ix (.var 0) (.int 1)) (.var 1))) (.cons (.asg (.ix (.var 0) (.int 1)) (.op .fdiv (.op .ix (.var 0) (.int 1)) (.var 1))) (.cons (.ret (.var 3)) .nil))) .nil)
  (.cons (.asg (.ix (.var 0) (.int 3)) (.op (.add false) (.op .ix (.var 0) (.int 3)) (.int 1)))
  (.cons (.asg (.var 2) (.op .mod (.op (.add false) (.op .mul (.op (.add false) (.op .ix (.var 0) (.int 2)) (.int 5)) (.op .pow (.op (.add false) (.op .ix (.var 0) (.int 3)) (.int 2)) (.int 3))) (.op .mul (.int 1000003) (.op .ix (.var 0) (.int 3)))) (.op .sub (.op .pow (.int 2) (.int 61)) (.int 1))))
  (.cons (.ret (.op .mod (.op .fdiv (.op .mod (.op .pow (.var 2) (.int 5)) (.op (.add false) (.op .pow (.int 10) (.int 18)) (.int 9))) (.int 64)) (.var 1))) .nil)))))⟩
/-- a tray: r itself, g its great cells; so many draws at most were made -/
structure Tray (n : Nat) (μ : Mu) (r g : Addr) : Prop where
  ne : r ≠ g
  ex : ∃ (zs : List Int) (lft fold cnt : Int), μ r = some (.lst [.ref g, .int lft, .int fold, .int cnt]) ∧ μ g = some (.lst (zs.map DV.int)) ∧ 0 ≤ fold ∧ fold < 2 ^ 61 ∧ 0 ≤ cnt ∧ cnt ≤ n
theorem Tray.mono {n m : Nat} {μ : Mu} {r g : Addr} (D : Tray n μ r g) (h : n ≤ m) : Tray m μ r g := by
  obtain ⟨ne, zs, l, f, c, h1, h2, h3, h4, h5, h6⟩ := D
  exact ⟨ne, zs, l, f, c, h1, h2, h3, h4, h5, by omega⟩
theorem Tray.rs {n : Nat} {μ : Mu} {r g a : Addr} (D : Tray n μ r g) (h : μ a = none) : a ≠ r ∧ a ≠ g := by
  obtain ⟨ne, zs, l, f, c, h1, h2, _⟩ := D
  exact ⟨fun z => (by rw [z, h1] at h; cases h), fun z => (by rw [z, h2] at h; cases h)⟩
theorem seqIx0 {n : Nat} : seqIndex? 0 (n + 1) = some 0 := by
  unfold seqIndex?
  simp
theorem draw_ok {p : Pgm} {k n : Nat} {μ : Mu} {r g : Addr} {many : Int} {P : DV → Mu → Prop} {X : XP} (hp : Has p "_law_draw" sd__law_draw_d94d) (D : Tray n μ r g) (hm : 0 < many) (hm2 : many.natAbs.log2 < 9000) (hn : n < 2 ^ 60)
    (h : ∀ v μ', 0 ≤ v → v < many → Tray (n + 1) μ' r g → Oth r g μ μ' → P (.int v) μ') : fnS p (k + 1) "_law_draw" [.ref r, .int many] μ P X := by
  refine fn_in hp rfl ?_
  obtain ⟨ne, zs, lft, fold, cnt, h1, h2, h3, h4, h5, h6⟩ := D
  show wSs _ _ sd__law_draw_d94d.s [some (.ref r), some (.int many), none, none] μ _
  unfold sd__law_draw_d94d
  refine st ?_
  refine while_ok (fun m γ μ' => γ = [some (.ref r), some (.int many), none, none] ∧ ∃ (zs : List Int) (l : Int), m = zs.length ∧ μ' r = some (.lst [.ref g, .int l, .int fold, .int cnt]) ∧ μ' g = some (.lst (zs.map DV.int)) ∧ Oth r g μ μ') zs.length ⟨rfl, zs, lft, rfl, h1, h2, fun _ _ _ => rfl⟩ ?_
  rintro m γ μ1 ⟨rfl, zs1, l1, rfl, e1, e2, ot⟩
  have up1 : ∀ (o : MO), upm μ1 g o r = μ1 r := fun o => upm_ne ne
  have fin : ∀ {D : DEnds}, D.rt = P → wSs ⟨fnS p k, gvD p.gvs⟩ (fun cls fs _ μ' => X cls fs μ')
      (.cons (.ite (.cmp .ge (.op .ix (.var 0) (.int 1)) (.int 2)) (.cons (.asg (.var 3) (.op .mod (.op .ix (.var 0) (.int 1)) (.var 1))) (.cons (.asg (.ix (.var 0) (.int 1)) (.op .fdiv (.op .ix (.var 0) (.int 1)) (.var 1))) (.cons (.ret (.var 3)) .nil))) .nil)
      (.cons (.asg (.ix (.var 0) (.int 3)) (.op (.add false) (.op .ix (.var 0) (.int 3)) (.int 1)))
      (.cons (.asg (.var 2) (.op .mod (.op (.add false) (.op .mul (.op (.add false) (.op .ix (.var 0) (.int 2)) (.int 5)) (.op .pow (.op (.add false) (.op .ix (.var 0) (.int 3)) (.int 2)) (.int 3))) (.op .mul (.int 1000003) (.op .ix (.var 0) (.int 3)))) (.op .sub (.op .pow (.int 2) (.int 61)) (.int 1))))
      (.cons (.ret (.op .mod (.op .fdiv (.op .mod (.op .pow (.var 2) (.int 5)) (.op (.add false) (.op .pow (.int 10) (.int 18)) (.int 9))) (.int 64)) (.var 1))) .nil))))
      [some (.ref r), some (.int many), none, none] μ1 D := fun {D} hD => by
    refine st ?_
    walk_at "ws e1"
    by_cases hl : 2 ≤ l1
    · rw [if_pos hl]
      refine st ?_
      walk_at "ws e1"
      refine ⟨hm, st ?_⟩
      walk_at "ws e1"
      refine ⟨⟨hm, hm2⟩, ⟨1, rfl, st ?_⟩⟩
      walk_at "ws"
      rw [hD]
      refine h _ _ (Int.emod_nonneg _ (by omega)) (Int.emod_lt_of_pos _ hm) ⟨ne, zs1, l1 / many, fold, cnt, upm_same, ?_, h3, h4, h5, by omega⟩ fun a h1 h2 => ?_
      · rw [upm_ne (Ne.symm ne)]; exact e2
      · rw [upm_ne h1]; exact ot a h1 h2
    · rw [if_neg hl]
      refine sn (st ?_)
      walk_at "ws e1"
      refine ⟨3, rfl, st ?_⟩
      walk_at "ws"
      have c1 : CPow (cnt + 1 + 2) 3 := ⟨by decide, by decide, by omega⟩
      have c2 : CMulW (fold + 5) ((cnt + 1 + 2) ^ (3 : Int).toNat) := by
        refine mulW_of 62 200 (by omega) ?_ (by decide)
        rw [show (3 : Int).toNat = 3 from rfl, Int.natAbs_pow]
        exact Nat.lt_of_lt_of_le (Nat.pow_lt_pow_left (show (cnt + 1 + 2).natAbs < 2 ^ 61 by omega) (by decide)) (by decide)
      have c3 : CMulW 1000003 (cnt + 1) := mulW_of 20 62 (by decide) (by omega) (by decide)
      have c4 : CPow 2 61 := ⟨by decide, by decide, by decide⟩
      have hM : (0 : Int) < 2 ^ (61 : Int).toNat - 1 := by decide
      refine ⟨c1, c2, c3, c4, hM, st ?_⟩
      walk_at "ws"
      have a1 := Int.emod_nonneg ((fold + 5) * (cnt + 1 + 2) ^ (3 : Int).toNat + 1000003 * (cnt + 1)) (show (2 : Int) ^ (61 : Int).toNat - 1 ≠ 0 by decide)
      have a2 := Int.emod_lt_of_pos ((fold + 5) * (cnt + 1 + 2) ^ (3 : Int).toNat + 1000003 * (cnt + 1)) hM
      have a3 : (2 : Int) ^ (61 : Int).toNat - 1 = 2305843009213693951 := by decide
      refine ⟨⟨by decide, by decide, by rw [a3] at a1 a2 ⊢; omega⟩, ⟨by decide, by decide, by decide⟩, by decide, ⟨by decide, by decide⟩, hm, ?_⟩
      rw [hD]
      refine h _ _ (Int.emod_nonneg _ (by omega)) (Int.emod_lt_of_pos _ hm) ⟨ne, zs1, l1, fold, cnt + 1, upm_same, ?_, h3, h4, by omega, by omega⟩ fun a h1 h2 => ?_
      · rw [upm_ne (Ne.symm ne)]; exact e2
      · rw [upm_ne h1]; exact ot a h1 h2
  walk_at "ws e1"
  by_cases hl : l1 < 2
  · rw [if_pos hl]
    cases zs1 with
    | nil =>
      simp -implicitDefEqProofs only [wS, wE, wEs, wT, wTs, wI, wG, wGs, gs0, gsS, asB, asI, o_eq, o_ne, o_addI, o_addS, o_addT, o_addL, o_sub, o_mul, o_fdiv, o_mod, o_pow, o_lt, o_le, o_gt, o_ge, o_isN, o_notN, o_ixS, o_ixT, o_ixL, o_ixR, o_ixO, atN_0, atN_1, atN_2, atN_3, atN_4, atN_5, atN_6, atN_7, atN_8, atN_9, atN_10, atN_11, atN_12, atN_13, atN_14, atN_15, List.getElem?_cons_succ, List.getElem?_cons_zero, mut_is, newF, newT, setW_is, bmW, bmT, bfW, slB, slW, sq_l, sq_r, sq_t, lc_l, lst_tup, implies_true, intsD_map, strsD_map, blsD_map, List.set_cons_zero, List.set_cons_succ, if_true, if_false, Bool.false_eq_true, Bool.true_eq_false, Option.some.injEq, MO.lst.injEq, DV.ref.injEq, DV.int.injEq, DV.str.injEq, DV.lst.injEq, DV.tup.injEq, exists_eq_left', exists_eq_left, exists_eq', exists_eq, exists_and_left, true_and, and_true, dl_lst, dl_tup, dl_int, dl_str, dl_bl, dl_non, dl_rol, okD_int, okD_bl, okD_non, okD_str, eqv_ss, eqv_ii, eqv_nn, eqv_bb, eqv_ll, eqv_tt, eqvDs_nil, eqvDs_cons, eqvDs_cn, eqvDs_nc, lit_inj, strOk_lit, atI_m1a, atI_m1b, atI_m1c, atI_m1d, atI_m1e, o_innL, o_ninL, inD_nil, inD_cons, flS, flI, List.all_cons, List.all_nil, Bool.and_true, Bool.and_self, Bool.or_false, Bool.or_true, Bool.true_or, Bool.false_or, decide_true, decide_false, reduceIte, String.reduceEq, Gs.len, midD, List.length_cons, List.length_nil, List.take_succ_cons, List.take_zero, List.take_nil, List.drop_zero, List.drop_succ_cons, List.drop_nil, List.nil_append, List.cons_append, List.getD_cons_zero, List.map_cons, List.map_nil, Nat.zero_add, Nat.add_zero, Nat.reduceAdd, Nat.reduceLeDiff, Nat.reduceSub, Int.reduceSub, Int.reduceAdd, Int.reduceMul, Int.reduceLT, Int.reduceLE, Bool.not_eq_true', Bool.not_true, Bool.not_false, Bool.not_not, decide_eq_true_eq, isNon, tyD, isT, upm_same, dl_ref e2, okD_ints, okD_nil, eqv_nil, List.isEmpty_map, List.isEmpty_nil]
      with_reducible refine fin ?_
      rfl
    | cons z zs1 =>
      simp -implicitDefEqProofs only [wS, wE, wEs, wT, wTs, wI, wG, wGs, gs0, gsS, asB, asI, o_eq, o_ne, o_addI, o_addS, o_addT, o_addL, o_sub, o_mul, o_fdiv, o_mod, o_pow, o_lt, o_le, o_gt, o_ge, o_isN, o_notN, o_ixS, o_ixT, o_ixL, o_ixR, o_ixO, atN_0, atN_1, atN_2, atN_3, atN_4, atN_5, atN_6, atN_7, atN_8, atN_9, atN_10, atN_11, atN_12, atN_13, atN_14, atN_15, List.getElem?_cons_succ, List.getElem?_cons_zero, mut_is, newF, newT, setW_is, bmW, bmT, bfW, slB, slW, sq_l, sq_r, sq_t, lc_l, lst_tup, implies_true, intsD_map, strsD_map, blsD_map, List.set_cons_zero, List.set_cons_succ, if_true, if_false, Bool.false_eq_true, Bool.true_eq_false, Option.some.injEq, MO.lst.injEq, DV.ref.injEq, DV.int.injEq, DV.str.injEq, DV.lst.injEq, DV.tup.injEq, exists_eq_left', exists_eq_left, exists_eq', exists_eq, exists_and_left, true_and, and_true, dl_lst, dl_tup, dl_int, dl_str, dl_bl, dl_non, dl_rol, okD_int, okD_bl, okD_non, okD_str, eqv_ss, eqv_ii, eqv_nn, eqv_bb, eqv_ll, eqv_tt, eqvDs_nil, eqvDs_cons, eqvDs_cn, eqvDs_nc, lit_inj, strOk_lit, atI_m1a, atI_m1b, atI_m1c, atI_m1d, atI_m1e, o_innL, o_ninL, inD_nil, inD_cons, flS, flI, List.all_cons, List.all_nil, Bool.and_true, Bool.and_self, Bool.or_false, Bool.or_true, Bool.true_or, Bool.false_or, decide_true, decide_false, reduceIte, String.reduceEq, Gs.len, midD, List.length_cons, List.length_nil, List.take_succ_cons, List.take_zero, List.take_nil, List.drop_zero, List.drop_succ_cons, List.drop_nil, List.nil_append, List.cons_append, List.getD_cons_zero, List.map_cons, List.map_nil, Nat.zero_add, Nat.add_zero, Nat.reduceAdd, Nat.reduceLeDiff, Nat.reduceSub, Int.reduceSub, Int.reduceAdd, Int.reduceMul, Int.reduceLT, Int.reduceLE, Bool.not_eq_true', Bool.not_true, Bool.not_false, Bool.not_not, decide_eq_true_eq, isNon, tyD, isT, upm_same, dl_ref e2, okD_ints, okD_nil, eqv_nil, List.isEmpty_map, List.isEmpty_cons]
      refine ⟨okD_ints (zs := z :: zs1), st ?_⟩
      walk_at "ws e1 e2 up1 seqIx0 List.eraseIdx_cons_zero"
      refine ⟨by decide, by decide, 1, rfl, sn ⟨zs1.length, Nat.lt_succ_self _, rfl, zs1, rfl, z, upm_same, ?_, fun a h1 h2 => ?_⟩⟩
      · rw [upm_ne (Ne.symm ne), upm_same]
      · rw [upm_ne h1, upm_ne h2]; exact ot a h1 h2
  · rw [if_neg hl]
    with_reducible refine fin ?_
    rfl
end Sr

set_option Elab.async false
set_option linter.all false
set_option maxRecDepth 100000
set_option autoImplicit false
/-! Texts as rows of signs. -/
namespace Sr
open PySem PySem.Spec PyProof.Rows L2

/-- a text's signs -/
abbrev tl (x : Str) : List Nat := x.cps.toList
theorem tl_ext {x y : Str} (h : tl x = tl y) : x = y := by
  cases x with | mk a => cases y with | mk b =>
  have : a = b := Array.ext' h
  rw [this]
theorem tl_app {x y : Str} : tl (x ++ y) = tl x ++ tl y := by
  show (x.cps ++ y.cps).toList = _
  rw [Array.toList_append]
theorem tl_len {x : Str} : x.length = (tl x).length := rfl
theorem tl_sgn {c : Nat} : tl (sgn c) = [c] := rfl
theorem tl_empty : tl (Str.ofString "") = [] := by
  rw [Str.ofString_eq_toList]; rfl
theorem tl_lit {s : String} : tl (Str.ofString s) = s.toList.map Char.toNat := by
  rw [Str.ofString_eq_toList]
theorem tl_cutHi {x : Str} {i : Nat} : tl (cutS x none (some (i : Int))) = (tl x).take i := by
  unfold cutS
  show (List.toArray _).toList = _
  rw [List.toList_toArray, HT.sIx_none, HT.sIx_nat, List.drop_zero, Nat.sub_zero, tl_len]
  by_cases h : i ≤ (tl x).length
  · rw [Nat.min_eq_left h]
  · rw [Nat.min_eq_right (by omega), List.take_of_length_le (Nat.le_refl _), List.take_of_length_le (by omega)]
theorem tl_cutLo {x : Str} {i : Nat} : tl (cutS x (some (i : Int)) none) = (tl x).drop i := by
  unfold cutS
  show (List.toArray _).toList = _
  rw [List.toList_toArray, HT.sIx_none, HT.sIx_nat, tl_len]
  by_cases h : i ≤ (tl x).length
  · rw [Nat.min_eq_left h, List.take_of_length_le (by rw [List.length_drop]; exact Nat.le_refl _)]
  · rw [Nat.min_eq_right (by omega), List.drop_of_length_le (Nat.le_refl _), List.drop_of_length_le (by omega)]
    simp
theorem tl_join {xs : List Str} : tl (Txt.join (Str.ofString "") xs) = (xs.map tl).flatten := by
  have fold : ∀ (ys : List Str) (a : Array Nat), (ys.foldl (fun acc p => acc ++ (Str.ofString "").cps ++ p.cps) a).toList = a.toList ++ (ys.map tl).flatten := by
    intro ys
    induction ys with
    | nil => intro a; simp
    | cons y ys ih =>
      intro a
      rw [List.foldl_cons, ih]
      have e : (Str.ofString "").cps.toList = [] := tl_empty
      simp only [Array.toList_append, e, List.append_nil, List.map_cons, List.flatten_cons, List.append_assoc]
  cases xs with
  | nil => rfl
  | cons x xs =>
    show (List.foldl (fun acc p => acc ++ (Str.ofString "").cps ++ p.cps) x.cps xs).toList = _
    rw [fold]
    rfl
theorem mul3 {c : Nat} : Txt.mul (sgn c) 3 = ⟨#[c, c, c]⟩ := rfl
theorem mul5 {c : Nat} : Txt.mul (sgn c) 5 = ⟨#[c, c, c, c, c]⟩ := rfl
theorem mulOk3 {c : Nat} : PySem.MulOk (sgn c) 3 := mulOk_small (by decide) (by decide) (by show (1 : Nat) ≤ 10000; decide)
theorem mulOk5 {c : Nat} : PySem.MulOk (sgn c) 5 := mulOk_small (by decide) (by decide) (by show (1 : Nat) ≤ 10000; decide)
/-- small letters alone -/
def IsLt (x : Str) : Prop := ∀ c ∈ tl x, 97 ≤ c ∧ c ≤ 122
theorem IsLt.app {x y : Str} (h : IsLt x) (k : IsLt y) : IsLt (x ++ y) := fun c hc => by
  rw [tl_app] at hc
  exact (List.mem_append.mp hc).elim (h c) (k c)
theorem IsLt.sgn {c : Nat} (h : 97 ≤ c ∧ c ≤ 122) : IsLt (sgn c) := fun d hd => by
  rw [tl_sgn, List.mem_singleton] at hd
  subst hd; exact h
theorem IsLt.ok {x : Str} (h : IsLt x) : PyData.strOk x = true := by
  show Array.all _ _ = true
  rw [Array.all_eq_true]
  intro i hi
  have := h x.cps[i] (by simp)
  simp only [decide_eq_true_eq]
  omega
theorem IsLt.hi {x : Str} {i : Nat} (h : IsLt x) : IsLt (cutS x none (some (i : Int))) := fun c hc => by
  rw [tl_cutHi] at hc
  exact h c (List.mem_of_mem_take hc)
theorem IsLt.lo {x : Str} {i : Nat} (h : IsLt x) : IsLt (cutS x (some (i : Int)) none) := fun c hc => by
  rw [tl_cutLo] at hc
  exact h c (List.mem_of_mem_drop hc)
theorem IsLt.lit {s : String} (h : (s.toList.all fun c => decide (97 ≤ c.toNat) && decide (c.toNat ≤ 122)) = true) : IsLt (Str.ofString s) := fun c hc => by
  rw [tl_lit] at hc
  obtain ⟨e, he, rfl⟩ := List.mem_map.mp hc
  have := List.all_eq_true.mp h e he
  simpa using this
/-- a name -/
structure Nm (x : Str) : Prop where
  lt : IsLt x
  ne : x ≠ Str.ofString ""
  le : x.length ≤ 8
  nn : x ≠ Str.ofString "num"
  nt : x ≠ Str.ofString "text"
theorem Nm.ok {x : Str} (h : Nm x) : PyData.strOk x = true := h.lt.ok
theorem abc_tl : tl (Str.ofString "abcdefghijklmnopqrstuvwxyz") = (List.range 26).map (· + 97) := by decide +kernel
theorem abc_at {v : Int} (h0 : 0 ≤ v) (h1 : v < 26) : atI (tl (Str.ofString "abcdefghijklmnopqrstuvwxyz")) v = some (v.toNat + 97) := by
  have e : v = ((v.toNat : Nat) : Int) := by omega
  rw [e, atI_lit, abc_tl, List.getElem?_map, List.getElem?_range (by omega)]
  rfl
theorem inD_strs {x : Str} : ∀ {L : List Str}, inD (.str x) (L.map DV.str) = decide (x ∈ L)
  | [] => rfl
  | y :: L => by
    rw [List.map_cons, inD_cons, inD_strs, eqv_ss]
    by_cases h : y = x
    · subst h; simp
    · have h2 : ¬ x = y := fun z => h z.symm
      simp [h, h2]
theorem fl_strs {L : List Str} : (L.map DV.str).all (fun x => (fl x).isSome) = true := by
  induction L with
  | nil => rfl
  | cons x L ih => rw [List.map_cons, List.all_cons, ih]; rfl
theorem okD_strs {L : List Str} (h : ∀ x ∈ L, PyData.strOk x = true) : okD (.lst (L.map DV.str)) := okD_of 1 (by
  simp only [cmpOk]
  induction L with
  | nil => rfl
  | cons z L ih => simp [cmpOks, cmpOk, ih fun x hx => h x (List.mem_cons_of_mem _ hx), h z List.mem_cons_self]) (by decide)
theorem pigeon {α : Type} [DecidableEq α] : ∀ {L M : List α}, L.Nodup → (∀ x ∈ L, x ∈ M) → L.length ≤ M.length
  | [], M, _, _ => Nat.zero_le _
  | x :: L, M, h, k => by
    rw [List.nodup_cons] at h
    have hx := k x List.mem_cons_self
    have := pigeon (M := M.erase x) h.2 fun y hy => (List.mem_erase_of_ne (fun e => h.1 (by rw [← e]; exact hy))).mpr (k y (List.mem_cons_of_mem _ hy))
    rw [List.length_erase_of_mem hx] at this
    have : 0 < M.length := List.length_pos_of_mem hx
    rw [List.length_cons]; omega
theorem letters_nodup : ((List.range 26).map fun k => sgn (97 + k)).Nodup := by decide +kernel
/-- some letter is not used -/
theorem free_letter {used : List Str} (h : used.length < 26) : ∃ k, k < 26 ∧ sgn (97 + k) ∉ used := by
  apply Classical.byContradiction
  intro hn
  have := pigeon letters_nodup (M := used) fun x hx => by
    obtain ⟨k, hk, rfl⟩ := List.mem_map.mp hx
    apply Classical.byContradiction
    intro z
    exact hn ⟨k, List.mem_range.mp hk, z⟩
  simp at this
  omega
end Sr

set_option Elab.async false
set_option linter.all false
set_option maxRecDepth 100000
set_option autoImplicit false
/-! Names drawn. -/
namespace Sr
open PySem PySem.Spec PyProof.Rows L2
def sd__law_name_f722 : SD := ⟨["_law_tray_here", "_law_used", "_law_letters", "_law_way", "_law_letter", "_law_name_here", "_law_some", "_law_words", "_law_old", "_law_at", "_law_k", "_law_one"], ["_law_tray_here", "_law_used"],
  (.cons (.asg (.var 2) (.str "abcdefghijklmnopqrstuvwxyz"))
  (.cons (.asg (.var 3) (.call "_law_draw" (.cons (.var 0) (.cons (.int 5) .nil))))
  (.cons (.asg (.var 4) (.op .ix (.var 2) (.call "_law_draw" (.cons (.var 0) (.cons (.int 26) .nil)))))
  (.cons (.asg (.var 5) (.bm .join (.str "") (.cons (.comp false [10] (.op .ix (.var 2) (.call "_law_draw" (.cons (.var 0) (.cons (.int 26) .nil)))) (.var 10) (.rng1 (.op (.add false) (.int 1) (.call "_law_draw" (.cons (.var 0) (.cons (.int 8) .nil))))) .nil) .nil)))
  (.cons (.ite (.cmp .eq (.var 3) (.int 4)) (.cons (.asg (.var 7) (.lst false (.cons (.str "under") (.cons (.str "record") (.cons (.str "door") (.cons (.str "choice") (.cons (.str "hidden") (.cons (.str "look") (.cons (.str "one") (.cons (.str "new") (.cons (.str "as") (.cons (.str "ask") (.cons (.str "none") (.cons (.str "ok") .nil)))))))))))))) (.cons (.asg (.var 5) (.op .ix (.var 7) (.call "_law_draw" (.cons (.var 0) (.cons (.int 12) .nil))))) .nil)) (.cons (.ite (.and_ (.cmp .gt (.var 3) (.int 0)) (.cmp .ne (.var 1) (.lst false .nil))) (.cons (.asg (.var 8) (.op .ix (.var 1) (.call "_law_draw" (.cons (.var 0) (.cons (.bf .len (.cons (.var 1) .nil)) .nil))))) (.cons (.asg (.var 9) (.call "_law_draw" (.cons (.var 0) (.cons (.op (.add false) (.bf .len (.cons (.var 8) .nil)) (.int 1)) .nil)))) (.cons (.asg (.var 5) (.sl false (.op (.add false) (.op (.add false) (.sl false (.var 8) .no (.var 9)) (.op .ix (.lst false (.cons (.var 4) (.cons (.var 4) (.cons (.str "") .nil)))) (.op .sub (.var 3) (.int 1)))) (.sl false (.var 8) (.op (.add false) (.var 9) (.op .ix (.lst false (.cons (.int 0) (.cons (.int 1) (.cons (.int 1) .nil)))) (.op .sub (.var 3) (.int 1)))) .no)) .no (.int 8))) .nil))) .nil) .nil))
  (.cons (.asg (.var 6) (.op (.add false) (.op (.add false) (.lst false (.cons (.var 5) .nil)) (.comp false [10] (.op .ix (.var 2) (.var 10)) (.var 10) (.rng1 (.int 26)) .nil)) (.comp false [10] (.op (.add false) (.op .ix (.var 2) (.var 10)) (.op .ix (.var 2) (.op .sub (.int 25) (.var 10)))) (.var 10) (.rng1 (.int 26)) .nil)))
  (.cons (.asg (.var 6) (.op (.add false) (.op (.add false) (.var 6) (.comp false [10] (.op .mul (.op .ix (.var 2) (.var 10)) (.int 3)) (.var 10) (.rng1 (.int 26)) .nil)) (.comp false [10] (.op .mul (.op .ix (.var 2) (.var 10)) (.int 5)) (.var 10) (.rng1 (.int 26)) .nil)))
  (.cons (.ret (.op .ix (.comp false [11] (.var 11) (.var 11) (.seq (.var 6)) (.one (.cmp .nin (.var 11) (.op (.add false) (.var 1) (.lst false (.cons (.str "") (.cons (.str "num") (.cons (.str "text") .nil)))))))) (.int 0))) .nil))))))))⟩
def sd__law_tray_2e3b : SD := ⟨["_law_script", "_law_fold", "_law_great", "_law_cell", "_law_much"], ["_law_script"],
  (.cons (.asg (.var 1) (.int 314159265358979))
  (.cons (.asg (.var 2) (.lst true .nil))
  (.cons (.for_ (.var 3) (.seq (.var 0)) (.cons (.asg (.var 1) (.op .mod (.op (.add false) (.op .mul (.var 1) (.int 1000003)) (.var 3)) (.op .sub (.op .pow (.int 2) (.int 61)) (.int 1)))) (.cons (.asg (.var 4) (.bf .max2 (.cons (.var 3) (.cons (.op .sub (.int 0) (.var 3)) .nil)))) (.cons (.ite (.cmp .ge (.var 4) (.op .pow (.int 10) (.int 18))) (.cons (.expr (.bm .append (.var 2) (.cons (.op .sub (.var 4) (.op .pow (.int 10) (.int 18))) .nil))) .nil) .nil) .nil))))
  (.cons (.ret (.lst true (.cons (.var 2) (.cons (.int 0) (.cons (.var 1) (.cons (.int 0) .nil)))))) .nil))))⟩
theorem tray_ok {p : Pgm} (hq : Has p "_law_tray" sd__law_tray_2e3b) {k : Nat} {μ : Mu} {zs : List Int} {P : DV → Mu → Prop} {X : XP} (hl : zs.length ≤ 63)
    (h : ∀ r g μ', Tray 0 μ' r g → μ r = none → μ g = none → Oth r g μ μ' → P (.ref r) μ') : fnS p (k + 1) "_law_tray" [.rol (zs.map DV.int)] μ P X := by
  refine fn_in hq rfl ?_
  show wSs _ _ sd__law_tray_2e3b.s [some (.rol (zs.map DV.int)), none, none, none, none] μ _
  unfold sd__law_tray_2e3b
  walk_at "wgo"
  intro g hg
  walk_at "wgo"
  have c4 : CPow 2 61 := ⟨by decide, by decide, by decide⟩
  have c5 : CPow 10 18 := ⟨by decide, by decide, by decide⟩
  have hM : (0 : Int) < 2 ^ (61 : Int).toNat - 1 := by decide
  have a3 : (2 : Int) ^ (61 : Int).toNat - 1 = 2305843009213693951 := by decide
  refine forF_by (fun rest γ μ' => ∃ (as bs cs : List Int) (f : Int) (x y : Option DV), γ = [some (.rol (zs.map DV.int)), some (.int f), some (.ref g), x, y] ∧ rest = bs.map DV.int ∧ zs = as ++ bs ∧ cs.length ≤ as.length ∧ 0 ≤ f ∧ f < 2 ^ 61 ∧ μ' g = some (.lst (cs.map DV.int)) ∧ ∀ a, a ≠ g → μ' a = μ a) (fun _ _ _ _ => trivial) ?_ ?_ _
    ⟨[], zs, [], 314159265358979, none, none, rfl, rfl, rfl, by simp, by decide, by decide, upm_same, fun a ha => upm_ne ha⟩
  · rintro d ds γ μ1 N ⟨as, bs, cs, f, x, y, rfl, e1, rfl, hc, f0, f1, hm, ho⟩ nxt
    cases bs with
    | nil => cases e1
    | cons b bs =>
      rw [List.map_cons] at e1
      obtain ⟨rfl, rfl⟩ := List.cons.inj e1
      rw [List.length_append, List.length_cons] at hl
      have f2 := Int.emod_nonneg (f * 1000003 + b) (show (2 : Int) ^ (61 : Int).toNat - 1 ≠ 0 by decide)
      have f3 := Int.emod_lt_of_pos (f * 1000003 + b) hM
      walk_at "wgo"
      refine ⟨mulW_of 61 20 (by omega) (by decide) (by decide), c4, hM, ?_⟩
      walk_at "wgo"
      generalize hab : (if 0 - b > b then 0 - b else b) = ab
      refine ⟨c5, ?_⟩
      by_cases h18 : 10 ^ Int.toNat 18 ≤ ab
      · rw [if_pos h18]
        walk_at "wgo hm"
        refine ⟨c5, line_100 (by rw [List.length_map]; omega), ?_⟩
        refine nxt _ _ ⟨as ++ [b], bs, cs ++ [ab - 10 ^ Int.toNat 18], _, _, _, rfl, rfl, by simp, by simp; omega, f2, by rw [a3] at f3 ⊢; omega, ?_, fun a ha => by rw [upm_ne ha]; exact ho a ha⟩
        rw [upm_same, List.map_append]
        rfl
      · rw [if_neg h18]
        walk_at "wgo"
        exact nxt _ _ ⟨as ++ [b], bs, cs, _, _, _, rfl, rfl, by simp, by simp; omega, f2, by rw [a3] at f3 ⊢; omega, hm, ho⟩
  · rintro γ μ1 ⟨as, bs, cs, f, x, y, rfl, e1, rfl, hc, f0, f1, hm, ho⟩
    walk_at "wgo"
    intro r hr
    have hrg : r ≠ g := fun z => by subst z; rw [hm] at hr; cases hr
    refine h r g _ ⟨hrg, cs, 0, f, 0, upm_same, by rw [upm_ne (Ne.symm hrg)]; exact hm, f0, f1, by decide, by decide⟩ ((ho r hrg).symm.trans hr) hg fun a h1 h2 => ?_
    rw [upm_ne h1]; exact ho a h2
/-- what may be a name, if it is none of those -/
structure Cand (x : Str) : Prop where
  lt : IsLt x
  le : x.length ≤ 8
theorem abc_ok {i : Nat} (h : i < 26) : 97 ≤ i + 97 ∧ i + 97 ≤ 122 := by omega
theorem abc_len : (Str.ofString "abcdefghijklmnopqrstuvwxyz").length ≤ sizeLine := line_100 (by decide)
theorem abc_i {i : Nat} (h : i < 26) : atI (Str.ofString "abcdefghijklmnopqrstuvwxyz").cps.toList (0 + (i : Int)) = some (97 + i) := by
  rw [abc_at (by omega) (by omega), Int.zero_add, Int.toNat_natCast, Nat.add_comm]
theorem abc_r {i : Nat} (h : i < 26) : atI (Str.ofString "abcdefghijklmnopqrstuvwxyz").cps.toList (25 - (0 + (i : Int))) = some (97 + (25 - i)) := by
  rw [abc_at (by omega) (by omega)]
  congr 1; omega
theorem Cand.ok {x : Str} (h : Cand x) : PyData.strOk x = true := h.lt.ok
theorem cand1 {c : Nat} (h : 97 ≤ c ∧ c ≤ 122) : Cand (sgn c) := ⟨.sgn h, by show (1 : Nat) ≤ 8; decide⟩
theorem cand2 {c d : Nat} (h : 97 ≤ c ∧ c ≤ 122) (h2 : 97 ≤ d ∧ d ≤ 122) : Cand (sgn c ++ sgn d) := ⟨(IsLt.sgn h).app (.sgn h2), by show (2 : Nat) ≤ 8; decide⟩
theorem cand3 {c : Nat} (h : 97 ≤ c ∧ c ≤ 122) : Cand ⟨#[c, c, c]⟩ := ⟨fun d hd => by
  have hd : d ∈ [c, c, c] := hd
  simp at hd; subst hd; exact h, by show (3 : Nat) ≤ 8; decide⟩
theorem cand5 {c : Nat} (h : 97 ≤ c ∧ c ≤ 122) : Cand ⟨#[c, c, c, c, c]⟩ := ⟨fun d hd => by
  have hd : d ∈ [c, c, c, c, c] := hd
  simp at hd; subst hd; exact h, by show (5 : Nat) ≤ 8; decide⟩
theorem r26 {stay : Mu → Prop} {turn : DV → List DV → Mu → (List DV → Mu → Prop) → Prop} {k : List DV → Mu → Prop} {μ : Mu} (g : Nat → DV) (hs : stay μ)
    (ht : ∀ i, i < 26 → ∀ (acc : List DV) (k : List DV → Mu → Prop), acc.length < sizeLine → k (acc ++ [g i]) μ → turn (.int (0 + (i : Int))) acc μ k) (h : k ((List.range 26).map g) μ) : compF stay turn (rngD 0 (Int.toNat 26)) [] μ k := by
  change compF stay turn ((List.range 26).map fun (i : Nat) => DV.int (0 + i)) [] μ k
  exact compF_map g hs (line_100 (by decide)) (fun i hi => ht i (List.mem_range.mp hi)) (by rw [List.nil_append]; exact h)
theorem first_of {bad : List Str} : ∀ {L : List Str}, (∃ y ∈ L, y ∉ bad) → ∃ z, (L.filterMap fun y => if y ∈ bad then none else some (DV.str y))[0]? = some (.str z) ∧ z ∈ L ∧ z ∉ bad
  | [], ⟨_, h, _⟩ => by cases h
  | x :: L, ⟨y, hy, hb⟩ => by
    by_cases hx : x ∈ bad
    · rw [List.filterMap_cons_none (by simp [hx])]
      rcases List.mem_cons.mp hy with e | e
      · subst e; exact absurd hx hb
      · obtain ⟨z, h1, h2, h3⟩ := first_of ⟨y, e, hb⟩
        exact ⟨z, h1, List.mem_cons_of_mem _ h2, h3⟩
    · rw [List.filterMap_cons_some (by simp [hx]; rfl)]
      exact ⟨x, rfl, List.mem_cons_self, hx⟩
theorem sgn_lit {c : Nat} {s : String} (h : s.toList.length ≠ 1) : sgn c ≠ Str.ofString s := fun e => by
  have := congrArg (fun x : Str => (tl x).length) e
  rw [tl_lit] at this
  simp [tl_sgn] at this
  exact h this.symm
theorem tl_empty_len : (Str.ofString "").length = 0 := by rw [tl_len, tl_empty]; rfl
theorem len_app {x y : Str} : (x ++ y).length = x.length + y.length := by rw [tl_len, tl_app, List.length_append]; rfl
theorem len_hi {x : Str} {i : Nat} : (cutS x none (some (i : Int))).length ≤ x.length := by rw [tl_len, tl_cutHi, List.length_take, tl_len]; omega
theorem len_lo {x : Str} {i : Nat} : (cutS x (some (i : Int)) none).length ≤ x.length := by rw [tl_len, tl_cutLo, List.length_drop, tl_len]; omega
theorem edit_ok {x s : Str} {a b : Nat} (hx : IsLt x) (hs : IsLt s) : Cand (cutS (cutS x none (some (a : Int)) ++ s ++ cutS x (some (b : Int)) none) none (some 8)) := by
  refine ⟨(((hx.hi).app hs).app hx.lo).hi (i := 8), ?_⟩
  have := tl_cutHi (x := cutS x none (some (a : Int)) ++ s ++ cutS x (some (b : Int)) none) (i := 8)
  rw [tl_len]
  rw [show ((8 : Nat) : Int) = 8 from rfl] at this
  rw [this, List.length_take]
  omega
theorem edit_len {x s : Str} {a b : Nat} (hx : x.length ≤ 8) (hs : s.length ≤ 1) : (cutS x none (some (a : Int))).length + s.length ≤ sizeLine ∧ x.length ≤ sizeLine ∧ (cutS x none (some (a : Int)) ++ s).length + (cutS x (some (b : Int)) none).length ≤ sizeLine ∧ (cutS x none (some (a : Int)) ++ s ++ cutS x (some (b : Int)) none).length ≤ sizeLine := by
  have h1 := len_hi (x := x) (i := a)
  have h2 := len_lo (x := x) (i := b)
  simp only [len_app]
  exact ⟨line_100 (by omega), line_100 (by omega), line_100 (by omega), line_100 (by omega)⟩
theorem sgn_len {c : Nat} : (sgn c).length = 1 := rfl
theorem sizeLine_gt {n : Nat} (h : n < 1000) : n < sizeLine := by rw [sizeLine_eq]; omega
theorem sum_ones {α : Type} {xs : List α} : (xs.map fun _ => 1).sum = xs.length := by
  induction xs with
  | nil => rfl
  | cons x xs ih => rw [List.map_cons, List.sum_cons, List.length_cons, ih]; omega
theorem atI_map {α : Type} {f : α → DV} {L : List α} {v : Int} (h0 : 0 ≤ v) (h1 : v < (L.length : Int)) : ∃ x ∈ L, atI (L.map f) v = some (f x) := by
  obtain ⟨m, rfl⟩ := Int.eq_ofNat_of_zero_le h0
  have hm : m < L.length := by omega
  exact ⟨L[m], List.getElem_mem hm, by rw [atI_lit, List.getElem?_map, List.getElem?_eq_getElem hm]; rfl⟩
/-- the words that a name may be -/
def wordsN : List Str := [Str.ofString "under", Str.ofString "record", Str.ofString "door", Str.ofString "choice", Str.ofString "hidden", Str.ofString "look", Str.ofString "one", Str.ofString "new", Str.ofString "as", Str.ofString "ask", Str.ofString "none", Str.ofString "ok"]
theorem wordsN_ok : ∀ x ∈ wordsN, Cand x := by
  intro x hx
  simp only [wordsN, List.mem_cons, List.not_mem_nil, or_false] at hx
  rcases hx with rfl | rfl | rfl | rfl | rfl | rfl | rfl | rfl | rfl | rfl | rfl | rfl <;> exact ⟨IsLt.lit (by decide), by rw [tl_len, tl_lit]; decide⟩
theorem name_ok {p : Pgm} {k n : Nat} {μ : Mu} {r g : Addr} {used : List Str} {P : DV → Mu → Prop} {X : XP} (hd : Has p "_law_draw" sd__law_draw_d94d) (hq : Has p "_law_name" sd__law_name_f722) (D : Tray n μ r g) (hn : n < 2 ^ 59) (hu : ∀ x ∈ used, Nm x) (hl : used.length < 26)
    (h : ∀ x μ', Nm x → x ∉ used → Tray (n + 20) μ' r g → Oth r g μ μ' → P (.str x) μ') : fnS p (k + 2) "_law_name" [.ref r, .lst (used.map DV.str)] μ P X := by
  refine fn_in hq rfl ?_
  have tail : ∀ (μ1 : Mu) (x : Str) (g3 g4 : DV) (g7 g8 g9 g10 : Option DV) (D : DEnds), Cand x → D.rt = P → Tray (n + 20) μ1 r g → Oth r g μ μ1 → wSs ⟨fnS p (k + 1), gvD p.gvs⟩ (fun cls fs _ μ' => X cls fs μ') (sd__law_name_f722.s.drop 5)
      [some (.ref r), some (.lst (used.map DV.str)), some (.str (Str.ofString "abcdefghijklmnopqrstuvwxyz")), some g3, some g4, some (.str x), none, g7, g8, g9, g10, none] μ1 D := by
    intro μ1 x g3 g4 g7 g8 g9 g10 D hx hD T O
    unfold sd__law_name_f722
    simp only [Ss.drop]
    refine st ?_
    walk_at "ws"
    refine ⟨by constructor <;> decide, ?_⟩
    refine r26 (fun i => .str (sgn (97 + i))) trivial (fun i hi acc kk ha hk => ?_) ?_
    · simp -implicitDefEqProofs only [wS, wE, wEs, wT, wTs, wI, wG, wGs, gs0, gsS, asB, asI, o_eq, o_ne, o_addI, o_addS, o_addT, o_addL, o_sub, o_mul, o_fdiv, o_mod, o_pow, o_lt, o_le, o_gt, o_ge, o_isN, o_notN, o_ixS, o_ixT, o_ixL, o_ixR, o_ixO, atN_0, atN_1, atN_2, atN_3, atN_4, atN_5, atN_6, atN_7, atN_8, atN_9, atN_10, atN_11, atN_12, atN_13, atN_14, atN_15, List.getElem?_cons_succ, List.getElem?_cons_zero, mut_is, newF, newT, setW_is, bmW, bmT, bfW, slB, slW, sq_l, sq_r, sq_t, lc_l, lst_tup, implies_true, intsD_map, strsD_map, blsD_map, List.set_cons_zero, List.set_cons_succ, if_true, if_false, Bool.false_eq_true, Bool.true_eq_false, Option.some.injEq, MO.lst.injEq, DV.ref.injEq, DV.int.injEq, DV.str.injEq, DV.lst.injEq, DV.tup.injEq, exists_eq_left', exists_eq_left, exists_eq', exists_eq, exists_and_left, true_and, and_true, dl_lst, dl_tup, dl_int, dl_str, dl_bl, dl_non, dl_rol, okD_int, okD_bl, okD_non, okD_str, eqv_ss, eqv_ii, eqv_nn, eqv_bb, eqv_ll, eqv_tt, eqvDs_nil, eqvDs_cons, eqvDs_cn, eqvDs_nc, lit_inj, strOk_lit, atI_m1a, atI_m1b, atI_m1c, atI_m1d, atI_m1e, o_innL, o_ninL, inD_nil, inD_cons, flS, flI, List.all_cons, List.all_nil, Bool.and_true, Bool.and_self, Bool.or_false, Bool.or_true, Bool.true_or, Bool.false_or, decide_true, decide_false, reduceIte, String.reduceEq, Gs.len, midD, List.length_cons, List.length_nil, List.take_succ_cons, List.take_zero, List.take_nil, List.drop_zero, List.drop_succ_cons, List.drop_nil, List.nil_append, List.cons_append, List.getD_cons_zero, List.map_cons, List.map_nil, Nat.zero_add, Nat.add_zero, Nat.reduceAdd, Nat.reduceLeDiff, Nat.reduceSub, Int.reduceSub, Int.reduceAdd, Int.reduceMul, Int.reduceLT, Int.reduceLE, Bool.not_eq_true', Bool.not_true, Bool.not_false, Bool.not_not, decide_eq_true_eq, isNon, tyD, isT, upm_same, wipeG, abc_i hi]
      exact ⟨abc_len, ha, hk⟩
    refine ⟨line_100 (by simp), by constructor <;> decide, ?_⟩
    refine r26 (fun i => .str (sgn (97 + i) ++ sgn (97 + (25 - i)))) trivial (fun i hi acc kk ha hk => ?_) ?_
    · simp -implicitDefEqProofs only [wS, wE, wEs, wT, wTs, wI, wG, wGs, gs0, gsS, asB, asI, o_eq, o_ne, o_addI, o_addS, o_addT, o_addL, o_sub, o_mul, o_fdiv, o_mod, o_pow, o_lt, o_le, o_gt, o_ge, o_isN, o_notN, o_ixS, o_ixT, o_ixL, o_ixR, o_ixO, atN_0, atN_1, atN_2, atN_3, atN_4, atN_5, atN_6, atN_7, atN_8, atN_9, atN_10, atN_11, atN_12, atN_13, atN_14, atN_15, List.getElem?_cons_succ, List.getElem?_cons_zero, mut_is, newF, newT, setW_is, bmW, bmT, bfW, slB, slW, sq_l, sq_r, sq_t, lc_l, lst_tup, implies_true, intsD_map, strsD_map, blsD_map, List.set_cons_zero, List.set_cons_succ, if_true, if_false, Bool.false_eq_true, Bool.true_eq_false, Option.some.injEq, MO.lst.injEq, DV.ref.injEq, DV.int.injEq, DV.str.injEq, DV.lst.injEq, DV.tup.injEq, exists_eq_left', exists_eq_left, exists_eq', exists_eq, exists_and_left, true_and, and_true, dl_lst, dl_tup, dl_int, dl_str, dl_bl, dl_non, dl_rol, okD_int, okD_bl, okD_non, okD_str, eqv_ss, eqv_ii, eqv_nn, eqv_bb, eqv_ll, eqv_tt, eqvDs_nil, eqvDs_cons, eqvDs_cn, eqvDs_nc, lit_inj, strOk_lit, atI_m1a, atI_m1b, atI_m1c, atI_m1d, atI_m1e, o_innL, o_ninL, inD_nil, inD_cons, flS, flI, List.all_cons, List.all_nil, Bool.and_true, Bool.and_self, Bool.or_false, Bool.or_true, Bool.true_or, Bool.false_or, decide_true, decide_false, reduceIte, String.reduceEq, Gs.len, midD, List.length_cons, List.length_nil, List.take_succ_cons, List.take_zero, List.take_nil, List.drop_zero, List.drop_succ_cons, List.drop_nil, List.nil_append, List.cons_append, List.getD_cons_zero, List.map_cons, List.map_nil, Nat.zero_add, Nat.add_zero, Nat.reduceAdd, Nat.reduceLeDiff, Nat.reduceSub, Int.reduceSub, Int.reduceAdd, Int.reduceMul, Int.reduceLT, Int.reduceLE, Bool.not_eq_true', Bool.not_true, Bool.not_false, Bool.not_not, decide_eq_true_eq, isNon, tyD, isT, upm_same, wipeG, abc_i hi, abc_r hi]
      exact ⟨abc_len, abc_len, line_100 (by show 1 + 1 ≤ 1000; decide), ha, hk⟩
    refine ⟨line_100 (by simp), ?_⟩
    refine st ?_
    walk_at "ws"
    refine ⟨by constructor <;> decide, ?_⟩
    refine r26 (fun i => .str ⟨#[97 + i, 97 + i, 97 + i]⟩) trivial (fun i hi acc kk ha hk => ?_) ?_
    · simp -implicitDefEqProofs only [wS, wE, wEs, wT, wTs, wI, wG, wGs, gs0, gsS, asB, asI, o_eq, o_ne, o_addI, o_addS, o_addT, o_addL, o_sub, o_mul, o_fdiv, o_mod, o_pow, o_lt, o_le, o_gt, o_ge, o_isN, o_notN, o_ixS, o_ixT, o_ixL, o_ixR, o_ixO, atN_0, atN_1, atN_2, atN_3, atN_4, atN_5, atN_6, atN_7, atN_8, atN_9, atN_10, atN_11, atN_12, atN_13, atN_14, atN_15, List.getElem?_cons_succ, List.getElem?_cons_zero, mut_is, newF, newT, setW_is, bmW, bmT, bfW, slB, slW, sq_l, sq_r, sq_t, lc_l, lst_tup, implies_true, intsD_map, strsD_map, blsD_map, List.set_cons_zero, List.set_cons_succ, if_true, if_false, Bool.false_eq_true, Bool.true_eq_false, Option.some.injEq, MO.lst.injEq, DV.ref.injEq, DV.int.injEq, DV.str.injEq, DV.lst.injEq, DV.tup.injEq, exists_eq_left', exists_eq_left, exists_eq', exists_eq, exists_and_left, true_and, and_true, dl_lst, dl_tup, dl_int, dl_str, dl_bl, dl_non, dl_rol, okD_int, okD_bl, okD_non, okD_str, eqv_ss, eqv_ii, eqv_nn, eqv_bb, eqv_ll, eqv_tt, eqvDs_nil, eqvDs_cons, eqvDs_cn, eqvDs_nc, lit_inj, strOk_lit, atI_m1a, atI_m1b, atI_m1c, atI_m1d, atI_m1e, o_innL, o_ninL, inD_nil, inD_cons, flS, flI, List.all_cons, List.all_nil, Bool.and_true, Bool.and_self, Bool.or_false, Bool.or_true, Bool.true_or, Bool.false_or, decide_true, decide_false, reduceIte, String.reduceEq, Gs.len, midD, List.length_cons, List.length_nil, List.take_succ_cons, List.take_zero, List.take_nil, List.drop_zero, List.drop_succ_cons, List.drop_nil, List.nil_append, List.cons_append, List.getD_cons_zero, List.map_cons, List.map_nil, Nat.zero_add, Nat.add_zero, Nat.reduceAdd, Nat.reduceLeDiff, Nat.reduceSub, Int.reduceSub, Int.reduceAdd, Int.reduceMul, Int.reduceLT, Int.reduceLE, Bool.not_eq_true', Bool.not_true, Bool.not_false, Bool.not_not, decide_eq_true_eq, isNon, tyD, isT, upm_same, wipeG, abc_i hi]
      exact ⟨abc_len, mulOk3, ha, hk⟩
    refine ⟨line_100 (by simp), by constructor <;> decide, ?_⟩
    refine r26 (fun i => .str ⟨#[97 + i, 97 + i, 97 + i, 97 + i, 97 + i]⟩) trivial (fun i hi acc kk ha hk => ?_) ?_
    · simp -implicitDefEqProofs only [wS, wE, wEs, wT, wTs, wI, wG, wGs, gs0, gsS, asB, asI, o_eq, o_ne, o_addI, o_addS, o_addT, o_addL, o_sub, o_mul, o_fdiv, o_mod, o_pow, o_lt, o_le, o_gt, o_ge, o_isN, o_notN, o_ixS, o_ixT, o_ixL, o_ixR, o_ixO, atN_0, atN_1, atN_2, atN_3, atN_4, atN_5, atN_6, atN_7, atN_8, atN_9, atN_10, atN_11, atN_12, atN_13, atN_14, atN_15, List.getElem?_cons_succ, List.getElem?_cons_zero, mut_is, newF, newT, setW_is, bmW, bmT, bfW, slB, slW, sq_l, sq_r, sq_t, lc_l, lst_tup, implies_true, intsD_map, strsD_map, blsD_map, List.set_cons_zero, List.set_cons_succ, if_true, if_false, Bool.false_eq_true, Bool.true_eq_false, Option.some.injEq, MO.lst.injEq, DV.ref.injEq, DV.int.injEq, DV.str.injEq, DV.lst.injEq, DV.tup.injEq, exists_eq_left', exists_eq_left, exists_eq', exists_eq, exists_and_left, true_and, and_true, dl_lst, dl_tup, dl_int, dl_str, dl_bl, dl_non, dl_rol, okD_int, okD_bl, okD_non, okD_str, eqv_ss, eqv_ii, eqv_nn, eqv_bb, eqv_ll, eqv_tt, eqvDs_nil, eqvDs_cons, eqvDs_cn, eqvDs_nc, lit_inj, strOk_lit, atI_m1a, atI_m1b, atI_m1c, atI_m1d, atI_m1e, o_innL, o_ninL, inD_nil, inD_cons, flS, flI, List.all_cons, List.all_nil, Bool.and_true, Bool.and_self, Bool.or_false, Bool.or_true, Bool.true_or, Bool.false_or, decide_true, decide_false, reduceIte, String.reduceEq, Gs.len, midD, List.length_cons, List.length_nil, List.take_succ_cons, List.take_zero, List.take_nil, List.drop_zero, List.drop_succ_cons, List.drop_nil, List.nil_append, List.cons_append, List.getD_cons_zero, List.map_cons, List.map_nil, Nat.zero_add, Nat.add_zero, Nat.reduceAdd, Nat.reduceLeDiff, Nat.reduceSub, Int.reduceSub, Int.reduceAdd, Int.reduceMul, Int.reduceLT, Int.reduceLE, Bool.not_eq_true', Bool.not_true, Bool.not_false, Bool.not_not, decide_eq_true_eq, isNon, tyD, isT, upm_same, wipeG, abc_i hi]
      exact ⟨abc_len, mulOk5, ha, hk⟩
    refine ⟨line_100 (by simp), ?_⟩
    refine st ?_
    walk_at "ws"
    obtain ⟨L, eL, hC, hA, hN⟩ : ∃ L : List Str, (DV.str x :: ((List.range 26).map (fun i => DV.str (sgn (97 + i))) ++ (List.range 26).map (fun i => DV.str (sgn (97 + i) ++ sgn (97 + (25 - i)))) ++ (List.range 26).map (fun i => DV.str ⟨#[97 + i, 97 + i, 97 + i]⟩) ++ (List.range 26).map (fun i => DV.str ⟨#[97 + i, 97 + i, 97 + i, 97 + i, 97 + i]⟩))) = L.map DV.str ∧
        (∀ y ∈ L, Cand y) ∧ (∀ i, i < 26 → sgn (97 + i) ∈ L) ∧ L.length ≤ 200 := by
      refine ⟨x :: ((List.range 26).map (fun i => sgn (97 + i)) ++ (List.range 26).map (fun i => sgn (97 + i) ++ sgn (97 + (25 - i))) ++ (List.range 26).map (fun i => ⟨#[97 + i, 97 + i, 97 + i]⟩) ++ (List.range 26).map (fun i => ⟨#[97 + i, 97 + i, 97 + i, 97 + i, 97 + i]⟩)), ?_, ?_, ?_, by simp⟩
      · simp only [List.map_cons, List.map_append, List.map_map]
        rfl
      · intro y hy
        simp only [List.mem_cons, List.mem_append, List.mem_map, List.mem_range] at hy
        rcases hy with rfl | ((⟨i, hi, rfl⟩ | ⟨i, hi, rfl⟩) | ⟨i, hi, rfl⟩) | ⟨i, hi, rfl⟩
        · exact hx
        · exact cand1 (by omega)
        · exact cand2 (by omega) (by omega)
        · exact cand3 (by omega)
        · exact cand5 (by omega)
      · intro i hi
        simp only [List.mem_cons, List.mem_append, List.mem_map, List.mem_range]
        exact .inr (.inl (.inl (.inl ⟨i, hi, rfl⟩)))
    rw [eL]
    have eb : used.map DV.str ++ [DV.str (Str.ofString ""), DV.str (Str.ofString "num"), DV.str (Str.ofString "text")] = (used ++ [Str.ofString "", Str.ofString "num", Str.ofString "text"]).map DV.str := by simp
    generalize hbad : used ++ [Str.ofString "", Str.ofString "num", Str.ofString "text"] = bad at eb
    refine compF_pure (fun y => if y ∈ bad then none else some (DV.str y)) trivial (line_100 (by simp; omega)) (fun y hy acc kk ha hk => ?_) ?_
    · walk_at "ws wipeG"
      refine ⟨line_100 (by simp; omega), ?_⟩
      rw [eb]
      walk_at "ws fl_strs inD_strs"
      by_cases hb : y ∈ bad
      · simp only [hb, if_true] at hk
        simpa only [hb, decide_true, Bool.not_true, Bool.false_eq_true, Bool.true_eq_false, if_false] using hk
      · simp only [hb, if_false] at hk
        simp only [hb, decide_false, Bool.not_false, if_true]
        exact ⟨ha, hk⟩
    · obtain ⟨i, hi, hf⟩ := free_letter hl
      obtain ⟨z, e0, hz, hzb⟩ := first_of (bad := bad) (L := L) ⟨_, hA i hi, fun hm => by
        rw [← hbad] at hm
        simp only [List.mem_append, List.mem_cons, List.not_mem_nil, or_false] at hm
        rcases hm with hm | hm | hm | hm
        · exact hf hm
        · exact sgn_lit (by decide) hm
        · exact sgn_lit (by decide) hm
        · exact sgn_lit (by decide) hm⟩
      rw [List.nil_append]
      refine ⟨_, e0, ?_⟩
      rw [hD]
      rw [← hbad] at hzb
      simp only [List.mem_append, List.mem_cons, List.not_mem_nil, or_false, not_or] at hzb
      exact h z μ1 ⟨(hC z hz).lt, hzb.2.1, (hC z hz).le, hzb.2.2.1, hzb.2.2.2⟩ hzb.1 T O
  show wSs _ _ sd__law_name_f722.s [some (.ref r), some (.lst (used.map DV.str)), none, none, none, none, none, none, none, none, none, none] μ _
  unfold sd__law_name_f722
  walk_at "wgo"
  refine draw_ok hd D (by decide) (by decide) (by omega) fun v μ1 v0 v1 D1 o1 => ?_
  walk_at "wgo"
  refine draw_ok hd D1 (by decide) (by decide) (by omega) fun w μ2 w0 w1 D2 o2 => ?_
  repeat (first | (with_reducible refine st ?_) | (with_reducible refine sn ?_) | (simp -implicitDefEqProofs only [wS, wE, wEs, wT, wTs, wI, wG, wGs, gs0, gsS, asB, asI, o_eq, o_ne, o_addI, o_addS, o_addT, o_addL, o_sub, o_mul, o_fdiv, o_mod, o_pow, o_lt, o_le, o_gt, o_ge, o_isN, o_notN, o_ixS, o_ixT, o_ixL, o_ixR, o_ixO, atN_0, atN_1, atN_2, atN_3, atN_4, atN_5, atN_6, atN_7, atN_8, atN_9, atN_10, atN_11, atN_12, atN_13, atN_14, atN_15, List.getElem?_cons_succ, List.getElem?_cons_zero, mut_is, newF, newT, setW_is, bmW, bmT, bfW, slB, slW, sq_l, sq_r, sq_t, lc_l, lst_tup, implies_true, intsD_map, strsD_map, blsD_map, List.set_cons_zero, List.set_cons_succ, if_true, if_false, Bool.false_eq_true, Bool.true_eq_false, Option.some.injEq, MO.lst.injEq, DV.ref.injEq, DV.int.injEq, DV.str.injEq, DV.lst.injEq, DV.tup.injEq, exists_eq_left', exists_eq_left, exists_eq', exists_eq, exists_and_left, true_and, and_true, dl_lst, dl_tup, dl_int, dl_str, dl_bl, dl_non, dl_rol, okD_int, okD_bl, okD_non, okD_str, eqv_ss, eqv_ii, eqv_nn, eqv_bb, eqv_ll, eqv_tt, eqvDs_nil, eqvDs_cons, eqvDs_cn, eqvDs_nc, lit_inj, strOk_lit, atI_m1a, atI_m1b, atI_m1c, atI_m1d, atI_m1e, o_innL, o_ninL, inD_nil, inD_cons, flS, flI, List.all_cons, List.all_nil, Bool.and_true, Bool.and_self, Bool.or_false, Bool.or_true, Bool.true_or, Bool.false_or, decide_true, decide_false, reduceIte, String.reduceEq, Gs.len, midD, List.length_cons, List.length_nil, List.take_succ_cons, List.take_zero, List.take_nil, List.drop_zero, List.drop_succ_cons, List.drop_nil, List.nil_append, List.cons_append, List.getD_cons_zero, List.map_cons, List.map_nil, Nat.zero_add, Nat.add_zero, Nat.reduceAdd, Nat.reduceLeDiff, Nat.reduceSub, Int.reduceSub, Int.reduceAdd, Int.reduceMul, Int.reduceLT, Int.reduceLE, Bool.not_eq_true', Bool.not_true, Bool.not_false, Bool.not_not, decide_eq_true_eq, isNon, tyD, isT, upm_same, abc_at w0 w1]))
  refine ⟨abc_len, ?_⟩
  walk_at "wgo"
  refine draw_ok hd D2 (by decide) (by decide) (by omega) fun m μ3 m0 m1 D3 o3 => ?_
  refine ⟨by constructor <;> omega, ?_⟩
  obtain ⟨mm, rfl⟩ := Int.eq_ofNat_of_zero_le m0
  have hnum : (1 + (mm : Int)).toNat = mm + 1 := by omega
  rw [hnum]
  refine compF_by (fun rest acc μ => ∃ ls : List Str, acc = ls.map DV.str ∧ (∀ x ∈ ls, ∃ c, x = sgn c ∧ 97 ≤ c ∧ c ≤ 122) ∧ ls.length + rest.length = mm + 1 ∧ Tray (n + 3 + ls.length) μ r g ∧ Oth r g μ3 μ) (fun _ _ _ _ => trivial) ?_ ?_ _
    ⟨[], rfl, by simp, by rw [rngD_length]; simp, D3, .refl⟩
  · rintro d ds acc μ4 K ⟨ls, rfl, hls, hlen, D4, o4⟩ nxt
    rw [List.length_cons] at hlen
    walk_at "ws wipeG"
    refine draw_ok hd D4 (by decide) (by decide) (by omega) fun u μ5 u0 u1 D5 o5 => ?_
    simp -implicitDefEqProofs only [wS, wE, wEs, wT, wTs, wI, wG, wGs, gs0, gsS, asB, asI, o_eq, o_ne, o_addI, o_addS, o_addT, o_addL, o_sub, o_mul, o_fdiv, o_mod, o_pow, o_lt, o_le, o_gt, o_ge, o_isN, o_notN, o_ixS, o_ixT, o_ixL, o_ixR, o_ixO, atN_0, atN_1, atN_2, atN_3, atN_4, atN_5, atN_6, atN_7, atN_8, atN_9, atN_10, atN_11, atN_12, atN_13, atN_14, atN_15, List.getElem?_cons_succ, List.getElem?_cons_zero, mut_is, newF, newT, setW_is, bmW, bmT, bfW, slB, slW, sq_l, sq_r, sq_t, lc_l, lst_tup, implies_true, intsD_map, strsD_map, blsD_map, List.set_cons_zero, List.set_cons_succ, if_true, if_false, Bool.false_eq_true, Bool.true_eq_false, Option.some.injEq, MO.lst.injEq, DV.ref.injEq, DV.int.injEq, DV.str.injEq, DV.lst.injEq, DV.tup.injEq, exists_eq_left', exists_eq_left, exists_eq', exists_eq, exists_and_left, true_and, and_true, dl_lst, dl_tup, dl_int, dl_str, dl_bl, dl_non, dl_rol, okD_int, okD_bl, okD_non, okD_str, eqv_ss, eqv_ii, eqv_nn, eqv_bb, eqv_ll, eqv_tt, eqvDs_nil, eqvDs_cons, eqvDs_cn, eqvDs_nc, lit_inj, strOk_lit, atI_m1a, atI_m1b, atI_m1c, atI_m1d, atI_m1e, o_innL, o_ninL, inD_nil, inD_cons, flS, flI, List.all_cons, List.all_nil, Bool.and_true, Bool.and_self, Bool.or_false, Bool.or_true, Bool.true_or, Bool.false_or, decide_true, decide_false, reduceIte, String.reduceEq, Gs.len, midD, List.length_cons, List.length_nil, List.take_succ_cons, List.take_zero, List.take_nil, List.drop_zero, List.drop_succ_cons, List.drop_nil, List.nil_append, List.cons_append, List.getD_cons_zero, List.map_cons, List.map_nil, Nat.zero_add, Nat.add_zero, Nat.reduceAdd, Nat.reduceLeDiff, Nat.reduceSub, Int.reduceSub, Int.reduceAdd, Int.reduceMul, Int.reduceLT, Int.reduceLE, Bool.not_eq_true', Bool.not_true, Bool.not_false, Bool.not_not, decide_eq_true_eq, isNon, tyD, isT, upm_same, abc_at u0 u1]
    refine ⟨abc_len, by rw [List.length_map]; exact sizeLine_gt (by omega), nxt _ _ ⟨ls ++ [sgn (u.toNat + 97)], by simp, fun x hx => ?_, by simp; omega, D5.mono (by simp; omega), o4.trans o5⟩⟩
    rcases List.mem_append.mp hx with e | e
    · exact hls x e
    · rw [List.mem_singleton] at e
      exact ⟨_, e, by omega, by omega⟩
  rintro acc μ4 ⟨ls, rfl, hls, hlen, D4, o4⟩
  have hjt : tl (Txt.join (Str.ofString "") ls) = (ls.map tl).flatten := tl_join
  have hjc : Cand (Txt.join (Str.ofString "") ls) := by
    refine ⟨fun c hc => ?_, ?_⟩
    · rw [hjt] at hc
      obtain ⟨l, hl1, hl2⟩ := List.mem_flatten.mp hc
      obtain ⟨x, hx, rfl⟩ := List.mem_map.mp hl1
      obtain ⟨c', rfl, h1, h2⟩ := hls x hx
      exact IsLt.sgn ⟨h1, h2⟩ c hl2
    · rw [tl_len, hjt, List.length_flatten, List.map_map, List.map_congr_left (g := fun _ => 1) (fun x hx => by obtain ⟨c', rfl, _⟩ := hls x hx; rfl), sum_ones]
      simp at hlen ⊢
      omega
  refine ⟨ls, strsD_map, ?_, ?_⟩
  · rw [tl_empty_len, List.map_congr_left (g := fun _ => 1) (fun x hx => by obtain ⟨c', rfl, _⟩ := hls x hx; rfl), sum_ones]
    simp at hlen ⊢
    omega
  refine st ?_
  walk_at "ws"
  by_cases h4 : v = 4
  · subst h4
    walk_at "wgo"
    refine draw_ok hd D4 (by decide) (by decide) (by omega) fun u μ5 u0 u1 D5 o5 => ?_
    walk_at "ws"
    obtain ⟨x, hx, e⟩ := atI_map (f := DV.str) (L := wordsN) u0 u1
    refine ⟨_, e, sn ?_⟩
    exact tail _ _ _ _ _ _ _ _ _ (wordsN_ok x hx) rfl (D5.mono (by simp at hlen; omega)) (o1.trans (o2.trans (o3.trans (o4.trans o5))))
  · simp only [h4]
    walk_at "ws"
    have hvs : v = 0 ∨ 0 < v := by omega
    refine st ?_
    walk_at "ws"
    rcases hvs with rfl | hv
    · rw [if_neg (by decide)]
      with_reducible refine sn ?_
      exact tail _ _ _ _ _ _ _ _ _ hjc rfl (D4.mono (by simp at hlen; omega)) (o1.trans (o2.trans (o3.trans o4)))
    · rw [if_pos hv]
      have hok := okD_strs (L := used) fun x hx => (hu x hx).ok
      refine ⟨hok, okD_nil, ?_⟩
      cases used with
      | nil =>
        rw [List.map_nil, if_neg (by rw [eqvDs_nil]; decide)]
        with_reducible refine sn ?_
        exact tail _ _ _ _ _ _ _ _ _ hjc rfl (D4.mono (by simp at hlen; omega)) (o1.trans (o2.trans (o3.trans o4)))
      | cons y ys =>
        rw [if_pos (by rfl)]
        have hu0 : 0 < (y :: ys).length := by simp
        generalize y :: ys = used at *
        walk_at "wgo List.length_map"
        refine draw_ok hd D4 (by omega) (Nat.lt_of_le_of_lt (Nat.log2_le_self _) (by omega)) (by omega) fun u μ5 u0 u1 D5 o5 => ?_
        walk_at "ws"
        obtain ⟨x, hx, e⟩ := atI_map (f := DV.str) (L := used) u0 u1
        refine ⟨_, e, ?_⟩
        have hxn := hu x hx
        have hx8 := hxn.le
        walk_at "wgo"
        refine ⟨line_100 (by omega), ?_⟩
        refine draw_ok hd D5 (by omega) (Nat.lt_of_le_of_lt (Nat.log2_le_self _) (by omega)) (by omega) fun a μ6 a0 a1 D6 o6 => ?_
        obtain ⟨aa, rfl⟩ := Int.eq_ofNat_of_zero_le a0
        have hvs2 : v = 1 ∨ v = 2 ∨ v = 3 := by omega
        rcases hvs2 with rfl | rfl | rfl
        · walk_at "wgo Int.add_zero"
          obtain ⟨c1, c2, c3, c4⟩ := edit_len (a := aa) (b := aa) hx8 (Nat.le_of_eq (sgn_len (c := w.toNat + 97)))
          refine ⟨c2, c1, c2, c3, c4, ?_⟩
          refine sn ?_
          with_reducible refine sn ?_
          exact tail _ _ _ _ _ _ _ _ _ (edit_ok hxn.lt (.sgn (by omega))) rfl (D6.mono (by simp at hlen; omega)) (o1.trans (o2.trans (o3.trans (o4.trans (o5.trans o6)))))
        · walk_at "wgo"
          obtain ⟨c1, c2, c3, c4⟩ := edit_len (a := aa) (b := aa + 1) hx8 (Nat.le_of_eq (sgn_len (c := w.toNat + 97)))
          refine ⟨c2, c1, c2, c3, c4, ?_⟩
          refine sn ?_
          with_reducible refine sn ?_
          exact tail _ _ _ _ _ _ _ _ _ (edit_ok hxn.lt (.sgn (by omega))) rfl (D6.mono (by simp at hlen; omega)) (o1.trans (o2.trans (o3.trans (o4.trans (o5.trans o6)))))
        · walk_at "wgo"
          obtain ⟨c1, c2, c3, c4⟩ := edit_len (a := aa) (b := aa + 1) hx8 (Nat.le_trans (Nat.le_of_eq tl_empty_len) (Nat.zero_le 1))
          refine ⟨c2, c1, c2, c3, c4, ?_⟩
          refine sn ?_
          with_reducible refine sn ?_
          exact tail _ _ _ _ _ _ _ _ _ (edit_ok hxn.lt (fun c hc => by rw [tl_empty] at hc; cases hc)) rfl (D6.mono (by simp at hlen; omega)) (o1.trans (o2.trans (o3.trans (o4.trans (o5.trans o6)))))
end Sr

set_option Elab.async false
set_option linter.all false
set_option maxRecDepth 100000
set_option autoImplicit false
/-! Kinds drawn. -/
namespace Sr
open PySem PySem.Spec PyProof.Rows L2
def sd__law_flat_kind_2ebf : SD := ⟨["_law_tray_here", "_law_names_here", "_law_deep", "_law_way"], ["_law_tray_here", "_law_names_here", "_law_deep"],
  (.cons (.asg (.var 3) (.call "_law_draw" (.cons (.var 0) (.cons (.int 7) .nil))))
  (.cons (.ite (.and_ (.cmp .gt (.var 3) (.int 4)) (.cmp .gt (.var 2) (.int 1))) (.cons (.ret (.tup (.cons (.str "row") (.cons (.call "_law_flat_kind" (.cons (.var 0) (.cons (.var 1) (.cons (.op .sub (.var 2) (.int 1)) .nil)))) .nil)))) .nil) .nil)
  (.cons (.ite (.and_ (.cmp .gt (.var 3) (.int 1)) (.cmp .ne (.var 1) (.lst false .nil))) (.cons (.ret (.tup (.cons (.str "of") (.cons (.op .ix (.var 1) (.call "_law_draw" (.cons (.var 0) (.cons (.bf .len (.cons (.var 1) .nil)) .nil)))) .nil)))) .nil) .nil)
  (.cons (.ret (.op .ix (.lst false (.cons (.tup (.cons (.str "num") .nil)) (.cons (.tup (.cons (.str "text") .nil)) .nil))) (.op .mod (.var 3) (.int 2)))) .nil))))⟩
def sd__law_kind_02d3 : SD := ⟨["_law_tray_here", "_law_names_here", "_law_deep", "_law_way", "_law_many", "_law_called", "_law_k"], ["_law_tray_here", "_law_names_here", "_law_deep"],
  (.cons (.asg (.var 3) (.call "_law_draw" (.cons (.var 0) (.cons (.int 8) .nil))))
  (.cons (.ite (.and_ (.cmp .eq (.var 3) (.int 7)) (.cmp .gt (.var 2) (.int 1))) (.cons (.asg (.var 4) (.call "_law_draw" (.cons (.var 0) (.cons (.int 4) .nil)))) (.cons (.asg (.var 5) (.bf .tuple (.cons (.comp false [6] (.call "_law_flat_kind" (.cons (.var 0) (.cons (.var 1) (.cons (.op .sub (.var 2) (.int 1)) .nil)))) (.var 6) (.rng1 (.var 4)) .nil) .nil))) (.cons (.ret (.tup (.cons (.str "calls") (.cons (.var 5) (.cons (.call "_law_flat_kind" (.cons (.var 0) (.cons (.var 1) (.cons (.op .sub (.var 2) (.int 1)) .nil)))) .nil))))) .nil))) .nil)
  (.cons (.ite (.and_ (.cmp .eq (.var 3) (.int 6)) (.cmp .gt (.var 2) (.int 1))) (.cons (.ret (.tup (.cons (.str "row") (.cons (.call "_law_kind" (.cons (.var 0) (.cons (.var 1) (.cons (.op .sub (.var 2) (.int 1)) .nil)))) .nil)))) .nil) .nil)
  (.cons (.ret (.call "_law_flat_kind" (.cons (.var 0) (.cons (.var 1) (.cons (.var 2) .nil))))) .nil))))⟩
def sd__law_names_a1c3 : SD := ⟨["_law_tray_here", "_law_many", "_law_used", "_law_found", "_law_k"], ["_law_tray_here", "_law_many", "_law_used"],
  (.cons (.asg (.var 3) (.lst true .nil))
  (.cons (.for_ (.var 4) (.rng1 (.var 1)) (.cons (.expr (.bm .append (.var 3) (.cons (.call "_law_name" (.cons (.var 0) (.cons (.op (.add false) (.var 2) (.var 3)) .nil))) .nil))) .nil))
  (.cons (.ret (.frz (.var 3))) .nil)))⟩
theorem remf_same {μ : Mu} {a : Addr} : rem μ a a = none := if_pos rfl
theorem remf_ne {μ : Mu} {a b : Addr} (h : b ≠ a) : rem μ a b = μ b := if_neg h
theorem frz_ok {P : DV → Mu → Prop} {r : Addr} {μ : Mu} {ds : List DV} (h : μ r = some (.lst ds)) (hp : P (.lst ds) (rem μ r)) : frzW P (.ref r) μ := by
  unfold frzW; simp only [h]; exact hp
theorem Tray.cong {n : Nat} {μ μ' : Mu} {r g : Addr} (D : Tray n μ r g) (h1 : μ' r = μ r) (h2 : μ' g = μ g) : Tray n μ' r g := by
  obtain ⟨ne, zs, l, f, c, e1, e2, h⟩ := D
  exact ⟨ne, zs, l, f, c, h1.trans e1, h2.trans e2, h⟩
theorem o_addLo {o : Bool} {xs ys : List DV} {a : Addr} {μ : Mu} {P : DV → Mu → Prop} (h : μ a = some (.lst ys)) (hl : xs.length + ys.length ≤ sizeLine) (hp : newL o (xs ++ ys) μ P) : o2W (.add o) (.lst xs) (.ref a) μ P :=
  ⟨xs, ys, rfl, lc_o h, hl, hp⟩
theorem names_ok {p : Pgm} {k n m : Nat} {μ : Mu} {r g : Addr} {used : List Str} {P : DV → Mu → Prop} {X : XP} (hd : Has p "_law_draw" sd__law_draw_d94d) (hq : Has p "_law_name" sd__law_name_f722) (hs : Has p "_law_names" sd__law_names_a1c3) (D : Tray n μ r g) (hn : n + 20 * m < 2 ^ 59) (hu : ∀ x ∈ used, Nm x) (hl : used.length + m < 26)
    (h : ∀ (xs : List Str) μ', (∀ x ∈ xs, Nm x) → (∀ x ∈ xs, x ∉ used) → xs.Nodup → xs.length = m → Tray (n + 20 * m) μ' r g → Oth r g μ μ' → P (.lst (xs.map DV.str)) μ') : fnS p (k + 3) "_law_names" [.ref r, .int (m : Int), .lst (used.map DV.str)] μ P X := by
  refine fn_in hs rfl ?_
  show wSs _ _ sd__law_names_a1c3.s [some (.ref r), some (.int (m : Int)), some (.lst (used.map DV.str)), none, none] μ _
  unfold sd__law_names_a1c3
  walk_at "wgo"
  intro f hf
  obtain ⟨fr, fg⟩ := D.rs hf
  walk_at "wgo"
  refine ⟨by constructor <;> omega, ?_⟩
  rw [Int.toNat_natCast]
  refine forF_by (fun rest γ μ' => ∃ (xs : List Str) (y : Option DV), γ = [some (.ref r), some (.int (m : Int)), some (.lst (used.map DV.str)), some (.ref f), y] ∧ (∀ x ∈ xs, Nm x) ∧ (∀ x ∈ xs, x ∉ used) ∧ xs.Nodup ∧ xs.length + rest.length = m ∧ μ' f = some (.lst (xs.map DV.str)) ∧ Tray (n + 20 * xs.length) μ' r g ∧ ∀ a, a ≠ r → a ≠ g → a ≠ f → μ' a = μ a) (fun _ _ _ _ => trivial) ?_ ?_ _
    ⟨[], none, rfl, by simp, by simp, by simp, by rw [rngD_length]; simp, upm_same, D.cong (upm_ne (Ne.symm fr)) (upm_ne (Ne.symm fg)), fun a h1 h2 h3 => upm_ne h3⟩
  · rintro d ds γ μ1 N ⟨xs, y, rfl, hx, hxu, hnd, hlen, ef, D1, o1⟩ nxt
    rw [List.length_cons] at hlen
    walk_at "wgo"
    refine ⟨⟨_, ef⟩, ?_⟩
    refine o_addLo ef (line_100 (by simp; omega)) ?_
    walk_at "ws"
    rw [← List.map_append]
    refine name_ok hd hq D1 (by omega) (fun x h => (List.mem_append.mp h).elim (hu x) (hx x)) (by rw [List.length_append]; omega) fun x μ2 nx nu D2 o2 => ?_
    have ef2 : μ2 f = some (.lst (xs.map DV.str)) := (o2 f fr fg).trans ef
    walk_at "ws ef2"
    rw [List.mem_append, not_or] at nu
    refine ⟨by rw [List.length_map]; exact sizeLine_gt (by omega), ?_⟩
    refine sn ?_
    refine nxt _ _ ⟨xs ++ [x], _, rfl, fun z hz => ?_, fun z hz => ?_, ?_, by simp; omega, by rw [upm_same, List.map_append]; rfl, (D2.mono (by simp; omega)).cong (upm_ne (Ne.symm fr)) (upm_ne (Ne.symm fg)), fun a h1 h2 h3 => by rw [upm_ne h3, o2 a h1 h2, o1 a h1 h2 h3]⟩
    · rcases List.mem_append.mp hz with e | e
      · exact hx z e
      · rw [List.mem_singleton] at e; subst e; exact nx
    · rcases List.mem_append.mp hz with e | e
      · exact hxu z e
      · rw [List.mem_singleton] at e; subst e; exact nu.1
    · rw [List.nodup_append]
      exact ⟨hnd, by simp, fun a ha b hb => by rw [List.mem_singleton] at hb; subst hb; exact fun e => nu.2 (e ▸ ha)⟩
  · rintro γ μ1 ⟨xs, y, rfl, hx, hxu, hnd, hlen, ef, D1, o1⟩
    walk_at "wgo"
    refine frz_ok ef ?_
    rw [List.length_nil, Nat.add_zero] at hlen
    subst hlen
    refine h xs _ hx hxu hnd rfl (D1.cong (remf_ne (Ne.symm fr)) (remf_ne (Ne.symm fg))) fun a h1 h2 => ?_
    by_cases e : a = f
    · subst e; rw [remf_same, hf]
    · rw [remf_ne e]; exact o1 a h1 h2 e
/-- kinds without callbacks -/
inductive FK where
  | num | text | of (x : Str) | row (k : FK)
def FK.d : FK → DV
  | num => .tup [.str "num"]
  | text => .tup [.str "text"]
  | of x => .tup [.str "of", .str x]
  | row k => .tup [.str "row", k.d]
def FK.dep : FK → Nat
  | row k => k.dep + 1
  | _ => 1
def FK.ok (U : Str → Prop) : FK → Prop
  | of x => U x
  | row k => k.ok U
  | _ => True
inductive Kd where
  | fl (k : FK) | row (k : Kd) | calls (ks : List FK) (k : FK)
def Kd.d : Kd → DV
  | fl k => k.d
  | row k => .tup [.str "row", k.d]
  | calls ks k => .tup [.str "calls", .tup (ks.map FK.d), k.d]
theorem flk_ok {p : Pgm} {k : Nat} {r g : Addr} {used : List Str} (hd : Has p "_law_draw" sd__law_draw_d94d) (hq : Has p "_law_flat_kind" sd__law_flat_kind_2ebf) (hu : ∀ x ∈ used, Nm x) (hl : used.length ≤ 1000) :
    ∀ (deep n : Nat) {μ : Mu} {P : DV → Mu → Prop} {X : XP}, Tray n μ r g → n + 2 * deep + 2 < 2 ^ 59 →
    (∀ (f : FK) μ', f.ok (· ∈ used) → f.dep ≤ deep + 1 → Tray (n + 2 * (deep + 1)) μ' r g → Oth r g μ μ' → P f.d μ') → fnS p (k + deep + 2) "_law_flat_kind" [.ref r, .lst (used.map DV.str), .int (((deep + 1 : Nat)) : Int)] μ P X
  | deep, n, μ, P, X, D, hn, h => by
    refine fn_in hq rfl ?_
    show wSs _ _ sd__law_flat_kind_2ebf.s [some (.ref r), some (.lst (used.map DV.str)), some (.int _), none] μ _
    unfold sd__law_flat_kind_2ebf
    walk_at "wgo"
    refine draw_ok hd D (by decide) (by decide) (by omega) fun v μ1 v0 v1 D1 o1 => ?_
    have tail : ∀ D : DEnds, D.rt = P → wSs ⟨fnS p (k + deep + 1), gvD p.gvs⟩ (fun cls fs _ μ' => X cls fs μ') (sd__law_flat_kind_2ebf.s.drop 2)
        [some (.ref r), some (.lst (used.map DV.str)), some (.int ((deep + 1 : Nat) : Int)), some (.int v)] μ1 D := by
      intro Z hZ
      unfold sd__law_flat_kind_2ebf
      simp only [Ss.drop]
      have last : wSs ⟨fnS p (k + deep + 1), gvD p.gvs⟩ (fun cls fs _ μ' => X cls fs μ') (sd__law_flat_kind_2ebf.s.drop 3)
        [some (.ref r), some (.lst (used.map DV.str)), some (.int ((deep + 1 : Nat) : Int)), some (.int v)] μ1 Z := by
        unfold sd__law_flat_kind_2ebf
        simp only [Ss.drop]
        refine st ?_
        walk_at "ws"
        rcases Int.emod_two_eq v with e | e
        · rw [e]
          walk_at "ws hZ"
          exact h .num μ1 trivial (Nat.le_add_left 1 deep) (D1.mono (by omega)) o1
        · rw [e]
          walk_at "ws hZ"
          exact h .text μ1 trivial (Nat.le_add_left 1 deep) (D1.mono (by omega)) o1
      refine st ?_
      walk_at "ws"
      by_cases hv : 1 < v
      · rw [if_pos hv]
        refine ⟨okD_strs fun x hx => (hu x hx).ok, okD_nil, ?_⟩
        cases used with
        | nil =>
          rw [List.map_nil, if_neg (by rw [eqvDs_nil]; decide)]
          with_reducible refine sn ?_
          exact last
        | cons y ys =>
          rw [if_pos (by rfl)]
          have hu0 : 0 < (y :: ys).length := by simp
          generalize y :: ys = used at *
          walk_at "wgo List.length_map"
          refine draw_ok hd D1 (by omega) (Nat.lt_of_le_of_lt (Nat.log2_le_self _) (by omega)) (by omega) fun u μ2 u0 u1 D2 o2 => ?_
          obtain ⟨x, hx, e⟩ := atI_map (f := DV.str) (L := used) u0 u1
          walk_at "ws"
          refine ⟨_, e, ?_⟩
          rw [hZ]
          exact h (.of x) μ2 hx (Nat.le_add_left 1 deep) (D2.mono (by omega)) (o1.trans o2)
      · rw [if_neg hv]
        with_reducible refine sn ?_
        exact last
    refine st ?_
    walk_at "ws"
    by_cases hv : 4 < v
    · rw [if_pos hv]
      cases deep with
      | zero =>
        rw [if_neg (by omega)]
        with_reducible refine sn ?_
        exact tail _ rfl
      | succ deep =>
        rw [if_pos (by omega)]
        walk_at "wgo"
        rw [show (((deep + 1 + 1 : Nat) : Int)) - 1 = ((deep + 1 : Nat) : Int) by omega]
        refine flk_ok hd hq hu hl deep (n + 1) D1 (by omega) fun f μ2 h1 h2 D2 o2 => ?_
        exact h (.row f) μ2 h1 (by show f.dep + 1 ≤ _; omega) (D2.mono (by omega)) (o1.trans o2)
    · rw [if_neg hv]
      with_reducible refine sn ?_
      exact tail _ rfl
def Kd.ok (U : Str → Prop) : Kd → Prop
  | fl k => k.ok U
  | row k => k.ok U
  | calls ks k => (∀ f ∈ ks, f.ok U) ∧ k.ok U
/-- no deeper than that -/
def Kd.Le : Nat → Kd → Prop
  | n, fl k => k.dep ≤ n
  | n + 1, row k => k.Le n
  | n + 1, calls ks k => ks.length ≤ 3 ∧ (∀ f ∈ ks, f.dep ≤ n) ∧ k.dep ≤ n
  | 0, _ => False
theorem kind_ok {p : Pgm} {k : Nat} {r g : Addr} {used : List Str} (hd : Has p "_law_draw" sd__law_draw_d94d) (hq : Has p "_law_flat_kind" sd__law_flat_kind_2ebf) (hk : Has p "_law_kind" sd__law_kind_02d3) (hu : ∀ x ∈ used, Nm x) (hl : used.length ≤ 1000) :
    ∀ (deep n : Nat) {μ : Mu} {P : DV → Mu → Prop} {X : XP}, Tray n μ r g → n + 10 * deep + 10 < 2 ^ 59 →
    (∀ (f : Kd) μ', f.ok (· ∈ used) → f.Le (deep + 1) → Tray (n + 10 * (deep + 1)) μ' r g → Oth r g μ μ' → P f.d μ') → fnS p (k + deep + 3) "_law_kind" [.ref r, .lst (used.map DV.str), .int (((deep + 1 : Nat)) : Int)] μ P X
  | deep, n, μ, P, X, D, hn, h => by
    refine fn_in hk rfl ?_
    show wSs _ _ sd__law_kind_02d3.s [some (.ref r), some (.lst (used.map DV.str)), some (.int _), none, none, none, none] μ _
    unfold sd__law_kind_02d3
    walk_at "wgo"
    refine draw_ok hd D (by decide) (by decide) (by omega) fun v μ1 v0 v1 D1 o1 => ?_
    have tail : ∀ Z : DEnds, Z.rt = P → wSs ⟨fnS p (k + deep + 2), gvD p.gvs⟩ (fun cls fs _ μ' => X cls fs μ') (sd__law_kind_02d3.s.drop 2)
        [some (.ref r), some (.lst (used.map DV.str)), some (.int ((deep + 1 : Nat) : Int)), some (.int v), none, none, none] μ1 Z := by
      intro Z hZ
      unfold sd__law_kind_02d3
      simp only [Ss.drop]
      have last : wSs ⟨fnS p (k + deep + 2), gvD p.gvs⟩ (fun cls fs _ μ' => X cls fs μ') (sd__law_kind_02d3.s.drop 3)
        [some (.ref r), some (.lst (used.map DV.str)), some (.int ((deep + 1 : Nat) : Int)), some (.int v), none, none, none] μ1 Z := by
        unfold sd__law_kind_02d3
        simp only [Ss.drop]
        walk_at "wgo"
        rw [hZ]
        exact flk_ok hd hq hu hl deep (n + 1) D1 (by omega) fun f μ2 h1 h2 D2 o2 => h (.fl f) μ2 h1 h2 (D2.mono (by omega)) (o1.trans o2)
      refine st ?_
      walk_at "ws"
      by_cases hv : v = 6
      · rw [if_pos hv]
        cases deep with
        | zero =>
          rw [if_neg (by omega)]
          with_reducible refine sn ?_
          exact last
        | succ deep =>
          rw [if_pos (by omega)]
          walk_at "wgo"
          rw [show (((deep + 1 + 1 : Nat) : Int)) - 1 = ((deep + 1 : Nat) : Int) by omega]
          rw [hZ]
          exact kind_ok hd hq hk hu hl deep (n + 1) D1 (by omega) fun f μ2 h1 h2 D2 o2 => h (.row f) μ2 h1 h2 (D2.mono (by omega)) (o1.trans o2)
      · rw [if_neg hv]
        with_reducible refine sn ?_
        exact last
    refine st ?_
    walk_at "ws"
    by_cases hv : v = 7
    · rw [if_pos hv]
      cases deep with
      | zero =>
        rw [if_neg (by omega)]
        with_reducible refine sn ?_
        exact tail _ rfl
      | succ deep =>
        rw [if_pos (by omega)]
        walk_at "wgo"
        refine draw_ok hd D1 (by decide) (by decide) (by omega) fun m μ2 m0 m1 D2 o2 => ?_
        obtain ⟨mm, rfl⟩ := Int.eq_ofNat_of_zero_le m0
        walk_at "wgo"
        refine ⟨by constructor <;> omega, ?_⟩
        rw [Int.toNat_natCast]
        refine compF_by (fun rest acc μ' => ∃ fs : List FK, acc = fs.map FK.d ∧ (∀ f ∈ fs, f.ok (· ∈ used)) ∧ (∀ f ∈ fs, f.dep ≤ deep + 1) ∧ fs.length + rest.length = mm ∧ Tray (n + 2 + 2 * (deep + 1) * fs.length) μ' r g ∧ Oth r g μ2 μ') (fun _ _ _ _ => trivial) ?_ ?_ _
          ⟨[], rfl, by simp, by simp, by rw [rngD_length]; simp, D2.mono (by omega), .refl⟩
        · rintro d ds acc μ3 K ⟨fs, rfl, hf, hfd, hlen, D3, o3⟩ nxt
          rw [List.length_cons] at hlen
          walk_at "ws wipeG"
          rw [show (((deep + 1 + 1 : Nat) : Int)) - 1 = ((deep + 1 : Nat) : Int) by omega]
          have hb : 2 * (deep + 1) * fs.length ≤ 2 * (deep + 1) * 3 := Nat.mul_le_mul_left _ (by omega)
          rw [show k + (deep + 1) + 2 = (k + 1) + deep + 2 by omega]
          refine flk_ok hd hq hu hl deep (n + 2 + 2 * (deep + 1) * fs.length) D3 (by omega) fun f μ4 h1 h2 D4 o4 => ?_
          refine ⟨by rw [List.length_map]; exact sizeLine_gt (by omega), nxt _ _ ⟨fs ++ [f], by simp, fun z hz => ?_, fun z hz => ?_, by simp; omega, D4.mono ?_, o3.trans o4⟩⟩
          · rcases List.mem_append.mp hz with e | e
            · exact hf z e
            · rw [List.mem_singleton] at e; subst e; exact h1
          · rcases List.mem_append.mp hz with e | e
            · exact hfd z e
            · rw [List.mem_singleton] at e; subst e; exact h2
          · rw [List.length_append, List.length_singleton, show 2 * (deep + 1) * (fs.length + 1) = 2 * (deep + 1) * fs.length + 2 * (deep + 1) from Nat.mul_succ _ _]; omega
        · rintro acc μ3 ⟨fs, rfl, hf, hfd, hlen, D3, o3⟩
          rw [List.length_nil, Nat.add_zero] at hlen
          walk_at "wgo"
          rw [show (((deep + 1 + 1 : Nat) : Int)) - 1 = ((deep + 1 : Nat) : Int) by omega]
          have hb : 2 * (deep + 1) * fs.length ≤ 2 * (deep + 1) * 3 := Nat.mul_le_mul_left _ (by omega)
          rw [show k + (deep + 1) + 2 = (k + 1) + deep + 2 by omega]
          refine flk_ok hd hq hu hl deep (n + 2 + 2 * (deep + 1) * fs.length) D3 (by omega) fun f μ4 h1 h2 D4 o4 => ?_
          exact h (.calls fs f) μ4 ⟨hf, h1⟩ ⟨by omega, hfd, h2⟩ (D4.mono (by omega)) (o1.trans (o2.trans (o3.trans o4)))
    · rw [if_neg hv]
      with_reducible refine sn ?_
      exact tail _ rfl
end Sr

set_option Elab.async false
set_option linter.all false
set_option maxRecDepth 100000
set_option autoImplicit false
/-! How deep kinds are. -/
namespace Sr
open PySem PySem.Spec PyProof.Rows L2
def sd_inner_bf10 : SD := ⟨["kind"], ["kind"],
  (.cons (.ite (.cmp .eq (.op .ix (.var 0) (.int 0)) (.str "calls")) (.cons (.ret (.op (.add false) (.bf (.list false) (.cons (.op .ix (.var 0) (.int 1)) .nil)) (.lst false (.cons (.op .ix (.var 0) (.int 2)) .nil)))) .nil) .nil)
  (.cons (.ite (.cmp .eq (.op .ix (.var 0) (.int 0)) (.str "row")) (.cons (.ret (.lst false (.cons (.op .ix (.var 0) (.int 1)) .nil))) .nil) .nil)
  (.cons (.ite (.cmp .eq (.op .ix (.var 0) (.int 0)) (.str "answers")) (.cons (.ret (.lst false (.cons (.op .ix (.var 0) (.int 2)) .nil))) .nil) .nil)
  (.cons (.ret (.lst false .nil)) .nil))))⟩
/-- what was there is there -/
def Grow (μ μ' : Mu) : Prop := ∀ a o, μ a = some o → μ' a = some o
theorem Grow.refl {μ : Mu} : Grow μ μ := fun _ _ h => h
theorem Grow.trans {μ μ1 μ2 : Mu} (h : Grow μ μ1) (k : Grow μ1 μ2) : Grow μ μ2 := fun a o e => k a o (h a o e)
theorem Tray.grow {n : Nat} {μ μ' : Mu} {r g : Addr} (D : Tray n μ r g) (h : Grow μ μ') : Tray n μ' r g := by
  obtain ⟨ne, zs, l, f, c, e1, e2, q⟩ := D
  exact ⟨ne, zs, l, f, c, h _ _ e1, h _ _ e2, q⟩
def Kd.dep : Kd → Nat
  | fl k => k.dep
  | row k => k.dep + 1
  | calls ks k => (ks.foldr (fun f m => Nat.max f.dep m) k.dep) + 1
def Kd.parts : Kd → List Kd
  | fl (.row k) => [.fl k]
  | fl _ => []
  | row k => [k]
  | calls ks k => ks.map fl ++ [fl k]
def Kd.sz : Kd → Nat
  | fl k => k.dep
  | row k => k.sz + 1
  | calls ks k => (ks.map FK.dep).sum + k.dep + 1
def szs (ks : List Kd) : Nat := (ks.map Kd.sz).sum
theorem FK.pos : ∀ (k : FK), 1 ≤ k.dep
  | num => Nat.le_refl _
  | text => Nat.le_refl _
  | of _ => Nat.le_refl _
  | row k => Nat.le_add_left _ _
theorem Kd.pos : ∀ (k : Kd), 1 ≤ k.dep
  | fl k => k.pos
  | row k => Nat.le_add_left _ _
  | calls ks k => Nat.le_add_left _ _
theorem Kd.szpos : ∀ (k : Kd), 1 ≤ k.sz
  | fl k => k.pos
  | row k => Nat.le_add_left _ _
  | calls ks k => Nat.le_add_left _ _
theorem szs_nil : szs [] = 0 := rfl
theorem szs_cons {k : Kd} {ks : List Kd} : szs (k :: ks) = k.sz + szs ks := by unfold szs; rw [List.map_cons, List.sum_cons]
theorem szs_app {ks js : List Kd} : szs (ks ++ js) = szs ks + szs js := by unfold szs; rw [List.map_append, List.sum_append]
theorem szs_len : ∀ {ks : List Kd}, ks.length ≤ szs ks
  | [] => Nat.le_refl _
  | k :: ks => by
    have := szs_len (ks := ks)
    have := k.szpos
    rw [szs_cons, List.length_cons]; omega
theorem szs_fl : ∀ {ks : List FK}, szs (ks.map .fl) = (ks.map FK.dep).sum
  | [] => rfl
  | k :: ks => by
    rw [List.map_cons, szs_cons, szs_fl, List.map_cons, List.sum_cons]; rfl
theorem Kd.sz_parts : ∀ (k : Kd), szs k.parts + 1 = k.sz
  | fl .num => rfl
  | fl .text => rfl
  | fl (.of _) => rfl
  | fl (.row k) => rfl
  | row k => rfl
  | calls ks k => by
    show szs (ks.map fl ++ [fl k]) + 1 = _
    rw [szs_app, szs_fl]
    rfl
theorem fold_le : ∀ {ks : List FK} {k : FK}, k.dep ≤ ks.foldr (fun f m => Nat.max f.dep m) k.dep ∧ ∀ f ∈ ks, f.dep ≤ ks.foldr (fun f m => Nat.max f.dep m) k.dep
  | [], k => ⟨Nat.le_refl _, fun f h => by cases h⟩
  | f :: ks, k => by
    have ih := fold_le (ks := ks) (k := k)
    refine ⟨Nat.le_trans ih.1 (Nat.le_max_right _ _), fun g hg => ?_⟩
    rcases List.mem_cons.mp hg with e | e
    · subst e; exact Nat.le_max_left _ _
    · exact Nat.le_trans (ih.2 g e) (Nat.le_max_right _ _)
theorem fold_at : ∀ {ks : List FK} {k : FK}, ks.foldr (fun f m => Nat.max f.dep m) k.dep = k.dep ∨ ∃ f ∈ ks, f.dep = ks.foldr (fun f m => Nat.max f.dep m) k.dep
  | [], k => .inl rfl
  | f :: ks, k => by
    rw [List.foldr_cons]
    rcases Nat.le_total f.dep (ks.foldr (fun f m => Nat.max f.dep m) k.dep) with h | h
    · rw [show Nat.max f.dep (ks.foldr (fun f m => Nat.max f.dep m) k.dep) = _ from Nat.max_eq_right h]
      rcases fold_at (ks := ks) (k := k) with e | ⟨g, hg, e⟩
      · exact .inl e
      · exact .inr ⟨g, List.mem_cons_of_mem _ hg, e⟩
    · rw [show Nat.max f.dep (ks.foldr (fun f m => Nat.max f.dep m) k.dep) = _ from Nat.max_eq_left h]
      exact .inr ⟨f, List.mem_cons_self, rfl⟩
theorem Kd.part_le : ∀ {k : Kd} {q : Kd}, q ∈ k.parts → q.dep + 1 ≤ k.dep
  | fl .num, q, h => by cases h
  | fl .text, q, h => by cases h
  | fl (.of _), q, h => by cases h
  | fl (.row k), q, h => by
    have h : q ∈ [fl k] := h
    rw [List.mem_singleton] at h; subst h; exact Nat.le_refl _
  | row k, q, h => by
    have h : q ∈ [k] := h
    rw [List.mem_singleton] at h; subst h; exact Nat.le_refl _
  | calls ks k, q, h => by
    have h : q ∈ ks.map fl ++ [fl k] := h
    rw [List.mem_append, List.mem_map, List.mem_singleton] at h
    rcases h with ⟨f, hf, rfl⟩ | rfl
    · exact Nat.succ_le_succ (fold_le.2 f hf)
    · exact Nat.succ_le_succ fold_le.1
theorem Kd.part_at : ∀ (k : Kd), k.dep = 1 ∨ ∃ q ∈ k.parts, q.dep + 1 = k.dep
  | fl .num => .inl rfl
  | fl .text => .inl rfl
  | fl (.of _) => .inl rfl
  | fl (.row k) => .inr ⟨fl k, List.mem_singleton.mpr rfl, rfl⟩
  | row k => .inr ⟨k, List.mem_singleton.mpr rfl, rfl⟩
  | calls ks k => by
    refine .inr ?_
    rcases fold_at (ks := ks) (k := k) with e | ⟨f, hf, e⟩
    · exact ⟨fl k, by show _ ∈ ks.map fl ++ [fl k]; simp, congrArg (· + 1) e.symm⟩
    · exact ⟨fl f, by show _ ∈ ks.map fl ++ [fl k]; simp [hf], congrArg (· + 1) e⟩
theorem Kd.leaf {k : Kd} (h : k.dep ≤ 1) : k.parts = [] := by
  cases e : k.parts with
  | nil => rfl
  | cons q qs =>
    have := Kd.part_le (k := k) (q := q) (by rw [e]; exact List.mem_cons_self)
    have := q.pos
    omega
theorem sum_le {n : Nat} : ∀ {ks : List FK}, (∀ f ∈ ks, f.dep ≤ n) → (ks.map FK.dep).sum ≤ ks.length * n
  | [], _ => Nat.zero_le _
  | f :: ks, h => by
    rw [List.map_cons, List.sum_cons, List.length_cons, Nat.succ_mul]
    have := h f List.mem_cons_self
    have := sum_le (ks := ks) fun g hg => h g (List.mem_cons_of_mem _ hg)
    omega
theorem Kd.Le.sz_le : ∀ {n : Nat} {k : Kd}, k.Le n → k.sz ≤ 4 * n + 1
  | 0, fl k, h => by have h : k.dep ≤ 0 := h; show k.dep ≤ _; omega
  | n + 1, fl k, h => by have h : k.dep ≤ n + 1 := h; show k.dep ≤ _; omega
  | n + 1, row k, h => by have := Kd.Le.sz_le (n := n) (k := k) h; show k.sz + 1 ≤ _; omega
  | n + 1, calls ks k, ⟨h1, h2, h3⟩ => by
    have := sum_le h2
    have := Nat.mul_le_mul_right n h1
    show (ks.map FK.dep).sum + k.dep + 1 ≤ _
    omega
  | 0, row k, h => h.elim
  | 0, calls ks k, h => h.elim
theorem Kd.Le.dep_le : ∀ {n : Nat} {k : Kd}, k.Le n → k.dep ≤ n
  | 0, fl k, h => h
  | n + 1, fl k, h => h
  | n + 1, row k, h => Nat.succ_le_succ (Kd.Le.dep_le (n := n) (k := k) h)
  | n + 1, calls ks k, ⟨h1, h2, h3⟩ => by
    refine Nat.succ_le_succ ?_
    rcases fold_at (ks := ks) (k := k) with e | ⟨f, hf, e⟩
    · rw [e]; exact h3
    · rw [← e]; exact h2 f hf
  | 0, row k, h => h.elim
  | 0, calls ks k, h => h.elim
theorem FK.cmp {U : Str → Prop} (hU : ∀ x, U x → PyData.strOk x = true) : ∀ (n : Nat) {k : FK}, k.ok U → k.dep ≤ n → cmpOk n k.d = true
  | 0, k, _, h => by have := k.pos; omega
  | n + 1, num, _, _ => by show (PyData.strOk _ && true) = true; rw [strOk_lit]; rfl
  | n + 1, text, _, _ => by show (PyData.strOk _ && true) = true; rw [strOk_lit]; rfl
  | n + 1, of x, h, _ => by show (PyData.strOk _ && (PyData.strOk x && true)) = true; rw [strOk_lit, hU x h]; rfl
  | n + 1, row k, h, hd => by
    show (PyData.strOk _ && (cmpOk n k.d && true)) = true
    rw [strOk_lit, FK.cmp (k := k) hU n h (by have hd : k.dep + 1 ≤ n + 1 := hd; omega)]; rfl
theorem cmps_map {α : Type} {f : α → DV} {n : Nat} : ∀ {xs : List α}, (∀ x ∈ xs, cmpOk n (f x) = true) → cmpOks n (xs.map f) = true
  | [], _ => rfl
  | x :: xs, h => by
    show (cmpOk n (f x) && cmpOks n (xs.map f)) = true
    rw [h x List.mem_cons_self, cmps_map fun y hy => h y (List.mem_cons_of_mem _ hy)]; rfl
theorem Kd.cmp {U : Str → Prop} (hU : ∀ x, U x → PyData.strOk x = true) : ∀ (n : Nat) {k : Kd}, k.ok U → k.dep + 1 ≤ n → cmpOk n k.d = true
  | 0, k, _, h => by omega
  | n + 1, fl k, h, hd => FK.cmp hU (n + 1) h (by have hd : k.dep + 1 ≤ n + 1 := hd; omega)
  | n + 1, row k, h, hd => by
    show (PyData.strOk _ && (cmpOk n k.d && true)) = true
    rw [strOk_lit, Kd.cmp (k := k) hU n h (by have hd : k.dep + 1 + 1 ≤ n + 1 := hd; omega)]; rfl
  | 1, calls ks k, h, hd => by have := (Kd.calls ks k).pos; omega
  | n + 2, calls ks k, ⟨h1, h2⟩, hd => by
    have hd : ks.foldr (fun f m => Nat.max f.dep m) k.dep + 1 + 1 ≤ n + 1 + 1 := hd
    have q := fold_le (ks := ks) (k := k)
    show (PyData.strOk _ && (cmpOks n (ks.map FK.d) && (cmpOk (n + 1) k.d && true))) = true
    rw [strOk_lit, cmps_map fun f hf => FK.cmp hU n (h1 f hf) (by have := q.2 f hf; omega), FK.cmp hU (n + 1) h2 (by have := q.1; omega)]; rfl
theorem Kd.ok_part {U : Str → Prop} : ∀ {k q : Kd}, k.ok U → q ∈ k.parts → q.ok U
  | fl .num, q, _, h => by cases h
  | fl .text, q, _, h => by cases h
  | fl (.of _), q, _, h => by cases h
  | fl (.row k), q, o, h => by
    have h : q ∈ [fl k] := h
    rw [List.mem_singleton] at h; subst h; exact o
  | row k, q, o, h => by
    have h : q ∈ [k] := h
    rw [List.mem_singleton] at h; subst h; exact o
  | calls ks k, q, o, h => by
    have h : q ∈ ks.map fl ++ [fl k] := h
    rw [List.mem_append, List.mem_map, List.mem_singleton] at h
    rcases h with ⟨f, hf, rfl⟩ | rfl
    · exact o.1 f hf
    · exact o.2
theorem fl_d (ks : List FK) : ks.map FK.d = (ks.map Kd.fl).map Kd.d := by rw [List.map_map]; rfl
theorem inner_ok {p : Pgm} {k : Nat} {μ : Mu} {K : Kd} {P : DV → Mu → Prop} {X : XP} (hq : Has p "inner" sd_inner_bf10) (hl : K.sz ≤ 1000) (h : P (.lst (K.parts.map Kd.d)) μ) : fnS p (k + 1) "inner" [K.d] μ P X := by
  refine fn_in hq rfl ?_
  show wSs _ _ sd_inner_bf10.s [some K.d] μ _
  unfold sd_inner_bf10
  cases K with
  | fl f =>
    cases f with
    | num =>
      simp only [Kd.d, FK.d]
      walk_at "wgo"
      exact h
    | text =>
      simp only [Kd.d, FK.d]
      walk_at "wgo"
      exact h
    | of x =>
      simp only [Kd.d, FK.d]
      walk_at "wgo"
      exact h
    | row f =>
      simp only [Kd.d, FK.d]
      walk_at "wgo"
      exact h
  | row f =>
      simp only [Kd.d]
      walk_at "wgo"
      exact h
  | calls fs f =>
    simp only [Kd.d]
    walk_at "wgo"
    have e := (Kd.calls fs f).sz_parts
    have l := szs_len (ks := (Kd.calls fs f).parts)
    have e2 : (Kd.calls fs f).parts.length = fs.length + 1 := by show (fs.map Kd.fl ++ [Kd.fl f]).length = _; simp
    refine ⟨by rw [List.length_map]; exact line_100 (by omega), ?_⟩
    have e3 : fs.map FK.d ++ [f.d] = (Kd.calls fs f).parts.map Kd.d := by
      show _ = (fs.map Kd.fl ++ [Kd.fl f]).map Kd.d
      rw [List.map_append, ← fl_d]; rfl
    rw [e3]
    exact h
end Sr

set_option Elab.async false
set_option linter.all false
set_option maxRecDepth 100000
set_option autoImplicit false
/-! The walk of depth and of the law's own look. -/
namespace Sr
open PySem PySem.Spec PyProof.Rows L2
def sd__law_within_5662 : SD := ⟨["_law_whole", "_law_found", "_law_waits", "_law_one", "_law_deep", "_law_part"], ["_law_whole"],
  (.cons (.asg (.var 1) (.lst true .nil))
  (.cons (.asg (.var 2) (.lst true (.cons (.tup (.cons (.var 0) (.cons (.int 1) .nil))) .nil)))
  (.cons (.while_ (.cmp .ne (.var 2) (.lst false .nil)) (.cons (.asg (.tup (.cons (.var 3) (.cons (.var 4) .nil))) (.bm .popAt (.var 2) (.cons (.int 0) .nil))) (.cons (.expr (.bm .append (.var 1) (.cons (.tup (.cons (.var 3) (.cons (.var 4) .nil))) .nil))) (.cons (.ite (.cmp .eq (.op .ix (.var 3) (.int 0)) (.str "row")) (.cons (.expr (.bm .append (.var 2) (.cons (.tup (.cons (.op .ix (.var 3) (.int 1)) (.cons (.op (.add false) (.var 4) (.int 1)) .nil))) .nil))) .nil) .nil) (.cons (.ite (.cmp .eq (.op .ix (.var 3) (.int 0)) (.str "calls")) (.cons (.expr (.bm .extend (.var 2) (.cons (.comp false [5] (.tup (.cons (.var 5) (.cons (.op (.add false) (.var 4) (.int 1)) .nil))) (.var 5) (.seq (.op (.add false) (.op .ix (.var 3) (.int 1)) (.tup (.cons (.op .ix (.var 3) (.int 2)) .nil)))) .nil) .nil))) .nil) .nil) (.cons (.ite (.cmp .eq (.op .ix (.var 3) (.int 0)) (.str "answers")) (.cons (.expr (.bm .append (.var 2) (.cons (.tup (.cons (.op .ix (.var 3) (.int 2)) (.cons (.op (.add false) (.var 4) (.int 1)) .nil))) .nil))) .nil) .nil) .nil))))))
  (.cons (.ret (.frz (.var 1))) .nil))))⟩
def sd_depth_ce88 : SD := ⟨["kind", "deep", "level", "one", "part"], ["kind"],
  (.cons (.asg (.var 1) (.int 0))
  (.cons (.asg (.var 2) (.lst false (.cons (.var 0) .nil)))
  (.cons (.while_ (.cmp .ne (.var 2) (.lst false .nil)) (.cons (.aug 1 (.add false) (.int 1)) (.cons (.asg (.var 2) (.comp2 false [3, 4] [4] (.var 4) (.var 3) (.seq (.var 2)) .nil (.var 4) (.seq (.call "inner" (.cons (.var 3) .nil))) .nil)) .nil)))
  (.cons (.ret (.var 1)) .nil))))⟩
theorem okD_kds {U : Str → Prop} (hU : ∀ x, U x → PyData.strOk x = true) {ks : List Kd} (h : ∀ k ∈ ks, k.ok U) (hd : ∀ k ∈ ks, k.dep ≤ 90) : okD (.lst (ks.map Kd.d)) :=
  okD_of 100 (cmps_map fun k hk => Kd.cmp hU 99 (h k hk) (by have := hd k hk; omega)) (by decide)
theorem flat_parts_sz : ∀ {ks : List Kd}, szs (ks.flatMap Kd.parts) + ks.length = szs ks
  | [] => rfl
  | k :: ks => by
    rw [List.flatMap_cons, szs_app, szs_cons, List.length_cons]
    have := k.sz_parts
    have := flat_parts_sz (ks := ks)
    omega
theorem depth_ok {p : Pgm} {k : Nat} {μ : Mu} {K : Kd} {U : Str → Prop} {P : DV → Mu → Prop} {X : XP} (hi : Has p "inner" sd_inner_bf10) (hq : Has p "depth" sd_depth_ce88) (hU : ∀ x, U x → PyData.strOk x = true) (hK : K.ok U) (hl : K.sz ≤ 900) (hd : K.dep ≤ 90) (h : P (.int K.dep) μ) : fnS p (k + 2) "depth" [K.d] μ P X := by
  refine fn_in hq rfl ?_
  show wSs _ _ sd_depth_ce88.s [some K.d, none, none, none, none] μ _
  unfold sd_depth_ce88
  refine st ?_
  walk_at "ws"
  refine st ?_
  walk_at "ws"
  refine st ?_
  refine while_ok (fun m γ μ' => ∃ (ks : List Kd) (n : Nat) (x y : Option DV), γ = [some K.d, some (.int n), some (.lst (ks.map Kd.d)), x, y] ∧ μ' = μ ∧ n + m = K.dep ∧ (∀ q ∈ ks, q.ok U) ∧ (∀ q ∈ ks, n + q.dep ≤ K.dep) ∧ szs ks ≤ 900 ∧ ((ks = [] ∧ n = K.dep) ∨ ∃ q ∈ ks, n + q.dep = K.dep)) K.dep
    ⟨[K], 0, none, none, rfl, rfl, Nat.zero_add _, fun q hq => by rw [List.mem_singleton] at hq; subst hq; exact hK, fun q hq => by rw [List.mem_singleton] at hq; subst hq; omega, by rw [szs_cons, szs_nil]; exact hl, .inr ⟨K, List.mem_singleton.mpr rfl, Nat.zero_add _⟩⟩ ?_
  rintro m γ μ' ⟨ks, n, x, y, rfl, rfl, hm, ho, hle, hs, hat⟩
  walk_at "ws"
  refine ⟨okD_kds hU ho fun q hq => by have := hle q hq; omega, okD_nil, ?_⟩
  cases ks with
  | nil =>
    rw [List.map_nil, if_neg (by rw [eqvDs_nil]; decide)]
    rcases hat with ⟨_, rfl⟩ | ⟨q, hq, _⟩
    · walk_at "wgo"
      exact h
    · cases hq
  | cons q0 qs =>
    rw [if_pos (by rfl)]
    have hn : 0 < m := by
      rcases hat with ⟨e, _⟩ | ⟨q, hq, e⟩
      · cases e
      · have := q.pos; omega
    have hne : ¬ ((q0 :: qs) = []) := by simp
    generalize q0 :: qs = ks at *
    walk_at "wgo augW"
    have hfl := flat_parts_sz (ks := ks)
    refine compF_by (fun rest acc μ2 => ∃ done todo : List Kd, acc = (done.flatMap Kd.parts).map Kd.d ∧ rest = todo.map Kd.d ∧ ks = done ++ todo ∧ μ2 = μ') (fun _ _ _ _ => by first | trivial | rfl) ?_ ?_ _ ⟨[], ks, rfl, rfl, rfl, rfl⟩
    · rintro d ds acc μ2 N ⟨done, todo, rfl, e1, e2, rfl⟩ nxt
      cases todo with
      | nil => cases e1
      | cons z todo =>
        rw [List.map_cons] at e1
        obtain ⟨rfl, rfl⟩ := List.cons.inj e1
        walk_at "ws wipeG"
        have hz : szs ks = szs done + (z.sz + szs todo) := by rw [e2, szs_app, szs_cons]
        have hd2 := flat_parts_sz (ks := done)
        have hl1 := szs_len (ks := done.flatMap Kd.parts)
        have hl2 := szs_len (ks := z.parts)
        have hl3 := z.sz_parts
        refine inner_ok hi (by omega) ⟨_, rfl, ?_⟩
        refine compF_map Kd.d rfl (line_100 (by rw [List.length_map]; omega)) (fun q hq acc kk ha hk => ⟨ha, hk⟩) ?_
        rw [← List.map_append]
        refine nxt _ _ ⟨done ++ [z], todo, ?_, rfl, by rw [e2, List.append_assoc]; rfl, rfl⟩
        rw [List.flatMap_append, List.flatMap_singleton]
    · rintro acc μ2 ⟨done, todo, rfl, e1, e2, rfl⟩
      cases todo with
      | cons z todo => cases e1
      | nil =>
        rw [List.append_nil] at e2
        subst e2
        refine sn ?_
        refine ⟨m - 1, by omega, ks.flatMap Kd.parts, n + 1, _, _, rfl, rfl, by omega, fun q hq => ?_, fun q hq => ?_, by omega, ?_⟩
        · obtain ⟨z, hz, hq⟩ := List.mem_flatMap.mp hq
          exact Kd.ok_part (ho z hz) hq
        · obtain ⟨z, hz, hq⟩ := List.mem_flatMap.mp hq
          have := Kd.part_le hq
          have := hle z hz
          omega
        · rcases hat with ⟨e, _⟩ | ⟨q, hq, e⟩
          · exact absurd e hne
          · rcases q.part_at with e2 | ⟨q2, hq2, e2⟩
            · refine .inl ⟨?_, by omega⟩
              rw [List.flatMap_eq_nil_iff]
              intro z hz
              exact Kd.leaf (by have := hle z hz; omega)
            · exact .inr ⟨q2, List.mem_flatMap.mpr ⟨q, hq, hq2⟩, by omega⟩
/-- a kind and how deep it stands -/
def pr (q : Kd × Nat) : DV := .tup [q.1.d, .int q.2]
theorem okD_prs {U : Str → Prop} (hU : ∀ x, U x → PyData.strOk x = true) {ks : List (Kd × Nat)} (h : ∀ k ∈ ks, k.1.ok U) (hd : ∀ k ∈ ks, k.1.dep ≤ 91) : okD (.lst (ks.map pr)) :=
  okD_of 110 (cmps_map fun k hk => by
    show (cmpOk 108 k.1.d && true) = true
    rw [Kd.cmp hU 108 (h k hk) (by have := hd k hk; omega)]; rfl) (by decide)
def szp (ks : List (Kd × Nat)) : Nat := (ks.map fun k => k.1.sz).sum
theorem szp_cons {k : Kd × Nat} {ks : List (Kd × Nat)} : szp (k :: ks) = k.1.sz + szp ks := by unfold szp; rw [List.map_cons, List.sum_cons]
theorem szp_app {ks js : List (Kd × Nat)} : szp (ks ++ js) = szp ks + szp js := by unfold szp; rw [List.map_append, List.sum_append]
theorem szp_nx {ks : List Kd} {n : Nat} : szp (ks.map fun k => (k, n)) = szs ks := by unfold szp szs; rw [List.map_map]; rfl
theorem szp_len : ∀ {ks : List (Kd × Nat)}, ks.length ≤ szp ks
  | [] => Nat.le_refl _
  | k :: ks => by
    have := szp_len (ks := ks)
    have := k.1.szpos
    rw [szp_cons, List.length_cons]; omega
theorem while_by {Γ : Cxt} {Wd : XD} {c : T} {b : Ss} {γ : Ga} {μ : Mu} {D : DEnds} (J : Nat → Ga → Mu → Prop) (m0 : Nat) (h0 : J m0 γ μ) (hs : ∀ m γ μ (N : Ga → Mu → Prop), J m γ μ → (∀ m2 γ' μ', m2 < m → J m2 γ' μ' → N γ' μ') →
    wT Γ Wd c γ μ fun k μ1 => if k = true then wSs Γ Wd b γ μ1 { nx := N, rt := D.rt, bk := D.nx, ct := N } else D.nx γ μ1) : wS Γ Wd (.while_ c b) γ μ D :=
  while_ok J m0 h0 fun m γ μ j => hs m γ μ _ j fun m2 γ' μ' h j' => ⟨m2, h, j'⟩
theorem within_ok {p : Pgm} {k : Nat} {μ : Mu} {K : Kd} {U : Str → Prop} {P : DV → Mu → Prop} {X : XP} (hq : Has p "_law_within" sd__law_within_5662) (hU : ∀ x, U x → PyData.strOk x = true) (hK : K.ok U) (hl : K.sz ≤ 900) (hd : K.dep ≤ 90)
    (h : ∀ (F : List (Kd × Nat)) μ', F.length ≤ 900 → (∀ q ∈ F, q.2 ≤ K.dep) → (∃ q ∈ F, q.2 = K.dep) → Grow μ μ' → P (.lst (F.map pr)) μ') : fnS p (k + 1) "_law_within" [K.d] μ P X := by
  refine fn_in hq rfl ?_
  show wSs _ _ sd__law_within_5662.s [some K.d, none, none, none, none, none] μ _
  unfold sd__law_within_5662
  refine st ?_
  walk_at "ws"
  intro f hf
  refine st ?_
  walk_at "ws"
  intro w hw
  have hwf : w ≠ f := fun e => by subst e; rw [upm_same] at hw; cases hw
  rw [upm_ne hwf] at hw
  refine st ?_
  refine while_by (fun m γ μ' => ∃ (F W : List (Kd × Nat)) (x y z : Option DV), γ = [some K.d, some (.ref f), some (.ref w), x, y, z] ∧ m = szp W ∧ μ' f = some (.lst (F.map pr)) ∧ μ' w = some (.lst (W.map pr)) ∧ (∀ a, a ≠ f → a ≠ w → μ' a = μ a) ∧ F.length + szp W ≤ 900 ∧
    (∀ q ∈ W, q.1.ok U) ∧ (∀ q ∈ W, q.2 + q.1.dep ≤ K.dep + 1) ∧ (∀ q ∈ F, q.2 ≤ K.dep) ∧ ((∃ q ∈ F, q.2 = K.dep) ∨ ∃ q ∈ W, q.2 + q.1.dep = K.dep + 1)) (szp [(K, 1)])
    ⟨[], [(K, 1)], none, none, none, rfl, rfl, by rw [upm_ne (Ne.symm hwf), upm_same]; rfl, upm_same, fun a h1 h2 => by rw [upm_ne h2, upm_ne h1], by rw [szp_cons]; show 0 + (K.sz + 0) ≤ 900; omega,
      fun q hq => by rw [List.mem_singleton] at hq; subst hq; exact hK, fun q hq => by rw [List.mem_singleton] at hq; subst hq; show 1 + K.dep ≤ _; omega, fun q hq => (by cases hq), .inr ⟨(K, 1), List.mem_singleton.mpr rfl, Nat.add_comm _ _⟩⟩ ?_
  rintro m γ μ' N ⟨F, W, x, y, z, rfl, rfl, ef, ew, eo, hs, ho, hle, hF, hat⟩ nxt
  simp -implicitDefEqProofs only [wS, wE, wEs, wT, wTs, wI, wG, wGs, gs0, gsS, asB, asI, o_eq, o_ne, o_addI, o_addS, o_addT, o_addL, o_sub, o_mul, o_fdiv, o_mod, o_pow, o_lt, o_le, o_gt, o_ge, o_isN, o_notN, o_ixS, o_ixT, o_ixL, o_ixR, o_ixO, atN_0, atN_1, atN_2, atN_3, atN_4, atN_5, atN_6, atN_7, atN_8, atN_9, atN_10, atN_11, atN_12, atN_13, atN_14, atN_15, List.getElem?_cons_succ, List.getElem?_cons_zero, mut_is, newF, newT, setW_is, bmW, bmT, bfW, slB, slW, sq_l, sq_r, sq_t, lc_l, lst_tup, implies_true, intsD_map, strsD_map, blsD_map, List.set_cons_zero, List.set_cons_succ, if_true, if_false, Bool.false_eq_true, Bool.true_eq_false, Option.some.injEq, MO.lst.injEq, DV.ref.injEq, DV.int.injEq, DV.str.injEq, DV.lst.injEq, DV.tup.injEq, exists_eq_left', exists_eq_left, exists_eq', exists_eq, exists_and_left, true_and, and_true, dl_lst, dl_tup, dl_int, dl_str, dl_bl, dl_non, dl_rol, okD_int, okD_bl, okD_non, okD_str, eqv_ss, eqv_ii, eqv_nn, eqv_bb, eqv_ll, eqv_tt, eqvDs_nil, eqvDs_cons, eqvDs_cn, eqvDs_nc, lit_inj, strOk_lit, atI_m1a, atI_m1b, atI_m1c, atI_m1d, atI_m1e, o_innL, o_ninL, inD_nil, inD_cons, flS, flI, List.all_cons, List.all_nil, Bool.and_true, Bool.and_self, Bool.or_false, Bool.or_true, Bool.true_or, Bool.false_or, decide_true, decide_false, reduceIte, String.reduceEq, Gs.len, midD, List.length_cons, List.length_nil, List.take_succ_cons, List.take_zero, List.take_nil, List.drop_zero, List.drop_succ_cons, List.drop_nil, List.nil_append, List.cons_append, List.getD_cons_zero, List.map_cons, List.map_nil, Nat.zero_add, Nat.add_zero, Nat.reduceAdd, Nat.reduceLeDiff, Nat.reduceSub, Int.reduceSub, Int.reduceAdd, Int.reduceMul, Int.reduceLT, Int.reduceLE, Bool.not_eq_true', Bool.not_true, Bool.not_false, Bool.not_not, decide_eq_true_eq, isNon, tyD, isT, upm_same, dl_ref ew]
  refine ⟨okD_prs hU ho fun q hq => by have := hle q hq; omega, okD_nil, ?_⟩
  have efn : f ≠ w := Ne.symm hwf
  cases W with
  | nil =>
    rw [List.map_nil, if_neg (by rw [eqvDs_nil]; decide)]
    refine st ?_
    walk_at "ws"
    refine frz_ok ef (h F _ (by omega) hF ?_ fun a o e => ?_)
    · rcases hat with q | ⟨q, hq, _⟩
      · exact q
      · cases hq
    · have h1 : a ≠ f := fun z => by subst z; rw [hf] at e; cases e
      have h2 : a ≠ w := fun z => by subst z; rw [hw] at e; cases e
      rw [remf_ne h1, eo a h1 h2]; exact e
  | cons q W =>
    obtain ⟨c, n⟩ := q
    rw [if_pos (by rfl)]
    rw [szp_cons] at hs
    have hcs := c.sz_parts
    have hcl := szs_len (ks := c.parts)
    have hwl := szp_len (ks := W)
    have hcd := hle (c, n) List.mem_cons_self
    have hco := ho (c, n) List.mem_cons_self
    -- what is to be shown at the end
    have fin : ∀ (x y z : Option DV) (μ3 : Mu), μ3 f = some (.lst ((F ++ [(c, n)]).map pr)) → μ3 w = some (.lst ((W ++ c.parts.map fun k => (k, n + 1)).map pr)) → (∀ a, a ≠ f → a ≠ w → μ3 a = μ a) →
        N [some K.d, some (.ref f), some (.ref w), x, y, z] μ3 := by
      intro x y z μ3 g1 g2 g3
      have hsz : szp (W ++ c.parts.map fun k => (k, n + 1)) = szp W + szs c.parts := by rw [szp_app, szp_nx]
      refine nxt _ _ _ ?_ ⟨F ++ [(c, n)], W ++ c.parts.map fun k => (k, n + 1), x, y, z, rfl, rfl, g1, g2, g3, ?_, fun q hq => ?_, fun q hq => ?_, fun q hq => ?_, ?_⟩
      · rw [hsz, szp_cons]; show _ < c.sz + _; omega
      · rw [hsz, List.length_append, List.length_singleton]
        have hs : F.length + (c.sz + szp W) ≤ 900 := hs
        omega
      · rcases List.mem_append.mp hq with e | e
        · exact ho q (List.mem_cons_of_mem _ e)
        · obtain ⟨k, hk, rfl⟩ := List.mem_map.mp e
          exact Kd.ok_part hco hk
      · rcases List.mem_append.mp hq with e | e
        · exact hle q (List.mem_cons_of_mem _ e)
        · obtain ⟨k, hk, rfl⟩ := List.mem_map.mp e
          have := Kd.part_le hk
          show n + 1 + k.dep ≤ _
          have hcd : n + c.dep ≤ K.dep + 1 := hcd
          omega
      · rcases List.mem_append.mp hq with e | e
        · exact hF q e
        · rw [List.mem_singleton] at e; subst e
          have := c.pos
          have hcd : n + c.dep ≤ K.dep + 1 := hcd
          show n ≤ _
          omega
      · rcases hat with ⟨q, hq, e⟩ | ⟨q, hq, e⟩
        · exact .inl ⟨q, List.mem_append_left _ hq, e⟩
        · rcases List.mem_cons.mp hq with e2 | e2
          · subst e2
            have e : n + c.dep = K.dep + 1 := e
            rcases c.part_at with e3 | ⟨k, hk, e3⟩
            · exact .inl ⟨(c, n), List.mem_append_right _ (List.mem_singleton.mpr rfl), by show n = _; omega⟩
            · exact .inr ⟨(k, n + 1), List.mem_append_right _ (List.mem_map.mpr ⟨k, hk, rfl⟩), by show n + 1 + k.dep = _; omega⟩
          · exact .inr ⟨q, List.mem_append_left _ e2, e⟩
    have leaf : ∀ (x y z : Option DV), c.parts = [] → N _ (upm (upm μ' w (.lst (W.map pr))) f (.lst (F.map pr ++ [.tup [c.d, .int n]]))) := fun x y z e => fin x y z (upm (upm μ' w (.lst (W.map pr))) f (.lst (F.map pr ++ [pr (c, n)])))
      (by rw [upm_same, List.map_append]; rfl) (by rw [upm_ne hwf, upm_same, e, List.map_nil, List.append_nil]) (fun a h1 h2 => by rw [upm_ne h1, upm_ne h2, eo a h1 h2])
    have more : ∀ (x y z : Option DV) (ys : List DV), ys = (c.parts.map fun k => (k, n + 1)).map pr → N _ (upm (upm (upm μ' w (.lst (W.map pr))) f (.lst (F.map pr ++ [.tup [c.d, .int n]]))) w (.lst (W.map pr ++ ys))) := fun x y z ys e => fin x y z (upm (upm (upm μ' w (.lst (W.map pr))) f (.lst (F.map pr ++ [pr (c, n)]))) w (.lst (W.map pr ++ ys)))
      (by rw [upm_ne efn, upm_same, List.map_append]; rfl) (by rw [upm_same, List.map_append, e]) (fun a h1 h2 => by rw [upm_ne h2, upm_ne h1, upm_ne h2, eo a h1 h2])
    refine st ?_
    simp -implicitDefEqProofs only [wS, wE, wEs, wT, wTs, wI, wG, wGs, gs0, gsS, asB, asI, o_eq, o_ne, o_addI, o_addS, o_addT, o_addL, o_sub, o_mul, o_fdiv, o_mod, o_pow, o_lt, o_le, o_gt, o_ge, o_isN, o_notN, o_ixS, o_ixT, o_ixL, o_ixR, o_ixO, atN_0, atN_1, atN_2, atN_3, atN_4, atN_5, atN_6, atN_7, atN_8, atN_9, atN_10, atN_11, atN_12, atN_13, atN_14, atN_15, List.getElem?_cons_succ, List.getElem?_cons_zero, mut_is, newF, newT, setW_is, bmW, bmT, bfW, slB, slW, sq_l, sq_r, sq_t, lc_l, lst_tup, implies_true, intsD_map, strsD_map, blsD_map, List.set_cons_zero, List.set_cons_succ, if_true, if_false, Bool.false_eq_true, Bool.true_eq_false, Option.some.injEq, MO.lst.injEq, DV.ref.injEq, DV.int.injEq, DV.str.injEq, DV.lst.injEq, DV.tup.injEq, exists_eq_left', exists_eq_left, exists_eq', exists_eq, exists_and_left, true_and, and_true, dl_lst, dl_tup, dl_int, dl_str, dl_bl, dl_non, dl_rol, okD_int, okD_bl, okD_non, okD_str, eqv_ss, eqv_ii, eqv_nn, eqv_bb, eqv_ll, eqv_tt, eqvDs_nil, eqvDs_cons, eqvDs_cn, eqvDs_nc, lit_inj, strOk_lit, atI_m1a, atI_m1b, atI_m1c, atI_m1d, atI_m1e, o_innL, o_ninL, inD_nil, inD_cons, flS, flI, List.all_cons, List.all_nil, Bool.and_true, Bool.and_self, Bool.or_false, Bool.or_true, Bool.true_or, Bool.false_or, decide_true, decide_false, reduceIte, String.reduceEq, Gs.len, midD, List.length_cons, List.length_nil, List.take_succ_cons, List.take_zero, List.take_nil, List.drop_zero, List.drop_succ_cons, List.drop_nil, List.nil_append, List.cons_append, List.getD_cons_zero, List.map_cons, List.map_nil, Nat.zero_add, Nat.add_zero, Nat.reduceAdd, Nat.reduceLeDiff, Nat.reduceSub, Int.reduceSub, Int.reduceAdd, Int.reduceMul, Int.reduceLT, Int.reduceLE, Bool.not_eq_true', Bool.not_true, Bool.not_false, Bool.not_not, decide_eq_true_eq, isNon, tyD, isT, upm_same, ew, ef, upm_ne efn, upm_ne hwf, List.map_cons, seqIx0, List.eraseIdx_cons_zero, pr]
    refine ⟨by decide, by decide, ?_⟩
    have hF1 : F.length < sizeLine := sizeLine_gt (by omega)
    refine st ?_
    simp -implicitDefEqProofs only [wS, wE, wEs, wT, wTs, wI, wG, wGs, gs0, gsS, asB, asI, o_eq, o_ne, o_addI, o_addS, o_addT, o_addL, o_sub, o_mul, o_fdiv, o_mod, o_pow, o_lt, o_le, o_gt, o_ge, o_isN, o_notN, o_ixS, o_ixT, o_ixL, o_ixR, o_ixO, atN_0, atN_1, atN_2, atN_3, atN_4, atN_5, atN_6, atN_7, atN_8, atN_9, atN_10, atN_11, atN_12, atN_13, atN_14, atN_15, List.getElem?_cons_succ, List.getElem?_cons_zero, mut_is, newF, newT, setW_is, bmW, bmT, bfW, slB, slW, sq_l, sq_r, sq_t, lc_l, lst_tup, implies_true, intsD_map, strsD_map, blsD_map, List.set_cons_zero, List.set_cons_succ, if_true, if_false, Bool.false_eq_true, Bool.true_eq_false, Option.some.injEq, MO.lst.injEq, DV.ref.injEq, DV.int.injEq, DV.str.injEq, DV.lst.injEq, DV.tup.injEq, exists_eq_left', exists_eq_left, exists_eq', exists_eq, exists_and_left, true_and, and_true, dl_lst, dl_tup, dl_int, dl_str, dl_bl, dl_non, dl_rol, okD_int, okD_bl, okD_non, okD_str, eqv_ss, eqv_ii, eqv_nn, eqv_bb, eqv_ll, eqv_tt, eqvDs_nil, eqvDs_cons, eqvDs_cn, eqvDs_nc, lit_inj, strOk_lit, atI_m1a, atI_m1b, atI_m1c, atI_m1d, atI_m1e, o_innL, o_ninL, inD_nil, inD_cons, flS, flI, List.all_cons, List.all_nil, Bool.and_true, Bool.and_self, Bool.or_false, Bool.or_true, Bool.true_or, Bool.false_or, decide_true, decide_false, reduceIte, String.reduceEq, Gs.len, midD, List.length_cons, List.length_nil, List.take_succ_cons, List.take_zero, List.take_nil, List.drop_zero, List.drop_succ_cons, List.drop_nil, List.nil_append, List.cons_append, List.getD_cons_zero, List.map_cons, List.map_nil, Nat.zero_add, Nat.add_zero, Nat.reduceAdd, Nat.reduceLeDiff, Nat.reduceSub, Int.reduceSub, Int.reduceAdd, Int.reduceMul, Int.reduceLT, Int.reduceLE, Bool.not_eq_true', Bool.not_true, Bool.not_false, Bool.not_not, decide_eq_true_eq, isNon, tyD, isT, upm_same, ef, upm_ne efn, List.length_map]
    refine ⟨hF1, ?_⟩
    cases c with
    | fl f =>
      cases f with
      | num =>
        simp only [Kd.d, FK.d]
        repeat (first | (with_reducible refine st ?_) | (with_reducible refine sn ?_) | (simp -implicitDefEqProofs only [wS, wE, wEs, wT, wTs, wI, wG, wGs, gs0, gsS, asB, asI, o_eq, o_ne, o_addI, o_addS, o_addT, o_addL, o_sub, o_mul, o_fdiv, o_mod, o_pow, o_lt, o_le, o_gt, o_ge, o_isN, o_notN, o_ixS, o_ixT, o_ixL, o_ixR, o_ixO, atN_0, atN_1, atN_2, atN_3, atN_4, atN_5, atN_6, atN_7, atN_8, atN_9, atN_10, atN_11, atN_12, atN_13, atN_14, atN_15, List.getElem?_cons_succ, List.getElem?_cons_zero, mut_is, newF, newT, setW_is, bmW, bmT, bfW, slB, slW, sq_l, sq_r, sq_t, lc_l, lst_tup, implies_true, intsD_map, strsD_map, blsD_map, List.set_cons_zero, List.set_cons_succ, if_true, if_false, Bool.false_eq_true, Bool.true_eq_false, Option.some.injEq, MO.lst.injEq, DV.ref.injEq, DV.int.injEq, DV.str.injEq, DV.lst.injEq, DV.tup.injEq, exists_eq_left', exists_eq_left, exists_eq', exists_eq, exists_and_left, true_and, and_true, dl_lst, dl_tup, dl_int, dl_str, dl_bl, dl_non, dl_rol, okD_int, okD_bl, okD_non, okD_str, eqv_ss, eqv_ii, eqv_nn, eqv_bb, eqv_ll, eqv_tt, eqvDs_nil, eqvDs_cons, eqvDs_cn, eqvDs_nc, lit_inj, strOk_lit, atI_m1a, atI_m1b, atI_m1c, atI_m1d, atI_m1e, o_innL, o_ninL, inD_nil, inD_cons, flS, flI, List.all_cons, List.all_nil, Bool.and_true, Bool.and_self, Bool.or_false, Bool.or_true, Bool.true_or, Bool.false_or, decide_true, decide_false, reduceIte, String.reduceEq, Gs.len, midD, List.length_cons, List.length_nil, List.take_succ_cons, List.take_zero, List.take_nil, List.drop_zero, List.drop_succ_cons, List.drop_nil, List.nil_append, List.cons_append, List.getD_cons_zero, List.map_cons, List.map_nil, Nat.zero_add, Nat.add_zero, Nat.reduceAdd, Nat.reduceLeDiff, Nat.reduceSub, Int.reduceSub, Int.reduceAdd, Int.reduceMul, Int.reduceLT, Int.reduceLE, Bool.not_eq_true', Bool.not_true, Bool.not_false, Bool.not_not, decide_eq_true_eq, isNon, tyD, isT, upm_same, ef, upm_ne efn, upm_ne hwf, List.length_map]))
        exact leaf _ _ _ rfl
      | text =>
        simp only [Kd.d, FK.d]
        repeat (first | (with_reducible refine st ?_) | (with_reducible refine sn ?_) | (simp -implicitDefEqProofs only [wS, wE, wEs, wT, wTs, wI, wG, wGs, gs0, gsS, asB, asI, o_eq, o_ne, o_addI, o_addS, o_addT, o_addL, o_sub, o_mul, o_fdiv, o_mod, o_pow, o_lt, o_le, o_gt, o_ge, o_isN, o_notN, o_ixS, o_ixT, o_ixL, o_ixR, o_ixO, atN_0, atN_1, atN_2, atN_3, atN_4, atN_5, atN_6, atN_7, atN_8, atN_9, atN_10, atN_11, atN_12, atN_13, atN_14, atN_15, List.getElem?_cons_succ, List.getElem?_cons_zero, mut_is, newF, newT, setW_is, bmW, bmT, bfW, slB, slW, sq_l, sq_r, sq_t, lc_l, lst_tup, implies_true, intsD_map, strsD_map, blsD_map, List.set_cons_zero, List.set_cons_succ, if_true, if_false, Bool.false_eq_true, Bool.true_eq_false, Option.some.injEq, MO.lst.injEq, DV.ref.injEq, DV.int.injEq, DV.str.injEq, DV.lst.injEq, DV.tup.injEq, exists_eq_left', exists_eq_left, exists_eq', exists_eq, exists_and_left, true_and, and_true, dl_lst, dl_tup, dl_int, dl_str, dl_bl, dl_non, dl_rol, okD_int, okD_bl, okD_non, okD_str, eqv_ss, eqv_ii, eqv_nn, eqv_bb, eqv_ll, eqv_tt, eqvDs_nil, eqvDs_cons, eqvDs_cn, eqvDs_nc, lit_inj, strOk_lit, atI_m1a, atI_m1b, atI_m1c, atI_m1d, atI_m1e, o_innL, o_ninL, inD_nil, inD_cons, flS, flI, List.all_cons, List.all_nil, Bool.and_true, Bool.and_self, Bool.or_false, Bool.or_true, Bool.true_or, Bool.false_or, decide_true, decide_false, reduceIte, String.reduceEq, Gs.len, midD, List.length_cons, List.length_nil, List.take_succ_cons, List.take_zero, List.take_nil, List.drop_zero, List.drop_succ_cons, List.drop_nil, List.nil_append, List.cons_append, List.getD_cons_zero, List.map_cons, List.map_nil, Nat.zero_add, Nat.add_zero, Nat.reduceAdd, Nat.reduceLeDiff, Nat.reduceSub, Int.reduceSub, Int.reduceAdd, Int.reduceMul, Int.reduceLT, Int.reduceLE, Bool.not_eq_true', Bool.not_true, Bool.not_false, Bool.not_not, decide_eq_true_eq, isNon, tyD, isT, upm_same, ef, upm_ne efn, upm_ne hwf, List.length_map]))
        exact leaf _ _ _ rfl
      | of x =>
        simp only [Kd.d, FK.d]
        repeat (first | (with_reducible refine st ?_) | (with_reducible refine sn ?_) | (simp -implicitDefEqProofs only [wS, wE, wEs, wT, wTs, wI, wG, wGs, gs0, gsS, asB, asI, o_eq, o_ne, o_addI, o_addS, o_addT, o_addL, o_sub, o_mul, o_fdiv, o_mod, o_pow, o_lt, o_le, o_gt, o_ge, o_isN, o_notN, o_ixS, o_ixT, o_ixL, o_ixR, o_ixO, atN_0, atN_1, atN_2, atN_3, atN_4, atN_5, atN_6, atN_7, atN_8, atN_9, atN_10, atN_11, atN_12, atN_13, atN_14, atN_15, List.getElem?_cons_succ, List.getElem?_cons_zero, mut_is, newF, newT, setW_is, bmW, bmT, bfW, slB, slW, sq_l, sq_r, sq_t, lc_l, lst_tup, implies_true, intsD_map, strsD_map, blsD_map, List.set_cons_zero, List.set_cons_succ, if_true, if_false, Bool.false_eq_true, Bool.true_eq_false, Option.some.injEq, MO.lst.injEq, DV.ref.injEq, DV.int.injEq, DV.str.injEq, DV.lst.injEq, DV.tup.injEq, exists_eq_left', exists_eq_left, exists_eq', exists_eq, exists_and_left, true_and, and_true, dl_lst, dl_tup, dl_int, dl_str, dl_bl, dl_non, dl_rol, okD_int, okD_bl, okD_non, okD_str, eqv_ss, eqv_ii, eqv_nn, eqv_bb, eqv_ll, eqv_tt, eqvDs_nil, eqvDs_cons, eqvDs_cn, eqvDs_nc, lit_inj, strOk_lit, atI_m1a, atI_m1b, atI_m1c, atI_m1d, atI_m1e, o_innL, o_ninL, inD_nil, inD_cons, flS, flI, List.all_cons, List.all_nil, Bool.and_true, Bool.and_self, Bool.or_false, Bool.or_true, Bool.true_or, Bool.false_or, decide_true, decide_false, reduceIte, String.reduceEq, Gs.len, midD, List.length_cons, List.length_nil, List.take_succ_cons, List.take_zero, List.take_nil, List.drop_zero, List.drop_succ_cons, List.drop_nil, List.nil_append, List.cons_append, List.getD_cons_zero, List.map_cons, List.map_nil, Nat.zero_add, Nat.add_zero, Nat.reduceAdd, Nat.reduceLeDiff, Nat.reduceSub, Int.reduceSub, Int.reduceAdd, Int.reduceMul, Int.reduceLT, Int.reduceLE, Bool.not_eq_true', Bool.not_true, Bool.not_false, Bool.not_not, decide_eq_true_eq, isNon, tyD, isT, upm_same, ef, upm_ne efn, upm_ne hwf, List.length_map]))
        exact leaf _ _ _ rfl
      | row f =>
        simp only [Kd.d, FK.d]
        repeat (first | (with_reducible refine st ?_) | (with_reducible refine sn ?_) | (simp -implicitDefEqProofs only [wS, wE, wEs, wT, wTs, wI, wG, wGs, gs0, gsS, asB, asI, o_eq, o_ne, o_addI, o_addS, o_addT, o_addL, o_sub, o_mul, o_fdiv, o_mod, o_pow, o_lt, o_le, o_gt, o_ge, o_isN, o_notN, o_ixS, o_ixT, o_ixL, o_ixR, o_ixO, atN_0, atN_1, atN_2, atN_3, atN_4, atN_5, atN_6, atN_7, atN_8, atN_9, atN_10, atN_11, atN_12, atN_13, atN_14, atN_15, List.getElem?_cons_succ, List.getElem?_cons_zero, mut_is, newF, newT, setW_is, bmW, bmT, bfW, slB, slW, sq_l, sq_r, sq_t, lc_l, lst_tup, implies_true, intsD_map, strsD_map, blsD_map, List.set_cons_zero, List.set_cons_succ, if_true, if_false, Bool.false_eq_true, Bool.true_eq_false, Option.some.injEq, MO.lst.injEq, DV.ref.injEq, DV.int.injEq, DV.str.injEq, DV.lst.injEq, DV.tup.injEq, exists_eq_left', exists_eq_left, exists_eq', exists_eq, exists_and_left, true_and, and_true, dl_lst, dl_tup, dl_int, dl_str, dl_bl, dl_non, dl_rol, okD_int, okD_bl, okD_non, okD_str, eqv_ss, eqv_ii, eqv_nn, eqv_bb, eqv_ll, eqv_tt, eqvDs_nil, eqvDs_cons, eqvDs_cn, eqvDs_nc, lit_inj, strOk_lit, atI_m1a, atI_m1b, atI_m1c, atI_m1d, atI_m1e, o_innL, o_ninL, inD_nil, inD_cons, flS, flI, List.all_cons, List.all_nil, Bool.and_true, Bool.and_self, Bool.or_false, Bool.or_true, Bool.true_or, Bool.false_or, decide_true, decide_false, reduceIte, String.reduceEq, Gs.len, midD, List.length_cons, List.length_nil, List.take_succ_cons, List.take_zero, List.take_nil, List.drop_zero, List.drop_succ_cons, List.drop_nil, List.nil_append, List.cons_append, List.getD_cons_zero, List.map_cons, List.map_nil, Nat.zero_add, Nat.add_zero, Nat.reduceAdd, Nat.reduceLeDiff, Nat.reduceSub, Int.reduceSub, Int.reduceAdd, Int.reduceMul, Int.reduceLT, Int.reduceLE, Bool.not_eq_true', Bool.not_true, Bool.not_false, Bool.not_not, decide_eq_true_eq, isNon, tyD, isT, upm_same, ef, upm_ne efn, upm_ne hwf, List.length_map]))
        refine ⟨sizeLine_gt (by omega), ?_⟩
        repeat (first | (with_reducible refine st ?_) | (with_reducible refine sn ?_) | (simp -implicitDefEqProofs only [wS, wE, wEs, wT, wTs, wI, wG, wGs, gs0, gsS, asB, asI, o_eq, o_ne, o_addI, o_addS, o_addT, o_addL, o_sub, o_mul, o_fdiv, o_mod, o_pow, o_lt, o_le, o_gt, o_ge, o_isN, o_notN, o_ixS, o_ixT, o_ixL, o_ixR, o_ixO, atN_0, atN_1, atN_2, atN_3, atN_4, atN_5, atN_6, atN_7, atN_8, atN_9, atN_10, atN_11, atN_12, atN_13, atN_14, atN_15, List.getElem?_cons_succ, List.getElem?_cons_zero, mut_is, newF, newT, setW_is, bmW, bmT, bfW, slB, slW, sq_l, sq_r, sq_t, lc_l, lst_tup, implies_true, intsD_map, strsD_map, blsD_map, List.set_cons_zero, List.set_cons_succ, if_true, if_false, Bool.false_eq_true, Bool.true_eq_false, Option.some.injEq, MO.lst.injEq, DV.ref.injEq, DV.int.injEq, DV.str.injEq, DV.lst.injEq, DV.tup.injEq, exists_eq_left', exists_eq_left, exists_eq', exists_eq, exists_and_left, true_and, and_true, dl_lst, dl_tup, dl_int, dl_str, dl_bl, dl_non, dl_rol, okD_int, okD_bl, okD_non, okD_str, eqv_ss, eqv_ii, eqv_nn, eqv_bb, eqv_ll, eqv_tt, eqvDs_nil, eqvDs_cons, eqvDs_cn, eqvDs_nc, lit_inj, strOk_lit, atI_m1a, atI_m1b, atI_m1c, atI_m1d, atI_m1e, o_innL, o_ninL, inD_nil, inD_cons, flS, flI, List.all_cons, List.all_nil, Bool.and_true, Bool.and_self, Bool.or_false, Bool.or_true, Bool.true_or, Bool.false_or, decide_true, decide_false, reduceIte, String.reduceEq, Gs.len, midD, List.length_cons, List.length_nil, List.take_succ_cons, List.take_zero, List.take_nil, List.drop_zero, List.drop_succ_cons, List.drop_nil, List.nil_append, List.cons_append, List.getD_cons_zero, List.map_cons, List.map_nil, Nat.zero_add, Nat.add_zero, Nat.reduceAdd, Nat.reduceLeDiff, Nat.reduceSub, Int.reduceSub, Int.reduceAdd, Int.reduceMul, Int.reduceLT, Int.reduceLE, Bool.not_eq_true', Bool.not_true, Bool.not_false, Bool.not_not, decide_eq_true_eq, isNon, tyD, isT, upm_same, ef, upm_ne efn, upm_ne hwf, List.length_map]))
        exact more _ _ _ _ rfl
    | row f =>
      simp only [Kd.d]
      repeat (first | (with_reducible refine st ?_) | (with_reducible refine sn ?_) | (simp -implicitDefEqProofs only [wS, wE, wEs, wT, wTs, wI, wG, wGs, gs0, gsS, asB, asI, o_eq, o_ne, o_addI, o_addS, o_addT, o_addL, o_sub, o_mul, o_fdiv, o_mod, o_pow, o_lt, o_le, o_gt, o_ge, o_isN, o_notN, o_ixS, o_ixT, o_ixL, o_ixR, o_ixO, atN_0, atN_1, atN_2, atN_3, atN_4, atN_5, atN_6, atN_7, atN_8, atN_9, atN_10, atN_11, atN_12, atN_13, atN_14, atN_15, List.getElem?_cons_succ, List.getElem?_cons_zero, mut_is, newF, newT, setW_is, bmW, bmT, bfW, slB, slW, sq_l, sq_r, sq_t, lc_l, lst_tup, implies_true, intsD_map, strsD_map, blsD_map, List.set_cons_zero, List.set_cons_succ, if_true, if_false, Bool.false_eq_true, Bool.true_eq_false, Option.some.injEq, MO.lst.injEq, DV.ref.injEq, DV.int.injEq, DV.str.injEq, DV.lst.injEq, DV.tup.injEq, exists_eq_left', exists_eq_left, exists_eq', exists_eq, exists_and_left, true_and, and_true, dl_lst, dl_tup, dl_int, dl_str, dl_bl, dl_non, dl_rol, okD_int, okD_bl, okD_non, okD_str, eqv_ss, eqv_ii, eqv_nn, eqv_bb, eqv_ll, eqv_tt, eqvDs_nil, eqvDs_cons, eqvDs_cn, eqvDs_nc, lit_inj, strOk_lit, atI_m1a, atI_m1b, atI_m1c, atI_m1d, atI_m1e, o_innL, o_ninL, inD_nil, inD_cons, flS, flI, List.all_cons, List.all_nil, Bool.and_true, Bool.and_self, Bool.or_false, Bool.or_true, Bool.true_or, Bool.false_or, decide_true, decide_false, reduceIte, String.reduceEq, Gs.len, midD, List.length_cons, List.length_nil, List.take_succ_cons, List.take_zero, List.take_nil, List.drop_zero, List.drop_succ_cons, List.drop_nil, List.nil_append, List.cons_append, List.getD_cons_zero, List.map_cons, List.map_nil, Nat.zero_add, Nat.add_zero, Nat.reduceAdd, Nat.reduceLeDiff, Nat.reduceSub, Int.reduceSub, Int.reduceAdd, Int.reduceMul, Int.reduceLT, Int.reduceLE, Bool.not_eq_true', Bool.not_true, Bool.not_false, Bool.not_not, decide_eq_true_eq, isNon, tyD, isT, upm_same, ef, upm_ne efn, upm_ne hwf, List.length_map]))
      refine ⟨sizeLine_gt (by omega), ?_⟩
      repeat (first | (with_reducible refine st ?_) | (with_reducible refine sn ?_) | (simp -implicitDefEqProofs only [wS, wE, wEs, wT, wTs, wI, wG, wGs, gs0, gsS, asB, asI, o_eq, o_ne, o_addI, o_addS, o_addT, o_addL, o_sub, o_mul, o_fdiv, o_mod, o_pow, o_lt, o_le, o_gt, o_ge, o_isN, o_notN, o_ixS, o_ixT, o_ixL, o_ixR, o_ixO, atN_0, atN_1, atN_2, atN_3, atN_4, atN_5, atN_6, atN_7, atN_8, atN_9, atN_10, atN_11, atN_12, atN_13, atN_14, atN_15, List.getElem?_cons_succ, List.getElem?_cons_zero, mut_is, newF, newT, setW_is, bmW, bmT, bfW, slB, slW, sq_l, sq_r, sq_t, lc_l, lst_tup, implies_true, intsD_map, strsD_map, blsD_map, List.set_cons_zero, List.set_cons_succ, if_true, if_false, Bool.false_eq_true, Bool.true_eq_false, Option.some.injEq, MO.lst.injEq, DV.ref.injEq, DV.int.injEq, DV.str.injEq, DV.lst.injEq, DV.tup.injEq, exists_eq_left', exists_eq_left, exists_eq', exists_eq, exists_and_left, true_and, and_true, dl_lst, dl_tup, dl_int, dl_str, dl_bl, dl_non, dl_rol, okD_int, okD_bl, okD_non, okD_str, eqv_ss, eqv_ii, eqv_nn, eqv_bb, eqv_ll, eqv_tt, eqvDs_nil, eqvDs_cons, eqvDs_cn, eqvDs_nc, lit_inj, strOk_lit, atI_m1a, atI_m1b, atI_m1c, atI_m1d, atI_m1e, o_innL, o_ninL, inD_nil, inD_cons, flS, flI, List.all_cons, List.all_nil, Bool.and_true, Bool.and_self, Bool.or_false, Bool.or_true, Bool.true_or, Bool.false_or, decide_true, decide_false, reduceIte, String.reduceEq, Gs.len, midD, List.length_cons, List.length_nil, List.take_succ_cons, List.take_zero, List.take_nil, List.drop_zero, List.drop_succ_cons, List.drop_nil, List.nil_append, List.cons_append, List.getD_cons_zero, List.map_cons, List.map_nil, Nat.zero_add, Nat.add_zero, Nat.reduceAdd, Nat.reduceLeDiff, Nat.reduceSub, Int.reduceSub, Int.reduceAdd, Int.reduceMul, Int.reduceLT, Int.reduceLE, Bool.not_eq_true', Bool.not_true, Bool.not_false, Bool.not_not, decide_eq_true_eq, isNon, tyD, isT, upm_same, ef, upm_ne efn, upm_ne hwf, List.length_map]))
      exact more _ _ _ _ rfl
    | calls fs f =>
      simp only [Kd.d]
      repeat (first | (with_reducible refine st ?_) | (with_reducible refine sn ?_) | (simp -implicitDefEqProofs only [wS, wE, wEs, wT, wTs, wI, wG, wGs, gs0, gsS, asB, asI, o_eq, o_ne, o_addI, o_addS, o_addT, o_addL, o_sub, o_mul, o_fdiv, o_mod, o_pow, o_lt, o_le, o_gt, o_ge, o_isN, o_notN, o_ixS, o_ixT, o_ixL, o_ixR, o_ixO, atN_0, atN_1, atN_2, atN_3, atN_4, atN_5, atN_6, atN_7, atN_8, atN_9, atN_10, atN_11, atN_12, atN_13, atN_14, atN_15, List.getElem?_cons_succ, List.getElem?_cons_zero, mut_is, newF, newT, setW_is, bmW, bmT, bfW, slB, slW, sq_l, sq_r, sq_t, lc_l, lst_tup, implies_true, intsD_map, strsD_map, blsD_map, List.set_cons_zero, List.set_cons_succ, if_true, if_false, Bool.false_eq_true, Bool.true_eq_false, Option.some.injEq, MO.lst.injEq, DV.ref.injEq, DV.int.injEq, DV.str.injEq, DV.lst.injEq, DV.tup.injEq, exists_eq_left', exists_eq_left, exists_eq', exists_eq, exists_and_left, true_and, and_true, dl_lst, dl_tup, dl_int, dl_str, dl_bl, dl_non, dl_rol, okD_int, okD_bl, okD_non, okD_str, eqv_ss, eqv_ii, eqv_nn, eqv_bb, eqv_ll, eqv_tt, eqvDs_nil, eqvDs_cons, eqvDs_cn, eqvDs_nc, lit_inj, strOk_lit, atI_m1a, atI_m1b, atI_m1c, atI_m1d, atI_m1e, o_innL, o_ninL, inD_nil, inD_cons, flS, flI, List.all_cons, List.all_nil, Bool.and_true, Bool.and_self, Bool.or_false, Bool.or_true, Bool.true_or, Bool.false_or, decide_true, decide_false, reduceIte, String.reduceEq, Gs.len, midD, List.length_cons, List.length_nil, List.take_succ_cons, List.take_zero, List.take_nil, List.drop_zero, List.drop_succ_cons, List.drop_nil, List.nil_append, List.cons_append, List.getD_cons_zero, List.map_cons, List.map_nil, Nat.zero_add, Nat.add_zero, Nat.reduceAdd, Nat.reduceLeDiff, Nat.reduceSub, Int.reduceSub, Int.reduceAdd, Int.reduceMul, Int.reduceLT, Int.reduceLE, Bool.not_eq_true', Bool.not_true, Bool.not_false, Bool.not_not, decide_eq_true_eq, isNon, tyD, isT, upm_same, ef, upm_ne efn, upm_ne hwf, List.length_map]))
      have e2 : (Kd.calls fs f).parts.length = fs.length + 1 := by show (fs.map Kd.fl ++ [Kd.fl f]).length = _; simp
      have e3 : fs.map FK.d ++ [f.d] = (Kd.calls fs f).parts.map Kd.d := by
        show _ = (fs.map Kd.fl ++ [Kd.fl f]).map Kd.d
        rw [List.map_append, ← fl_d]; rfl
      have hs2 : F.length + ((Kd.calls fs f).sz + szp W) ≤ 900 := hs
      rw [e3]
      refine ⟨line_100 (by omega), compF_map (fun q => .tup [q.d, .int ((n : Int) + 1)]) trivial (line_100 (by rw [List.length_nil]; omega)) (fun q _ acc kk ha hk => ?_) ?_⟩
      · walk_at "ws wipeG"
        exact ⟨ha, hk⟩
      · rw [List.nil_append]
        refine ⟨W.map pr, by rw [upm_ne hwf, upm_same], line_100 (by rw [List.length_map, List.length_map]; omega), ?_⟩
        walk_at "wgo"
        exact more _ _ _ _ (by rw [List.map_map]; rfl)
end Sr

set_option Elab.async false
set_option linter.all false
set_option maxRecDepth 100000
set_option autoImplicit false
/-! More of texts: repeated, cut, empty. -/
namespace Sr
open PySem PySem.Spec PyProof.Rows L2

theorem o_mulS {x : Str} {n : Int} {μ : Mu} {P : DV → Mu → Prop} : o2W .mul (.str x) (.int n) μ P = (PySem.MulOk x n ∧ P (.str (Txt.mul x n)) μ) := rfl
theorem o_inN {e : DV} {μ : Mu} {P : DV → Mu → Prop} : o2W .inn .non e μ P = inW false .non e μ P := by cases e <;> rfl
theorem okS_of {d : DV} (n : Nat) (h : cmpOk n d = true) (hn : n ≤ 64) : okS d := by
  obtain ⟨h1, h2, h3⟩ := cmpOk_is n d h
  refine ⟨h1, ?_⟩
  show ((pyD d).canLay0 && decide ((pyD d).depth ≤ 64)) = true
  rw [h2, decide_eq_true (by omega)]; rfl
theorem tl_emp : tl Str.empty = [] := rfl
theorem emp_app {x : Str} : Str.empty ++ x = x := tl_ext (by rw [tl_app, tl_emp, List.nil_append])
theorem app_asc {x y z : Str} : x ++ y ++ z = x ++ (y ++ z) := tl_ext (by simp only [tl_app, List.append_assoc])
theorem tl_inj {x y : Str} : (x = y) = (tl x = tl y) := propext ⟨fun e => by rw [e], tl_ext⟩
theorem lenA {x y : Str} : (x ++ y).length = x.length + y.length := by rw [tl_len, tl_app, List.length_append]; rfl
theorem rep_fold {a : Array Nat} : ∀ (n : Nat) (b : Array Nat), ((List.replicate n a).foldl (· ++ ·) b).toList = b.toList ++ (List.replicate n a.toList).flatten
  | 0, b => by simp
  | n + 1, b => by
    rw [List.replicate_succ, List.foldl_cons, rep_fold n, List.replicate_succ, List.flatten_cons, Array.toList_append, List.append_assoc]
theorem tl_mul {c n : Nat} : tl (Txt.mul (sgn c) (n : Int)) = List.replicate n c := by
  unfold Txt.mul
  cases n with
  | zero => rfl
  | succ n =>
    rw [if_neg (by omega)]
    cases n with
    | zero => rfl
    | succ n =>
      rw [if_neg (by simp [show (sgn c).length = 1 from rfl]; omega)]
      show Array.toList _ = _
      rw [rep_fold, show ((((n + 1 + 1 : Nat)) : Int)).toNat = n + 1 + 1 from rfl]
      show [] ++ (List.replicate (n + 1 + 1) [c]).flatten = _
      rw [List.nil_append]
      generalize n + 1 + 1 = m
      induction m with
      | zero => rfl
      | succ m ih => rw [List.replicate_succ, List.flatten_cons, ih, List.replicate_succ]; rfl
theorem mulOk_n {c n : Nat} (h : n ≤ 1000) : PySem.MulOk (sgn c) (n : Int) := by
  by_cases h2 : 1 < n
  · exact mulOk_small (by omega) (by omega) (by show (1 : Nat) ≤ 10000; decide)
  · refine ⟨?_, fun a b => ?_, fun a b => ?_⟩
    · rw [decide_eq_false (by omega), decide_eq_false (by omega)]; rfl
    · have : n = 1 := by omega
      subst this; simp at b
    · have : n = 1 := by omega
      subst this; simp at b
theorem lit_sgn {s : String} {c : Char} (h : s.toList = [c]) : Str.ofString s = sgn c.toNat := tl_ext (by rw [tl_lit, h]; rfl)
theorem sIx_m1 (n d : Nat) : HT.sIx n d (some (-1)) = n - 1 := by
  show (if (-1 : Int) < 0 then ((-1 : Int) + (n : Int)).toNat else min (-1 : Int).toNat n) = n - 1
  rw [if_pos (by decide)]; omega
theorem cutS_tl {x : Str} {lo hi : Option Int} : tl (cutS x lo hi) = ((tl x).drop (HT.sIx (tl x).length 0 lo)).take (HT.sIx (tl x).length (tl x).length hi - HT.sIx (tl x).length 0 lo) := rfl
theorem tl_cut {x : Str} {i j : Nat} (h : i ≤ j) : tl (cutS x (some (i : Int)) (some (j : Int))) = ((tl x).drop i).take (j - i) := by
  rw [cutS_tl, HT.sIx_nat, HT.sIx_nat]
  generalize tl x = L
  by_cases h1 : j ≤ L.length
  · rw [Nat.min_eq_left h1, Nat.min_eq_left (by omega)]
  · rw [Nat.min_eq_right (by omega)]
    by_cases h2 : i ≤ L.length
    · rw [Nat.min_eq_left h2, List.take_of_length_le (by rw [List.length_drop]; omega), List.take_of_length_le (by rw [List.length_drop]; omega)]
    · rw [Nat.min_eq_right (by omega), List.drop_of_length_le (Nat.le_refl _), List.drop_of_length_le (by omega)]
      simp
/-- all but the last sign -/
theorem tl_butLast {x : Str} {lo : Nat} : tl (cutS x (some (lo : Int)) (some (-1))) = ((tl x).take ((tl x).length - 1)).drop lo := by
  rw [cutS_tl, HT.sIx_nat, sIx_m1]
  generalize tl x = L
  by_cases h2 : lo ≤ L.length
  · rw [Nat.min_eq_left h2, List.drop_take]
  · rw [Nat.min_eq_right (by omega), List.drop_of_length_le (Nat.le_refl _), List.drop_of_length_le (by rw [List.length_take]; omega)]
    simp
theorem tl_butLast0 {x : Str} : tl (cutS x none (some (-1))) = (tl x).take ((tl x).length - 1) := by
  rw [cutS_tl, HT.sIx_none, sIx_m1, List.drop_zero, Nat.sub_zero]
/-- the last sign alone -/
theorem tl_last {x : Str} : tl (cutS x (some (-1)) none) = (tl x).drop ((tl x).length - 1) := by
  rw [cutS_tl, HT.sIx_none, sIx_m1, List.take_of_length_le (by rw [List.length_drop]; exact Nat.le_refl _)]
theorem join_tl (y : Str) : ∀ {xs : List Str}, tl (Txt.join y xs) = TL.joinL (tl y) (xs.map tl) := fun {xs} => by
  rw [TL.join_eq]; exact TL.tl_join y xs
theorem split_join' {y : Str} {s : Nat} {S : List Nat} (ey : tl y = s :: S) (hk : y.cps.all (· < 256) = true) {parts : List Str} (hne : parts ≠ []) (hp : ∀ p ∈ parts, s ∉ tl p) :
    Txt.split (Txt.join y parts) y = parts := TL.split_join ey hk hne hp
theorem partition_app' {y : Str} {s : Nat} {S : List Nat} (ey : tl y = s :: S) {a b : Str} (h : s ∉ tl a) : Txt.partition (a ++ y ++ b) y = (a, y, b) := TL.partition_app ey h
end Sr

set_option Elab.async false
set_option linter.all false
set_option maxRecDepth 100000
set_option autoImplicit false
/-! Kinds as texts. -/
namespace Sr
open PySem PySem.Spec PyProof.Rows L2
def sd_show_kind_641d : SD := ⟨["kind", "called", "one"], ["kind"],
  (.cons (.ite (.cmp .eq (.op .ix (.var 0) (.int 0)) (.str "of")) (.cons (.ret (.op .ix (.var 0) (.int 1))) .nil) .nil)
  (.cons (.ite (.cmp .eq (.op .ix (.var 0) (.int 0)) (.str "row")) (.cons (.ret (.fs (.cons (.str "[") (.cons (.call "show_kind" (.cons (.op .ix (.var 0) (.int 1)) .nil)) (.cons (.str "]") .nil))))) .nil) .nil)
  (.cons (.ite (.cmp .eq (.op .ix (.var 0) (.int 0)) (.str "calls")) (.cons (.asg (.var 1) (.bm .join (.str ", ") (.cons (.comp false [2] (.call "show_kind" (.cons (.var 2) .nil)) (.var 2) (.seq (.op .ix (.var 0) (.int 1))) .nil) .nil))) (.cons (.ite (.cmp .ne (.var 1) (.str "")) (.cons (.aug 1 (.add false) (.str " ")) .nil) .nil) (.cons (.ret (.fs (.cons (.str "(") (.cons (.var 1) (.cons (.str "-> ") (.cons (.call "show_kind" (.cons (.op .ix (.var 0) (.int 2)) .nil)) (.cons (.str ")") .nil))))))) .nil))) .nil)
  (.cons (.ret (.op .ix (.var 0) (.int 0))) .nil))))⟩
/-- small signs alone -/
def Asc (x : Str) : Prop := ∀ c ∈ tl x, c < 128
theorem Asc.app {x y : Str} (h : Asc x) (k : Asc y) : Asc (x ++ y) := fun c hc => by
  rw [tl_app] at hc
  exact (List.mem_append.mp hc).elim (h c) (k c)
theorem Asc.lit {s : String} (h : (s.toList.all fun c => decide (c.toNat < 128)) = true) : Asc (Str.ofString s) := fun c hc => by
  rw [tl_lit] at hc
  obtain ⟨d, hd, rfl⟩ := List.mem_map.mp hc
  exact of_decide_eq_true (List.all_eq_true.mp h d hd)
theorem Asc.emp : Asc Str.empty := fun c hc => by cases hc
theorem Asc.ok {x : Str} (h : Asc x) : PyData.strOk x = true := by
  show Array.all _ _ = true
  rw [Array.all_eq_true]
  intro i hi
  have := h x.cps[i] (by simp)
  simp only [decide_eq_true_eq]
  omega
theorem IsLt.asc {x : Str} (h : IsLt x) : Asc x := fun c hc => by have := h c hc; omega
theorem joinL_mem {S : List Nat} {c : Nat} : ∀ {xs : List (List Nat)}, c ∈ TL.joinL S xs → c ∈ S ∨ ∃ x ∈ xs, c ∈ x
  | [], h => by cases h
  | [p], h => .inr ⟨p, List.mem_singleton.mpr rfl, h⟩
  | p :: q :: r, h => by
    have h : c ∈ p ++ (S ++ TL.joinL S (q :: r)) := h
    rcases List.mem_append.mp h with h | h
    · exact .inr ⟨p, List.mem_cons_self, h⟩
    · rcases List.mem_append.mp h with h | h
      · exact .inl h
      · rcases joinL_mem h with h | ⟨x, hx, h⟩
        · exact .inl h
        · exact .inr ⟨x, List.mem_cons_of_mem _ hx, h⟩
theorem joinL_len {S : List Nat} {m : Nat} : ∀ {xs : List (List Nat)}, (∀ x ∈ xs, x.length ≤ m) → (TL.joinL S xs).length ≤ xs.length * (m + S.length)
  | [], h => Nat.zero_le _
  | [p], h => by
    have := h p (List.mem_singleton.mpr rfl)
    show p.length ≤ 1 * (m + S.length)
    omega
  | p :: q :: r, h => by
    have h1 := h p List.mem_cons_self
    have h2 := joinL_len (S := S) (xs := q :: r) fun x hx => h x (List.mem_cons_of_mem _ hx)
    show (p ++ (S ++ TL.joinL S (q :: r))).length ≤ (r.length + 1 + 1) * (m + S.length)
    rw [List.length_append, List.length_append, Nat.succ_mul]
    have h2 : (TL.joinL S (q :: r)).length ≤ (r.length + 1) * (m + S.length) := h2
    omega
def FK.sh : FK → Str
  | num => Str.ofString "num"
  | text => Str.ofString "text"
  | of x => x
  | row k => Str.ofString "[" ++ k.sh ++ Str.ofString "]"
def called : List FK → Str
  | [] => Str.ofString ""
  | k :: ks => Txt.join (Str.ofString ", ") ((k :: ks).map FK.sh) ++ Str.ofString " "
def Kd.sh : Kd → Str
  | fl k => k.sh
  | row k => Str.ofString "[" ++ k.sh ++ Str.ofString "]"
  | calls ks k => Str.ofString "(" ++ called ks ++ Str.ofString "-> " ++ k.sh ++ Str.ofString ")"
theorem len_lit {s : String} {n : Nat} (h : s.toList.length = n) : (Str.ofString s).length = n := by rw [tl_len, tl_lit, List.length_map, h]
theorem l_lb : (Str.ofString "[").length = 1 := len_lit rfl
theorem l_rb : (Str.ofString "]").length = 1 := len_lit rfl
theorem l_lp : (Str.ofString "(").length = 1 := len_lit rfl
theorem l_rp : (Str.ofString ")").length = 1 := len_lit rfl
theorem l_ar : (Str.ofString "-> ").length = 3 := len_lit rfl
theorem l_cm : (Str.ofString ", ").length = 2 := len_lit rfl
theorem l_sp : (Str.ofString " ").length = 1 := len_lit rfl
theorem l_em : (Str.ofString "").length = 0 := len_lit rfl
theorem FK.sh_len : ∀ {k : FK}, k.ok Nm → k.sh.length ≤ 6 + 2 * k.dep
  | num, _ => by show (Str.ofString "num").length ≤ 8; rw [len_lit (n := 3) rfl]; decide
  | text, _ => by show (Str.ofString "text").length ≤ 8; rw [len_lit (n := 4) rfl]; decide
  | of x, h => (show Nm x from h).le
  | row k, h => by
    have := FK.sh_len (k := k) h
    show (Str.ofString "[" ++ k.sh ++ Str.ofString "]").length ≤ 6 + 2 * (k.dep + 1)
    rw [lenA, lenA, len_lit (s := "[") (n := 1) rfl, len_lit (s := "]") (n := 1) rfl]
    omega
theorem FK.sh_asc : ∀ {k : FK}, k.ok Nm → Asc k.sh
  | num, _ => .lit (by decide)
  | text, _ => .lit (by decide)
  | of x, h => (show Nm x from h).lt.asc
  | row k, h => ((Asc.lit (by decide)).app (FK.sh_asc (k := k) h)).app (.lit (by decide))
theorem called_len {n : Nat} {ks : List FK} (h : ∀ f ∈ ks, f.ok Nm) (hd : ∀ f ∈ ks, f.dep ≤ n) (h3 : ks.length ≤ 3) : (called ks).length ≤ 25 + 6 * n := by
  cases ks with
  | nil => show (Str.ofString "").length ≤ _; rw [len_lit (n := 0) rfl]; omega
  | cons k ks =>
    have g := joinL_len (S := tl (Str.ofString ", ")) (m := 6 + 2 * n) (xs := ((k :: ks).map FK.sh).map tl) (fun x hx => by
      obtain ⟨y, hy, rfl⟩ := List.mem_map.mp hx
      obtain ⟨f, hf, rfl⟩ := List.mem_map.mp hy
      have := FK.sh_len (h f hf)
      have := hd f hf
      rw [← tl_len]; omega)
    rw [← join_tl, ← tl_len, List.length_map, List.length_map, ← tl_len, len_lit (s := ", ") (n := 2) rfl] at g
    have m := Nat.mul_le_mul_right (6 + 2 * n + 2) h3
    show (Txt.join (Str.ofString ", ") ((k :: ks).map FK.sh) ++ Str.ofString " ").length ≤ _
    rw [lenA, len_lit (s := " ") (n := 1) rfl]
    omega
theorem called_asc {ks : List FK} (h : ∀ f ∈ ks, f.ok Nm) : Asc (called ks) := by
  cases ks with
  | nil => exact .lit (by decide)
  | cons k ks =>
    refine Asc.app (fun c hc => ?_) (.lit (by decide))
    rw [join_tl] at hc
    rcases joinL_mem hc with h1 | ⟨x, hx, h1⟩
    · exact Asc.lit (s := ", ") (by decide) c h1
    · obtain ⟨y, hy, rfl⟩ := List.mem_map.mp hx
      obtain ⟨f, hf, rfl⟩ := List.mem_map.mp hy
      exact FK.sh_asc (h f hf) c h1
theorem Kd.sh_len : ∀ {n : Nat} {k : Kd}, k.ok Nm → k.Le n → k.sh.length ≤ 40 + 10 * n
  | 0, fl k, h, hl => by have := FK.sh_len (k := k) h; have hl : k.dep ≤ 0 := hl; show k.sh.length ≤ _; omega
  | n + 1, fl k, h, hl => by have := FK.sh_len (k := k) h; have hl : k.dep ≤ n + 1 := hl; show k.sh.length ≤ _; omega
  | n + 1, row k, h, hl => by
    have := Kd.sh_len (n := n) (k := k) h hl
    show (Str.ofString "[" ++ k.sh ++ Str.ofString "]").length ≤ _
    rw [lenA, lenA, len_lit (s := "[") (n := 1) rfl, len_lit (s := "]") (n := 1) rfl]
    omega
  | n + 1, calls ks k, ⟨h1, h2⟩, ⟨l1, l2, l3⟩ => by
    have a := called_len h1 l2 l1
    have b := FK.sh_len h2
    show (Str.ofString "(" ++ called ks ++ Str.ofString "-> " ++ k.sh ++ Str.ofString ")").length ≤ _
    rw [lenA, lenA, lenA, lenA, len_lit (s := "(") (n := 1) rfl, len_lit (s := "-> ") (n := 3) rfl, len_lit (s := ")") (n := 1) rfl]
    omega
  | 0, row k, h, hl => hl.elim
  | 0, calls ks k, h, hl => hl.elim
theorem Kd.sh_asc : ∀ {k : Kd}, k.ok Nm → Asc k.sh
  | fl k, h => FK.sh_asc (k := k) h
  | row k, h => ((Asc.lit (by decide)).app (Kd.sh_asc (k := k) h)).app (.lit (by decide))
  | calls ks k, ⟨h1, h2⟩ => ((((Asc.lit (by decide)).app (called_asc h1)).app (.lit (by decide))).app (FK.sh_asc h2)).app (.lit (by decide))
theorem lvS {p : Pgm} {n m : Nat} {x : Str} {ds : List DV} {μ : Mu} {P : DV → Mu → Prop} {X : XP} (e : n = m) (h : fnS p n x ds μ P X) : fnS p m x ds μ P X := e ▸ h
theorem FK.sh_pos : ∀ {k : FK}, k.ok Nm → 0 < k.sh.length
  | num, _ => by show 0 < (Str.ofString "num").length; rw [len_lit (n := 3) rfl]; decide
  | text, _ => by show 0 < (Str.ofString "text").length; rw [len_lit (n := 4) rfl]; decide
  | of x, h => by
    have h : Nm x := h
    show 0 < x.length
    rcases Nat.eq_zero_or_pos x.length with e | e
    · exact absurd (tl_ext (by rw [tl_empty]; exact List.eq_nil_of_length_eq_zero e)) h.ne
    · exact e
  | row k, h => by show 0 < (Str.ofString "[" ++ k.sh ++ Str.ofString "]").length; simp only [lenA, l_lb]; omega
theorem join_nil : Txt.join (Str.ofString ", ") [] = Str.ofString "" := tl_ext (by rw [join_tl, tl_empty]; rfl)
theorem joinL_ge {S x : List Nat} : ∀ {xs : List (List Nat)}, x.length ≤ (TL.joinL S (x :: xs)).length
  | [] => Nat.le_refl _
  | y :: ys => by
    show x.length ≤ (x ++ (S ++ TL.joinL S (y :: ys))).length
    rw [List.length_append]; omega
theorem join_ne {k : FK} {ks : List FK} (h : k.ok Nm) : Txt.join (Str.ofString ", ") ((k :: ks).map FK.sh) ≠ Str.ofString "" := fun e => by
  have g := joinL_ge (S := tl (Str.ofString ", ")) (x := tl k.sh) (xs := (ks.map FK.sh).map tl)
  have e2 := join_tl (Str.ofString ", ") (xs := (k :: ks).map FK.sh)
  rw [e, tl_empty] at e2
  have e3 : TL.joinL (tl (Str.ofString ", ")) (tl k.sh :: (ks.map FK.sh).map tl) = [] := e2.symm
  rw [e3] at g
  have p : 0 < (tl k.sh).length := FK.sh_pos h
  have g : (tl k.sh).length ≤ 0 := g
  omega
theorem join_sum {n : Nat} {ks : List FK} (h : ∀ f ∈ ks, f.ok Nm) (hd : ∀ f ∈ ks, f.dep ≤ n) (h3 : ks.length ≤ 3) (hn : n ≤ 100) : ((ks.map FK.sh).map (fun x => x.length)).sum + (ks.map FK.sh).length * (Str.ofString ", ").length ≤ 16777216 := by
  have g : ∀ {js : List FK}, (∀ f ∈ js, f ∈ ks) → ((js.map FK.sh).map (fun x => x.length)).sum ≤ js.length * 206 := by
    intro js
    induction js with
    | nil => intro _; exact Nat.zero_le _
    | cons j js ih =>
      intro hj
      have a := ih fun f hf => hj f (List.mem_cons_of_mem _ hf)
      have b := FK.sh_len (h j (hj j List.mem_cons_self))
      have c := hd j (hj j List.mem_cons_self)
      rw [List.map_cons, List.map_cons, List.sum_cons, List.length_cons, Nat.succ_mul]
      omega
  have a := g (js := ks) fun _ h => h
  rw [List.length_map, l_cm]
  omega
theorem showF_ok {p : Pgm} {k : Nat} (hq : Has p "show_kind" sd_show_kind_641d) : ∀ (f : FK) {μ : Mu} {P : DV → Mu → Prop} {X : XP}, f.ok Nm → f.dep ≤ 100 → P (.str f.sh) μ → fnS p (k + f.dep) "show_kind" [f.d] μ P X
  | f, μ, P, X, ho, hd, h => by
    cases f with
    | num =>
      refine fn_in hq rfl ?_
      show wSs _ _ sd_show_kind_641d.s [some (FK.d .num), none, none] μ _
      unfold sd_show_kind_641d
      simp only [FK.d]
      walk_at "wgo"
      exact h
    | text =>
      refine fn_in hq rfl ?_
      show wSs _ _ sd_show_kind_641d.s [some (FK.d .text), none, none] μ _
      unfold sd_show_kind_641d
      simp only [FK.d]
      walk_at "wgo"
      exact h
    | of x =>
      refine fn_in hq rfl ?_
      show wSs _ _ sd_show_kind_641d.s [some (FK.d (.of x)), none, none] μ _
      unfold sd_show_kind_641d
      simp only [FK.d]
      walk_at "wgo"
      exact h
    | row f =>
      refine fn_in hq rfl ?_
      show wSs _ _ sd_show_kind_641d.s [some (FK.d (.row f)), none, none] μ _
      unfold sd_show_kind_641d
      simp only [FK.d]
      walk_at "wgo wFs fmtW emp_app"
      have hd : f.dep + 1 ≤ 100 := hd
      have hl := FK.sh_len (k := f) ho
      refine ⟨line_100 (by (try simp only [lenA, l_lb, l_rb, l_lp, l_rp, l_ar, l_cm, l_sp, l_em]); omega), line_100 (by (try simp only [lenA, l_lb, l_rb, l_lp, l_rp, l_ar, l_cm, l_sp, l_em]); omega), showF_ok hq f ho (by omega) ⟨line_100 (by omega), line_100 (by (try simp only [lenA, l_lb, l_rb, l_lp, l_rp, l_ar, l_cm, l_sp, l_em]); omega), line_100 (by (try simp only [lenA, l_lb, l_rb, l_lp, l_rp, l_ar, l_cm, l_sp, l_em]); omega), line_100 (by (try simp only [lenA, l_lb, l_rb, l_lp, l_rp, l_ar, l_cm, l_sp, l_em]); omega), h⟩⟩
theorem showK_ok {p : Pgm} {k : Nat} (hq : Has p "show_kind" sd_show_kind_641d) : ∀ (f : Kd) {n : Nat} {μ : Mu} {P : DV → Mu → Prop} {X : XP}, f.ok Nm → f.Le n → n ≤ 50 → P (.str f.sh) μ → fnS p (k + f.dep) "show_kind" [f.d] μ P X
  | .fl f, n, μ, P, X, ho, hl, hn, h => showF_ok hq f ho (by have := hl.dep_le; have : f.dep ≤ n := this; omega) h
  | .row f, 0, μ, P, X, ho, hl, hn, h => hl.elim
  | .calls fs f, 0, μ, P, X, ho, hl, hn, h => hl.elim
  | .row f, n + 1, μ, P, X, ho, hl, hn, h => by
    refine fn_in hq rfl ?_
    show wSs _ _ sd_show_kind_641d.s [some (Kd.d (.row f)), none, none] μ _
    unfold sd_show_kind_641d
    simp only [Kd.d]
    walk_at "wgo wFs fmtW emp_app"
    have hs := Kd.sh_len (k := f) (n := n) ho hl
    refine ⟨line_100 (by (try simp only [lenA, l_lb, l_rb, l_lp, l_rp, l_ar, l_cm, l_sp, l_em]); omega), line_100 (by (try simp only [lenA, l_lb, l_rb, l_lp, l_rp, l_ar, l_cm, l_sp, l_em]); omega), showK_ok hq f (n := n) ho hl (by omega) ⟨line_100 (by omega), line_100 (by (try simp only [lenA, l_lb, l_rb, l_lp, l_rp, l_ar, l_cm, l_sp, l_em]); omega), line_100 (by (try simp only [lenA, l_lb, l_rb, l_lp, l_rp, l_ar, l_cm, l_sp, l_em]); omega), line_100 (by (try simp only [lenA, l_lb, l_rb, l_lp, l_rp, l_ar, l_cm, l_sp, l_em]); omega), h⟩⟩
  | .calls fs f, n + 1, μ, P, X, ⟨ho, ho2⟩, ⟨l1, l2, l3⟩, hn, h => by
    have hfo := fold_le (ks := fs) (k := f)
    obtain ⟨M, hM⟩ : ∃ M, M = fs.foldr (fun f m => Nat.max f.dep m) f.dep := ⟨_, rfl⟩
    rw [← hM] at hfo
    refine lvS (show k + M + 1 = k + (fs.foldr (fun f m => Nat.max f.dep m) f.dep + 1) by rw [hM]; rfl) ?_
    refine fn_in hq rfl ?_
    show wSs ⟨fnS p (k + M), gvD p.gvs⟩ _ sd_show_kind_641d.s [some (Kd.d (.calls fs f)), none, none] μ _
    unfold sd_show_kind_641d
    simp only [Kd.d]
    have hc := called_len ho l2 l1
    have hs := FK.sh_len ho2
    have ca := called_asc ho
    have fin : ∀ (J : Str) (g : Option DV) (Z : DEnds), J = called fs → Z.rt = P → wSs ⟨fnS p (k + M), gvD p.gvs⟩ (fun cls fs _ μ' => X cls fs μ') (.cons (.ret (.fs (.cons (.str "(") (.cons (.var 1) (.cons (.str "-> ") (.cons (.call "show_kind" (.cons (.op .ix (.var 0) (.int 2)) .nil)) (.cons (.str ")") .nil))))))) .nil) [some (.tup [.str "calls", .tup (fs.map FK.d), f.d]), some (.str J), g] μ Z := by
      intro J g Z eJ hZ
      subst eJ
      walk_at "wgo wFs fmtW emp_app"
      refine ⟨line_100 (by (try simp only [lenA, l_lb, l_rb, l_lp, l_rp, l_ar, l_cm, l_sp, l_em]); omega), line_100 (by (try simp only [lenA, l_lb, l_rb, l_lp, l_rp, l_ar, l_cm, l_sp, l_em]); omega), line_100 (by (try simp only [lenA, l_lb, l_rb, l_lp, l_rp, l_ar, l_cm, l_sp, l_em]); omega), line_100 (by (try simp only [lenA, l_lb, l_rb, l_lp, l_rp, l_ar, l_cm, l_sp, l_em]); omega), line_100 (by (try simp only [lenA, l_lb, l_rb, l_lp, l_rp, l_ar, l_cm, l_sp, l_em]); omega), line_100 (by (try simp only [lenA, l_lb, l_rb, l_lp, l_rp, l_ar, l_cm, l_sp, l_em]); omega), ?_⟩
      refine lvS (show k + (M - f.dep) + f.dep = k + M by omega) (showF_ok hq f ho2 (by omega) ⟨line_100 (by omega), line_100 (by (try simp only [lenA, l_lb, l_rb, l_lp, l_rp, l_ar, l_cm, l_sp, l_em]); omega), line_100 (by (try simp only [lenA, l_lb, l_rb, l_lp, l_rp, l_ar, l_cm, l_sp, l_em]); omega), line_100 (by (try simp only [lenA, l_lb, l_rb, l_lp, l_rp, l_ar, l_cm, l_sp, l_em]); omega), ?_⟩)
      rw [hZ]
      exact h
    walk_at "wgo"
    refine compF_map (ys := fs) (em := FK.d) (fun q => .str q.sh) trivial (line_100 (by rw [List.length_nil]; omega)) (fun q hq2 acc kk ha hk => ?_) ?_
    · walk_at "ws wipeG"
      have := l2 q hq2
      have := hfo.2 q hq2
      exact lvS (show k + (M - q.dep) + q.dep = k + M by omega) (showF_ok hq q (ho q hq2) (by omega) ⟨ha, hk⟩)
    · rw [List.nil_append, show fs.map (fun q => DV.str q.sh) = (fs.map FK.sh).map DV.str by rw [List.map_map]; rfl]
      walk_at "ws"
      refine ⟨join_sum ho l2 l1 (by omega), ?_⟩
      refine st ?_
      cases fs with
      | nil =>
        have e0 : Txt.join (Str.ofString ", ") (([] : List FK).map FK.sh) = Str.ofString "" := join_nil
        rw [e0]
        walk_at "ws"
        refine sn ?_
        exact fin _ _ _ rfl rfl
      | cons q qs =>
        have e1 := join_ne (ks := qs) (ho q List.mem_cons_self)
        have e2 : Txt.join (Str.ofString ", ") ((q :: qs).map FK.sh) ++ Str.ofString " " = called (q :: qs) := rfl
        have e3 : (Txt.join (Str.ofString ", ") ((q :: qs).map FK.sh)).length + (Str.ofString " ").length = (called (q :: qs)).length := lenA.symm
        have e4 : PyData.strOk (Txt.join (Str.ofString ", ") ((q :: qs).map FK.sh)) = true := Asc.ok fun c hc => ca c (by rw [← e2, tl_app]; exact List.mem_append_left _ hc)
        generalize Txt.join (Str.ofString ", ") ((q :: qs).map FK.sh) = J at *
        walk_at "ws e1 e4"
        refine st ?_
        walk_at "ws augW"
        refine ⟨line_100 (by omega), ?_⟩
        refine sn ?_
        exact fin _ _ _ e2 rfl
end Sr

set_option Elab.async false
set_option linter.all false
set_option maxRecDepth 100000
set_option autoImplicit false
/-! The law's own texts of kinds. -/
namespace Sr
open PySem PySem.Spec PyProof.Rows L2
def sd__law_shown_bd16 : SD := ⟨["_law_whole", "_law_called", "_law_one"], ["_law_whole"],
  (.cons (.ite (.cmp .inn (.op .ix (.var 0) (.int 0)) (.lst false (.cons (.str "num") (.cons (.str "text") .nil)))) (.cons (.ret (.op .ix (.var 0) (.int 0))) .nil) .nil)
  (.cons (.ite (.cmp .eq (.op .ix (.var 0) (.int 0)) (.str "of")) (.cons (.ret (.op .ix (.var 0) (.int 1))) .nil) .nil)
  (.cons (.ite (.cmp .eq (.op .ix (.var 0) (.int 0)) (.str "row")) (.cons (.ret (.op (.add false) (.op (.add false) (.str "[") (.call "_law_shown" (.cons (.op .ix (.var 0) (.int 1)) .nil))) (.str "]"))) .nil) .nil)
  (.cons (.asg (.var 1) (.bm .join (.str ", ") (.cons (.comp false [2] (.call "_law_shown" (.cons (.var 2) .nil)) (.var 2) (.seq (.op .ix (.var 0) (.int 1))) .nil) .nil)))
  (.cons (.ret (.op (.add false) (.op (.add false) (.op (.add false) (.op (.add false) (.op (.add false) (.str "(") (.var 1)) (.op .mul (.str " ") (.bf .min2 (.cons (.int 1) (.cons (.bf .len (.cons (.op .ix (.var 0) (.int 1)) .nil)) .nil))))) (.str "-> ")) (.call "_law_shown" (.cons (.op .ix (.var 0) (.int 2)) .nil))) (.str ")"))) .nil)))))⟩
theorem lshF_ok {p : Pgm} {k : Nat} (hq : Has p "_law_shown" sd__law_shown_bd16) : ∀ (f : FK) {μ : Mu} {P : DV → Mu → Prop} {X : XP}, f.ok Nm → f.dep ≤ 100 → P (.str f.sh) μ → fnS p (k + f.dep) "_law_shown" [f.d] μ P X
  | f, μ, P, X, ho, hd, h => by
    cases f with
    | num =>
      refine fn_in hq rfl ?_
      show wSs _ _ sd__law_shown_bd16.s [some (FK.d .num), none, none] μ _
      unfold sd__law_shown_bd16
      simp only [FK.d]
      walk_at "wgo"
      exact h
    | text =>
      refine fn_in hq rfl ?_
      show wSs _ _ sd__law_shown_bd16.s [some (FK.d .text), none, none] μ _
      unfold sd__law_shown_bd16
      simp only [FK.d]
      walk_at "wgo"
      exact h
    | of x =>
      refine fn_in hq rfl ?_
      show wSs _ _ sd__law_shown_bd16.s [some (FK.d (.of x)), none, none] μ _
      unfold sd__law_shown_bd16
      simp only [FK.d]
      walk_at "wgo"
      exact h
    | row f =>
      refine fn_in hq rfl ?_
      show wSs _ _ sd__law_shown_bd16.s [some (FK.d (.row f)), none, none] μ _
      unfold sd__law_shown_bd16
      simp only [FK.d]
      walk_at "wgo wFs fmtW emp_app"
      have hd : f.dep + 1 ≤ 100 := hd
      have hl := FK.sh_len (k := f) ho
      refine lvS rfl (lshF_ok hq f ho (by omega) ?_)
      walk_at "ws"
      exact ⟨line_100 (by (try simp only [lenA, l_lb, l_rb]); omega), line_100 (by (try simp only [lenA, l_lb, l_rb]); omega), h⟩
theorem mul_sp1 : Txt.mul (Str.ofString " ") 1 = Str.ofString " " := by
  rw [lit_sgn (s := " ") (c := ' ') rfl]; exact tl_ext (tl_mul (n := 1))
theorem mul_sp0 : Txt.mul (Str.ofString " ") 0 = Str.empty := by
  rw [lit_sgn (s := " ") (c := ' ') rfl]; exact tl_ext (tl_mul (n := 0))
theorem mulOk_sp {n : Nat} (h : n ≤ 1000) : PySem.MulOk (Str.ofString " ") (n : Int) := by
  rw [lit_sgn (s := " ") (c := ' ') rfl]; exact mulOk_n h
theorem lshK_ok {p : Pgm} {k : Nat} (hq : Has p "_law_shown" sd__law_shown_bd16) : ∀ (f : Kd) {n : Nat} {μ : Mu} {P : DV → Mu → Prop} {X : XP}, f.ok Nm → f.Le n → n ≤ 50 → P (.str f.sh) μ → fnS p (k + f.dep) "_law_shown" [f.d] μ P X
  | .fl f, n, μ, P, X, ho, hl, hn, h => lshF_ok hq f ho (by have := hl.dep_le; have : f.dep ≤ n := this; omega) h
  | .row f, 0, μ, P, X, ho, hl, hn, h => hl.elim
  | .calls fs f, 0, μ, P, X, ho, hl, hn, h => hl.elim
  | .row f, n + 1, μ, P, X, ho, hl, hn, h => by
    refine fn_in hq rfl ?_
    show wSs _ _ sd__law_shown_bd16.s [some (Kd.d (.row f)), none, none] μ _
    unfold sd__law_shown_bd16
    simp only [Kd.d]
    walk_at "wgo"
    have hs := Kd.sh_len (k := f) (n := n) ho hl
    refine lvS rfl (lshK_ok hq f (n := n) ho hl (by omega) ?_)
    walk_at "ws"
    exact ⟨line_100 (by (try simp only [lenA, l_lb, l_rb]); omega), line_100 (by (try simp only [lenA, l_lb, l_rb]); omega), h⟩
  | .calls fs f, n + 1, μ, P, X, ⟨ho, ho2⟩, ⟨l1, l2, l3⟩, hn, h => by
    have hfo := fold_le (ks := fs) (k := f)
    obtain ⟨M, hM⟩ : ∃ M, M = fs.foldr (fun f m => Nat.max f.dep m) f.dep := ⟨_, rfl⟩
    rw [← hM] at hfo
    refine lvS (show k + M + 1 = k + (fs.foldr (fun f m => Nat.max f.dep m) f.dep + 1) by rw [hM]; rfl) ?_
    refine fn_in hq rfl ?_
    show wSs ⟨fnS p (k + M), gvD p.gvs⟩ _ sd__law_shown_bd16.s [some (Kd.d (.calls fs f)), none, none] μ _
    unfold sd__law_shown_bd16
    simp only [Kd.d]
    have hc := called_len ho l2 l1
    have hs := FK.sh_len ho2
    walk_at "wgo"
    refine compF_map (ys := fs) (em := FK.d) (fun q => .str q.sh) trivial (line_100 (by rw [List.length_nil]; omega)) (fun q hq2 acc kk ha hk => ?_) ?_
    · walk_at "ws wipeG"
      have := l2 q hq2
      have := hfo.2 q hq2
      exact lvS (show k + (M - q.dep) + q.dep = k + M by omega) (lshF_ok hq q (ho q hq2) (by omega) ⟨ha, hk⟩)
    · rw [List.nil_append, show fs.map (fun q => DV.str q.sh) = (fs.map FK.sh).map DV.str by rw [List.map_map]; rfl]
      walk_at "ws"
      refine ⟨join_sum ho l2 l1 (by omega), ?_⟩
      refine st ?_
      walk_at "ws List.length_map"
      obtain ⟨m, em, hm1, hmj⟩ : ∃ m : Nat, (if (fs.length : Int) < 1 then (fs.length : Int) else 1) = (m : Int) ∧ m ≤ 1 ∧ Txt.join (Str.ofString ", ") (fs.map FK.sh) ++ Txt.mul (Str.ofString " ") (m : Int) = called fs := by
        cases fs with
        | nil => exact ⟨0, rfl, by decide, by rw [List.map_nil, join_nil]; exact (tl_ext (by rw [tl_app, tl_empty, show ((0 : Nat) : Int) = 0 from rfl, mul_sp0]; rfl))⟩
        | cons q qs => exact ⟨1, by rw [if_neg (by rw [List.length_cons]; omega)]; rfl, by decide, by rw [show ((1 : Nat) : Int) = 1 from rfl, mul_sp1]; rfl⟩
      rw [em]
      have e5 : ∀ x : Str, x ++ Txt.join (Str.ofString ", ") (fs.map FK.sh) ++ Txt.mul (Str.ofString " ") (m : Int) = x ++ called fs := fun x => by rw [app_asc, hmj]
      have e6 : (Txt.join (Str.ofString ", ") (fs.map FK.sh)).length + (Txt.mul (Str.ofString " ") (m : Int)).length = (called fs).length := by rw [← lenA, hmj]
      walk_at "ws o_mulS"
      refine ⟨line_100 (by (try simp only [lenA, l_lb, l_rb, l_lp, l_rp, l_ar, l_cm, l_sp, l_em]); omega), mulOk_sp (by omega), line_100 (by (try simp only [lenA, l_lb, l_rb, l_lp, l_rp, l_ar, l_cm, l_sp, l_em]); omega), ?_⟩
      rw [e5]
      refine ⟨line_100 (by (try simp only [lenA, l_lb, l_rb, l_lp, l_rp, l_ar, l_cm, l_sp, l_em]); omega), ?_⟩
      refine lvS (show k + (M - f.dep) + f.dep = k + M by omega) (lshF_ok hq f ho2 (by omega) ?_)
      walk_at "ws"
      exact ⟨line_100 (by (try simp only [lenA, l_lb, l_rb, l_lp, l_rp, l_ar, l_cm, l_sp, l_em]); omega), line_100 (by (try simp only [lenA, l_lb, l_rb, l_lp, l_rp, l_ar, l_cm, l_sp, l_em]); omega), h⟩
end Sr

set_option Elab.async false
set_option linter.all false
set_option maxRecDepth 100000
set_option autoImplicit false
/-! Flat kinds, read. -/
namespace Sr
open PySem PySem.Spec PyProof.Rows L2
def sd_flat_in_f98e : SD := ⟨["text", "deep", "rows", "name", "kind", "turn"], ["text", "deep"],
  (.cons (.asg (.var 2) (.int 0))
  (.cons (.while_ (.and_ (.cmp .lt (.var 2) (.var 1)) (.cmp .eq (.sl false (.var 0) (.var 2) (.op (.add false) (.var 2) (.int 1))) (.str "["))) (.cons (.aug 2 (.add false) (.int 1)) .nil))
  (.cons (.ite (.cmp .ge (.var 2) (.var 1)) (.cons (.ret .non) .nil) .nil)
  (.cons (.asg (.var 3) (.sl false (.var 0) (.var 2) (.op .sub (.bf .len (.cons (.var 0) .nil)) (.var 2))))
  (.cons (.ite (.or_ (.cmp .ne (.var 0) (.op (.add false) (.op (.add false) (.op .mul (.str "[") (.var 2)) (.var 3)) (.op .mul (.str "]") (.var 2)))) (.not_ (.or_ (.e (.call "is_name" (.cons (.var 3) .nil))) (.cmp .inn (.var 3) (.tup (.cons (.str "num") (.cons (.str "text") .nil))))))) (.cons (.ret .non) .nil) .nil)
  (.cons (.asg (.var 4) (.ite (.e (.call "is_name" (.cons (.var 3) .nil))) (.tup (.cons (.str "of") (.cons (.var 3) .nil))) (.tup (.cons (.var 3) .nil))))
  (.cons (.for_ (.var 5) (.rng1 (.var 2)) (.cons (.asg (.var 4) (.tup (.cons (.str "row") (.cons (.var 4) .nil)))) .nil))
  (.cons (.ret (.var 4)) .nil))))))))⟩
def sd_is_name_9ba6 : SD := ⟨["text", "letter"], ["text"],
  (.cons (.ite (.or_ (.cmp .inn (.var 0) (.tup (.cons (.str "") (.cons (.str "num") (.cons (.str "text") .nil))))) (.cmp .gt (.bf .len (.cons (.var 0) .nil)) (.glob "MOST_LETTERS"))) (.cons (.ret (.bl false)) .nil) .nil)
  (.cons (.ret (.bf .all (.cons (.comp false [1] (.op .inn (.var 1) (.glob "LETTERS")) (.var 1) (.str (.var 0)) .nil) .nil))) .nil))⟩
theorem o_innT {x : Str} {xs : List DV} {μ : Mu} {P : DV → Mu → Prop} : o2W .inn (.str x) (.tup xs) μ P = (xs.all (fun x => (fl x).isSome) = true ∧ P (.bl (inD (.str x) xs)) μ) := by
  refine propext ⟨fun ⟨ys, e, _, _, h1, h2⟩ => ?_, fun ⟨h1, h2⟩ => ⟨xs, rfl, rfl, rfl, h1, h2⟩⟩
  cases e; exact ⟨h1, h2⟩
theorem o_ninT {x : Str} {xs : List DV} {μ : Mu} {P : DV → Mu → Prop} : o2W .nin (.str x) (.tup xs) μ P = (xs.all (fun x => (fl x).isSome) = true ∧ P (.bl (!inD (.str x) xs)) μ) := by
  refine propext ⟨fun ⟨ys, e, _, _, h1, h2⟩ => ?_, fun ⟨h1, h2⟩ => ⟨xs, rfl, rfl, rfl, h1, h2⟩⟩
  cases e; exact ⟨h1, h2⟩
theorem o_innS {c : Nat} {y : Str} {μ : Mu} {P : DV → Mu → Prop} : o2W .inn (.str (sgn c)) (.str y) μ P = P (.bl (decide (c ∈ tl y))) μ := by
  refine propext ⟨fun ⟨d, e, h⟩ => ?_, fun h => ⟨c, rfl, h⟩⟩
  have : c = d := by
    have e := congrArg tl e
    rw [tl_sgn, tl_sgn] at e
    exact List.head_eq_of_cons_eq e
  subst this; exact h
theorem all_map_true {α : Type} {xs : List α} : (xs.map fun _ => true).all id = true := by
  induction xs with
  | nil => rfl
  | cons x xs ih => exact ih
theorem blsD_true {α : Type} {xs : List α} : blsD (xs.map fun _ => DV.bl true) = some (xs.map fun _ => true) := by
  rw [← blsD_map (zs := xs.map fun _ => true), List.map_map]; rfl
theorem abc_mem {c : Nat} (h : 97 ≤ c ∧ c ≤ 122) : c ∈ (Str.ofString "abcdefghijklmnopqrstuvwxyz").cps.toList := by
  show c ∈ tl _
  rw [abc_tl, List.mem_map]
  exact ⟨c - 97, List.mem_range.mpr (by omega), by omega⟩
theorem is_name_ok {p : Pgm} {k : Nat} {μ : Mu} {x : Str} {P : DV → Mu → Prop} {X : XP} (hq : Has p "is_name" sd_is_name_9ba6) (hL : gvD p.gvs "LETTERS" = .str "abcdefghijklmnopqrstuvwxyz") (hM : gvD p.gvs "MOST_LETTERS" = .int 8) (hx : Nm x) (h : P (.bl true) μ) : fnS p (k + 1) "is_name" [.str x] μ P X := by
  refine fn_in hq rfl ?_
  show wSs _ _ sd_is_name_9ba6.s [some (.str x), none] μ _
  unfold sd_is_name_9ba6
  have hle := hx.le
  walk_at "wgo hL hM hx.ok o_innT hx.ne.symm hx.nn.symm hx.nt.symm"
  refine ⟨line_100 (by omega), ?_⟩
  rw [if_neg (by omega)]
  walk_at "wgo"
  refine compF_map (fun _ => .bl true) trivial (line_100 (by rw [List.length_nil, ← tl_len]; omega)) (fun c hc acc kk ha hk => ?_) ?_
  · walk_at "ws wipeG hL o_innS"
    refine ⟨ha, ?_⟩
    rw [decide_eq_true (show c ∈ tl (Str.ofString "abcdefghijklmnopqrstuvwxyz") from abc_mem (hx.lt c hc))]
    exact hk
  · rw [List.nil_append]
    walk_at "ws blsD_true all_map_true"
    exact h
theorem is_name_no {p : Pgm} {k : Nat} {μ : Mu} {x : Str} {P : DV → Mu → Prop} {X : XP} (hq : Has p "is_name" sd_is_name_9ba6) (hx : x = "num" ∨ x = "text") (h : P (.bl false) μ) : fnS p (k + 1) "is_name" [.str x] μ P X := by
  refine fn_in hq rfl ?_
  show wSs _ _ sd_is_name_9ba6.s [some (.str x), none] μ _
  unfold sd_is_name_9ba6
  rcases hx with rfl | rfl
  · walk_at "wgo o_innT"
    exact h
  · walk_at "wgo o_innT"
    exact h
/-- rows around -/
def wrapD : Nat → DV → DV
  | 0, d => d
  | n + 1, d => .tup [.str "row", wrapD n d]
theorem wrapD_out : ∀ (n : Nat) (d : DV), wrapD n (.tup [.str "row", d]) = wrapD (n + 1) d
  | 0, d => rfl
  | n + 1, d => by
    show DV.tup [.str "row", wrapD n (.tup [.str "row", d])] = _
    rw [wrapD_out n d]; rfl
/-- a text within rows -/
def RowT (n : Nat) (B T : Str) : Prop := tl T = List.replicate n 91 ++ tl B ++ List.replicate n 93
theorem RowT.one {n : Nat} {B T : Str} (h : RowT n B T) : RowT (n + 1) B (Str.ofString "[" ++ T ++ Str.ofString "]") := by
  show tl _ = _
  have e1 : tl (Str.ofString "[") = [91] := tl_lit
  have e2 : tl (Str.ofString "]") = [93] := tl_lit
  rw [tl_app, tl_app, h, e1, e2, List.replicate_succ, List.replicate_succ']
  simp only [List.append_assoc, List.cons_append, List.nil_append]
theorem RowT.len {n : Nat} {B T : Str} (h : RowT n B T) : T.length = n + (n + B.length) := by
  rw [tl_len, h, tl_len]
  simp only [List.length_append, List.length_replicate]
  omega
/-- a flat kind: rows around a base -/
theorem fk_parts : ∀ {f : FK}, f.ok Nm → ∃ n B b, f.dep = n + 1 ∧ RowT n B f.sh ∧ f.d = wrapD n b ∧ ((Nm B ∧ b = .tup [.str "of", .str B]) ∨ ((B = "num" ∨ B = "text") ∧ b = .tup [.str B]))
  | .num, _ => ⟨0, "num", _, rfl, by show tl _ = [] ++ tl _ ++ []; simp; rfl, rfl, .inr ⟨.inl rfl, rfl⟩⟩
  | .text, _ => ⟨0, "text", _, rfl, by show tl _ = [] ++ tl _ ++ []; simp; rfl, rfl, .inr ⟨.inr rfl, rfl⟩⟩
  | .of x, h => ⟨0, x, _, rfl, by show tl _ = [] ++ tl _ ++ []; simp; rfl, rfl, .inl ⟨h, rfl⟩⟩
  | .row k, h => by
    obtain ⟨n, B, b, h1, h2, h3, h4⟩ := fk_parts (f := k) h
    exact ⟨n + 1, B, b, congrArg (· + 1) h1, h2.one, by show DV.tup [.str "row", k.d] = DV.tup [.str "row", wrapD n b]; rw [h3], h4⟩
/-- what stands first -/
def Fst (c : Nat) (B : Str) : Prop := ∃ r, tl B = c :: r
theorem lb_sgn : Str.ofString "[" = sgn 91 := lit_sgn (c := '[') rfl
theorem rb_sgn : Str.ofString "]" = sgn 93 := lit_sgn (c := ']') rfl
theorem RowT.hit {n r : Nat} {B T : Str} (h : RowT n B T) (hr : r < n) : cutS T (some (r : Int)) (some ((r : Int) + 1)) = Str.ofString "[" := by
  refine tl_ext ?_
  have e := tl_cut (x := T) (i := r) (j := r + 1) (by omega)
  rw [show (((r + 1 : Nat)) : Int) = (r : Int) + 1 from rfl] at e
  rw [e, h, lb_sgn, tl_sgn, List.append_assoc, List.drop_append_of_le_length (by rw [List.length_replicate]; omega), List.drop_replicate, show r + 1 - r = 1 by omega]
  obtain ⟨m, hm⟩ : ∃ m, n - r = m + 1 := ⟨n - r - 1, by omega⟩
  rw [hm, List.replicate_succ]; rfl
theorem RowT.miss {n c : Nat} {B T : Str} (h : RowT n B T) (hc : Fst c B) : cutS T (some (n : Int)) (some ((n : Int) + 1)) = sgn c := by
  refine tl_ext ?_
  obtain ⟨r, hr⟩ := hc
  have e := tl_cut (x := T) (i := n) (j := n + 1) (by omega)
  rw [show (((n + 1 : Nat)) : Int) = (n : Int) + 1 from rfl] at e
  rw [e, h, tl_sgn, List.append_assoc, List.drop_left' (List.length_replicate ..), show n + 1 - n = 1 by omega, hr]; rfl
theorem RowT.mid {n : Nat} {B T : Str} (h : RowT n B T) : cutS T (some (n : Int)) (some ((T.length : Int) - (n : Int))) = B := by
  refine tl_ext ?_
  have hl := h.len
  rw [show ((T.length : Int) - (n : Int)) = ((n + B.length : Nat) : Int) by omega, tl_cut (by omega), h, List.append_assoc, List.drop_left' (List.length_replicate ..), show n + B.length - n = B.length by omega, tl_len, List.take_left' rfl]
theorem RowT.all {n : Nat} {B T : Str} (h : RowT n B T) : Txt.mul (Str.ofString "[") (n : Int) ++ B ++ Txt.mul (Str.ofString "]") (n : Int) = T := by
  refine tl_ext ?_
  rw [tl_app, tl_app, lb_sgn, rb_sgn, tl_mul, tl_mul, h]
theorem sgn_inj {c d : Nat} (h : sgn c = sgn d) : c = d := by
  have e := congrArg tl h
  rw [tl_sgn, tl_sgn] at e
  exact List.head_eq_of_cons_eq e
theorem mulOk_lb {n : Nat} (h : n ≤ 1000) : PySem.MulOk (Str.ofString "[") (n : Int) := by rw [lb_sgn]; exact mulOk_n h
theorem mulOk_rb {n : Nat} (h : n ≤ 1000) : PySem.MulOk (Str.ofString "]") (n : Int) := by rw [rb_sgn]; exact mulOk_n h
theorem len_mul {c : Char} {s : String} (hs : s.toList = [c]) {n : Nat} : (Txt.mul (Str.ofString s) (n : Int)).length = n := by rw [lit_sgn hs, tl_len, tl_mul, List.length_replicate]
/-- a base begins with a letter -/
theorem base_fst {B : Str} (h : Nm B ∨ (B = "num" ∨ B = "text")) : ∃ c, Fst c B ∧ 97 ≤ c ∧ c ≤ 122 := by
  rcases h with h | rfl | rfl
  · cases e : tl B with
    | nil => exact absurd (tl_ext (by rw [e, tl_empty])) h.ne
    | cons c r => exact ⟨c, ⟨r, e⟩, h.lt c (by rw [e]; exact List.mem_cons_self)⟩
  · exact ⟨110, ⟨[117, 109], tl_lit⟩, by decide, by decide⟩
  · exact ⟨116, ⟨[101, 120, 116], tl_lit⟩, by decide, by decide⟩
theorem Asc.cut {x : Str} {lo hi : Option Int} (h : Asc x) : Asc (cutS x lo hi) := fun c hc => by
  rw [cutS_tl] at hc
  exact h c (List.mem_of_mem_drop (List.mem_of_mem_take hc))
theorem flat_in_ok {p : Pgm} {k : Nat} {μ : Mu} {f : FK} {deep : Nat} {P : DV → Mu → Prop} {X : XP} (hi : Has p "is_name" sd_is_name_9ba6) (hq : Has p "flat_in" sd_flat_in_f98e) (hL : gvD p.gvs "LETTERS" = .str "abcdefghijklmnopqrstuvwxyz") (hM : gvD p.gvs "MOST_LETTERS" = .int 8)
    (hf : f.ok Nm) (hd : f.dep ≤ deep) (hdl : deep ≤ 100) (h : P f.d μ) : fnS p (k + 2) "flat_in" [.str f.sh, .int (deep : Int)] μ P X := by
  obtain ⟨n, B, b, h1, h2, h3, h4⟩ := fk_parts hf
  have hT := FK.sh_asc hf
  have hTl := FK.sh_len hf
  rw [h3] at h
  generalize f.sh = T at *
  refine fn_in hq rfl ?_
  show wSs ⟨fnS p (k + 1), gvD p.gvs⟩ _ sd_flat_in_f98e.s [some (.str T), some (.int (deep : Int)), none, none, none, none] μ _
  unfold sd_flat_in_f98e
  obtain ⟨c, hc, c1, c2⟩ := base_fst (h4.imp (fun h => h.1) fun h => h.1)
  refine st ?_
  walk_at "ws"
  refine st ?_
  refine while_by (fun m γ μ' => ∃ r : Nat, γ = [some (.str T), some (.int (deep : Int)), some (.int (r : Int)), none, none, none] ∧ μ' = μ ∧ r ≤ n ∧ m = n - r) n ⟨0, rfl, rfl, Nat.zero_le _, rfl⟩ ?_
  rintro m γ μ' N ⟨r, rfl, rfl, hr, rfl⟩ nxt
  walk_at "ws"
  rw [if_pos (by omega)]
  refine ⟨line_100 (by omega), hT.cut.ok, ?_⟩
  by_cases hrn : r < n
  · rw [h2.hit hrn]
    walk_at "ws"
    refine st ?_
    walk_at "ws augW"
    refine sn ?_
    exact nxt (n - (r + 1)) _ _ (by omega) ⟨r + 1, rfl, rfl, by omega, rfl⟩
  · have : r = n := by omega
    subst this
    rw [h2.miss hc]
    rw [if_neg (fun e => by rw [lb_sgn] at e; have := sgn_inj e; omega)]
    refine st ?_
    walk_at "ws"
    rw [if_neg (by omega)]
    have a1 := len_mul (c := '[') (s := "[") rfl (n := r)
    have a2 := len_mul (c := ']') (s := "]") rfl (n := r)
    have a3 := h2.len
    walk_at "wgo h2.mid o_mulS h2.all hT.ok"
    refine ⟨line_100 (by omega), line_100 (by omega), ?_⟩
    have fin : ∀ Z : DEnds, Z.rt = P → wSs ⟨fnS p (k + 1), gvD p.gvs⟩ (fun cls fs _ μ' => X cls fs μ') (sd_flat_in_f98e.s.drop 6) [some (.str T), some (.int (deep : Int)), some (.int (r : Int)), some (.str B), some b, none] μ' Z := by
      intro Z hZ
      unfold sd_flat_in_f98e
      simp only [Ss.drop]
      refine st ?_
      walk_at "ws"
      refine ⟨by constructor <;> omega, ?_⟩
      rw [Int.toNat_natCast]
      refine forF_by (fun rest γ μ2 => ∃ (j : Nat) (y : Option DV), γ = [some (.str T), some (.int (deep : Int)), some (.int (r : Int)), some (.str B), some (wrapD j b), y] ∧ j + rest.length = r ∧ μ2 = μ') (fun _ _ _ _ => trivial) ?_ ?_ _
        ⟨0, none, rfl, by rw [rngD_length]; omega, rfl⟩
      · rintro d ds γ μ2 N2 ⟨j, y, rfl, e1, rfl⟩ nxt2
        rw [List.length_cons] at e1
        walk_at "wgo"
        exact nxt2 _ _ ⟨j + 1, _, rfl, by omega, rfl⟩
      · rintro γ μ2 ⟨j, y, rfl, e1, rfl⟩
        rw [List.length_nil, Nat.add_zero] at e1
        subst e1
        walk_at "wgo"
        rw [hZ]
        exact h
    refine st ?_
    walk_at "ws o_mulS h2.all hT.ok"
    refine ⟨mulOk_lb (by omega), line_100 (by omega), mulOk_rb (by omega), line_100 (by rw [lenA]; omega), ?_⟩
    rcases h4 with ⟨hB, rfl⟩ | ⟨hB, rfl⟩
    · refine is_name_ok hi hL hM hB ?_
      walk_at "wgo"
      refine is_name_ok hi hL hM hB ?_
      walk_at "ws"
      exact fin _ rfl
    · refine is_name_no hi hB ?_
      have g : inD (.str B) [.str "num", .str "text"] = true := by
        rcases hB with rfl | rfl
        · rfl
        · rfl
      walk_at "wgo o_innT g"
      trace_state
      refine is_name_no hi hB ?_
      walk_at "ws"
      exact fin _ rfl
end Sr

set_option Elab.async false
set_option linter.all false
set_option maxRecDepth 100000
set_option autoImplicit false
/-! Any text, read as a flat kind. -/
namespace Sr
open PySem PySem.Spec PyProof.Rows L2

theorem blsD_of {α : Type} {f : α → Bool} {xs : List α} : blsD (xs.map fun c => DV.bl (f c)) = some (xs.map f) := by
  rw [← blsD_map (zs := xs.map f), List.map_map]; rfl
theorem abc_dec {c : Nat} : decide (c ∈ tl (Str.ofString "abcdefghijklmnopqrstuvwxyz")) = (decide (97 ≤ c) && decide (c ≤ 122)) := by
  rw [abc_tl]
  by_cases h : 97 ≤ c ∧ c ≤ 122
  · rw [decide_eq_true (List.mem_map.mpr ⟨c - 97, List.mem_range.mpr (by omega), by omega⟩)]
    simp [h]
  · rw [decide_eq_false (fun k => by
      obtain ⟨i, hi, e⟩ := List.mem_map.mp k
      have := List.mem_range.mp hi
      omega)]
    by_cases h1 : 97 ≤ c
    · have : ¬ c ≤ 122 := fun z => h ⟨h1, z⟩
      simp [h1, this]
    · simp [h1]
/-- a name, or not -/
theorem is_name_any {p : Pgm} {k : Nat} {μ : Mu} {x : Str} {P : DV → Mu → Prop} {X : XP} (hq : Has p "is_name" sd_is_name_9ba6) (hL : gvD p.gvs "LETTERS" = .str "abcdefghijklmnopqrstuvwxyz") (hM : gvD p.gvs "MOST_LETTERS" = .int 8) (ho : PyData.strOk x = true) (hl : x.length ≤ 100000) (h : ∀ b : Bool, (b = true ↔ Nm x) → P (.bl b) μ) : fnS p (k + 1) "is_name" [.str x] μ P X := by
  refine fn_in hq rfl ?_
  show wSs _ _ sd_is_name_9ba6.s [some (.str x), none] μ _
  unfold sd_is_name_9ba6
  refine st ?_
  walk_at "wx hL hM ho o_innT"
  by_cases h3 : x = Str.ofString "" ∨ x = Str.ofString "num" ∨ x = Str.ofString "text"
  · rw [if_pos (by rcases h3 with e | e | e <;> subst e <;> simp)]
    refine st ?_
    walk_at "wx"
    refine h false ⟨(fun e => by cases e), fun n => ?_⟩
    rcases h3 with e | e | e
    · exact absurd e n.ne
    · exact absurd e n.nn
    · exact absurd e n.nt
  · simp only [not_or] at h3
    rw [if_neg (by
      simp only [Bool.or_eq_true, decide_eq_true_eq, not_or]
      exact ⟨fun e => h3.1 e.symm, fun e => h3.2.1 e.symm, fun e => h3.2.2 e.symm⟩)]
    refine ⟨by rw [sizeLine_eq]; omega, ?_⟩
    by_cases h8 : (8 : Int) < x.length
    · rw [if_pos h8]
      refine st ?_
      walk_at "wx"
      exact h false ⟨(fun e => by cases e), fun n => by have := n.le; omega⟩
    · rw [if_neg h8]
      refine sn (st ?_)
      walk_at "wx"
      refine compF_map (stay := fun _ => True) (fun c => .bl (decide (97 ≤ c) && decide (c ≤ 122))) trivial (line_100 (by rw [List.length_nil, ← tl_len]; omega)) (fun c hc acc kk ha hk => ?_) ?_
      · walk_at "ws wipeG hL o_innS"
        refine ⟨ha, ?_⟩
        rw [abc_dec]
        exact hk
      · rw [List.nil_append]
        walk_at "ws blsD_of"
        refine h _ ⟨fun e => ?_, fun n => ?_⟩
        · refine ⟨fun c hc => ?_, h3.1, by omega, h3.2.1, h3.2.2⟩
          have := List.all_eq_true.mp e _ (List.mem_map.mpr ⟨c, hc, rfl⟩)
          simpa using this
        · rw [List.all_eq_true]
          intro v hv
          obtain ⟨c, hc, rfl⟩ := List.mem_map.mp hv
          have := n.lt c hc
          simp [this]
theorem wrapD_fk {b : DV} : ∀ {n : Nat}, (∃ f : FK, f.ok Nm ∧ f.dep = 1 ∧ f.d = b) → ∃ f : FK, f.ok Nm ∧ f.dep = n + 1 ∧ f.d = wrapD n b
  | 0, h => h
  | n + 1, h => by
    obtain ⟨f, h1, h2, h3⟩ := wrapD_fk (n := n) h
    exact ⟨.row f, h1, congrArg (· + 1) h2, by show DV.tup [.str "row", f.d] = _; rw [h3]; rfl⟩
theorem flat_any {p : Pgm} {k : Nat} {μ : Mu} {x : Str} {deep : Nat} {P : DV → Mu → Prop} {X : XP} (hi : Has p "is_name" sd_is_name_9ba6) (hq : Has p "flat_in" sd_flat_in_f98e) (hL : gvD p.gvs "LETTERS" = .str "abcdefghijklmnopqrstuvwxyz") (hM : gvD p.gvs "MOST_LETTERS" = .int 8)
    (hx : Asc x) (hl : x.length ≤ 50000) (hdl : deep ≤ 100) (h0 : P .non μ) (h1 : ∀ f : FK, f.ok Nm → f.dep ≤ deep → P f.d μ) : fnS p (k + 2) "flat_in" [.str x, .int (deep : Int)] μ P X := by
  refine fn_in hq rfl ?_
  show wSs ⟨fnS p (k + 1), gvD p.gvs⟩ _ sd_flat_in_f98e.s [some (.str x), some (.int (deep : Int)), none, none, none, none] μ _
  unfold sd_flat_in_f98e
  refine st ?_
  walk_at "ws"
  refine st ?_
  refine while_by (fun m γ μ' => ∃ r : Nat, γ = [some (.str x), some (.int (deep : Int)), some (.int (r : Int)), none, none, none] ∧ μ' = μ ∧ r ≤ deep ∧ m = deep - r) deep ⟨0, rfl, rfl, Nat.zero_le _, rfl⟩ ?_
  rintro m γ μ' N ⟨r, rfl, rfl, hr, rfl⟩ nxt
  have hlx : x.length ≤ sizeLine := by rw [sizeLine_eq]; omega
  walk_at "ws"
  by_cases hrd : (r : Int) < (deep : Int)
  · rw [if_pos hrd]
    refine ⟨hlx, hx.cut.ok, ?_⟩
    generalize hsl : cutS x (some (r : Int)) (some ((r : Int) + 1)) = c1
    by_cases hb : c1 = Str.ofString "["
    · rw [if_pos hb]
      refine st ?_
      walk_at "ws augW"
      refine sn ?_
      exact nxt (deep - (r + 1)) _ _ (by omega) ⟨r + 1, rfl, rfl, by omega, rfl⟩
    · rw [if_neg hb]
      refine st ?_
      walk_at "ws"
      rw [if_neg (by omega)]
      have a1 := len_mul (c := '[') (s := "[") rfl (n := r)
      have a2 := len_mul (c := ']') (s := "]") rfl (n := r)
      generalize hnm : cutS x (some (r : Int)) (some ((x.length : Int) - (r : Int))) = nm
      have hna : Asc nm := by rw [← hnm]; exact hx.cut
      have hnl : nm.length ≤ 50000 := by
        have e : (tl x).length = x.length := tl_len.symm
        rw [← hnm, tl_len, cutS_tl, List.length_take, List.length_drop]; omega
      have am1 : Asc (Txt.mul (Str.ofString "[") (r : Int)) := fun c hc => by
        rw [lb_sgn, tl_mul] at hc
        have := (List.mem_replicate.mp hc).2
        omega
      have am2 : Asc (Txt.mul (Str.ofString "]") (r : Int)) := fun c hc => by
        rw [rb_sgn, tl_mul] at hc
        have := (List.mem_replicate.mp hc).2
        omega
      have hok := ((am1.app hna).app am2).ok
      have fin : ∀ (b : DV) (Z : DEnds), (∃ f : FK, f.ok Nm ∧ f.dep = 1 ∧ f.d = b) → Z.rt = P → wSs ⟨fnS p (k + 1), gvD p.gvs⟩ (fun cls fs _ μ' => X cls fs μ') (sd_flat_in_f98e.s.drop 6) [some (.str x), some (.int (deep : Int)), some (.int (r : Int)), some (.str nm), some b, none] μ' Z := by
        intro b Z hb hZ
        unfold sd_flat_in_f98e
        simp only [Ss.drop]
        refine st ?_
        walk_at "ws"
        refine ⟨by constructor <;> omega, ?_⟩
        rw [Int.toNat_natCast]
        refine forF_by (fun rest γ μ2 => ∃ (j : Nat) (y : Option DV), γ = [some (.str x), some (.int (deep : Int)), some (.int (r : Int)), some (.str nm), some (wrapD j b), y] ∧ j + rest.length = r ∧ μ2 = μ') (fun _ _ _ _ => trivial) ?_ ?_ _
          ⟨0, none, rfl, by rw [rngD_length]; omega, rfl⟩
        · rintro d ds γ μ2 N2 ⟨j, y, rfl, e1, rfl⟩ nxt2
          rw [List.length_cons] at e1
          walk_at "wgo"
          exact nxt2 _ _ ⟨j + 1, _, rfl, by omega, rfl⟩
        · rintro γ μ2 ⟨j, y, rfl, e1, rfl⟩
          rw [List.length_nil, Nat.add_zero] at e1
          subst e1
          walk_at "wgo"
          rw [hZ]
          obtain ⟨f, f1, f2, f3⟩ := wrapD_fk (n := j) hb
          rw [← f3]
          exact h1 f f1 (by omega)
      refine sn (st ?_)
      walk_at "ws hnm"
      refine ⟨hlx, hlx, ?_⟩
      have hxo := hx.ok
      refine st ?_
      walk_at "ws o_mulS hok hxo"
      refine ⟨mulOk_lb (by omega), by rw [sizeLine_eq]; omega, mulOk_rb (by omega), by rw [sizeLine_eq, lenA]; omega, ?_⟩
      by_cases heq : x = Txt.mul (Str.ofString "[") (r : Int) ++ nm ++ Txt.mul (Str.ofString "]") (r : Int)
      · rw [if_neg (by rw [decide_eq_true heq]; decide)]
        refine is_name_any hi hL hM hna.ok (by omega) fun b hb => ?_
        cases b with
        | true =>
          walk_at "wgo"
          refine is_name_any hi hL hM hna.ok (by omega) fun b2 hb2 => ?_
          rw [show b2 = true from hb2.mpr (hb.mp rfl)]
          walk_at "ws"
          exact fin _ _ ⟨.of nm, hb.mp rfl, rfl, rfl⟩ rfl
        | false =>
          have e2 := inD_strs (x := nm) (L := [Str.ofString "num", Str.ofString "text"])
          rw [show ([Str.ofString "num", Str.ofString "text"] : List Str).map DV.str = [.str (Str.ofString "num"), .str (Str.ofString "text")] from rfl] at e2
          walk_at "ws o_innT e2"
          by_cases hn : nm = Str.ofString "num" ∨ nm = Str.ofString "text"
          · rw [if_neg (by simp [hn])]
            refine sn (st ?_)
            walk_at "ws"
            refine is_name_any hi hL hM hna.ok (by omega) fun b2 hb2 => ?_
            have : b2 = false := by
              cases b2 with
              | false => rfl
              | true => exact absurd (hb.mpr (hb2.mp rfl)) (by decide)
            rw [this]
            walk_at "ws"
            rcases hn with rfl | rfl
            · exact fin _ _ ⟨.num, trivial, rfl, rfl⟩ rfl
            · exact fin _ _ ⟨.text, trivial, rfl, rfl⟩ rfl
          · rw [if_pos (by simpa using hn)]
            refine st ?_
            walk_at "ws"
            exact h0
      · rw [if_pos (by rw [decide_eq_false heq])]
        refine st ?_
        walk_at "ws"
        exact h0
  · rw [if_neg hrd]
    refine st ?_
    walk_at "ws"
    rw [if_pos (by omega)]
    refine st ?_
    walk_at "ws"
    exact h0
end Sr

set_option Elab.async false
set_option linter.all false
set_option maxRecDepth 100000
set_option autoImplicit false
/-! Any text, read as a callback's kind. -/
namespace Sr
open PySem PySem.Spec PyProof.Rows L2

theorem sub_tl {x : Str} {i j : Nat} : tl (Builtin.Str.strSub x i j) = ((tl x).take j).drop i := by
  show (x.cps.extract i j).toList = _
  rw [Array.toList_extract]
  show ((tl x).drop i).take (j - i) = _
  rw [List.drop_take]
theorem Asc.sub {x : Str} {i j : Nat} (h : Asc x) : Asc (Builtin.Str.strSub x i j) := fun c hc => by
  rw [sub_tl] at hc
  exact h c (List.mem_of_mem_take (List.mem_of_mem_drop hc))
theorem sub_len {x : Str} {i j : Nat} : (Builtin.Str.strSub x i j).length ≤ x.length := by
  have e : (tl x).length = x.length := tl_len.symm
  rw [tl_len, sub_tl, List.length_drop, List.length_take]; omega
theorem part_asc {x y : Str} (h : Asc x) (k : Asc y) : Asc (Txt.partition x y).1 ∧ Asc (Txt.partition x y).2.1 ∧ Asc (Txt.partition x y).2.2 := by
  unfold Txt.partition
  split
  · exact ⟨h.sub, k, h.sub⟩
  · exact ⟨h, .emp, .emp⟩
theorem part_len {x y : Str} : (Txt.partition x y).1.length ≤ x.length ∧ (Txt.partition x y).2.2.length ≤ x.length := by
  unfold Txt.partition
  split
  · exact ⟨sub_len, sub_len⟩
  · exact ⟨Nat.le_refl _, Nat.zero_le _⟩
theorem split_of {x y z : Str} (h : z ∈ Txt.split x y) : z = x ∨ ∃ i j, z = Builtin.Str.strSub x i j := by
  unfold Txt.split at h
  split at h
  · exact .inl (List.mem_singleton.mp h)
  · split at h
    · exact .inl (List.mem_singleton.mp h)
    · unfold Builtin.Str.partsBetween at h
      obtain ⟨q, _, e⟩ := List.mem_map.mp h
      exact .inr ⟨q.1, q.2, e.symm⟩
theorem split_asc {x y z : Str} (h : Asc x) (hz : z ∈ Txt.split x y) : Asc z ∧ z.length ≤ x.length := by
  rcases split_of hz with rfl | ⟨i, j, rfl⟩
  · exact ⟨h, Nat.le_refl _⟩
  · exact ⟨h.sub, sub_len⟩
/-- no depth is left -/
theorem flat_neg {p : Pgm} {k : Nat} {μ : Mu} {x : Str} {deep : Int} {P : DV → Mu → Prop} {X : XP} (hq : Has p "flat_in" sd_flat_in_f98e) (hd : deep ≤ 0) (h0 : P .non μ) : fnS p (k + 1) "flat_in" [.str x, .int deep] μ P X := by
  refine fn_in hq rfl ?_
  show wSs ⟨fnS p k, gvD p.gvs⟩ _ sd_flat_in_f98e.s [some (.str x), some (.int deep), none, none, none, none] μ _
  unfold sd_flat_in_f98e
  refine st ?_
  walk_at "ws"
  refine st ?_
  refine while_by (fun m γ μ' => γ = [some (.str x), some (.int deep), some (.int 0), none, none, none] ∧ μ' = μ) 0 ⟨rfl, rfl⟩ ?_
  rintro m γ μ' N ⟨rfl, rfl⟩ nxt
  walk_at "ws"
  rw [if_neg (by omega)]
  refine st ?_
  walk_at "ws"
  rw [if_pos (by omega)]
  refine st ?_
  walk_at "ws"
  exact h0
/-- a flat kind, or None -/
def oD : Option FK → DV
  | some f => f.d
  | none => .non
theorem flat_int {p : Pgm} {k : Nat} {μ : Mu} {x : Str} {deep : Int} {P : DV → Mu → Prop} {X : XP} (hi : Has p "is_name" sd_is_name_9ba6) (hq : Has p "flat_in" sd_flat_in_f98e) (hL : gvD p.gvs "LETTERS" = .str "abcdefghijklmnopqrstuvwxyz") (hM : gvD p.gvs "MOST_LETTERS" = .int 8)
    (hx : Asc x) (hl : x.length ≤ 50000) (hdl : deep ≤ 100) (h : ∀ o : Option FK, (∀ f, o = some f → f.ok Nm ∧ (f.dep : Int) ≤ deep) → P (oD o) μ) : fnS p (k + 2) "flat_in" [.str x, .int deep] μ P X := by
  by_cases hd : deep ≤ 0
  · exact flat_neg (k := k + 1) hq hd (h none fun f e => by cases e)
  · obtain ⟨n, rfl⟩ := Int.eq_ofNat_of_zero_le (show 0 ≤ deep by omega)
    exact flat_any hi hq hL hM hx hl (by omega) (h none fun f e => by cases e) fun f h1 h2 => h (some f) fun g e => by cases e; exact ⟨h1, by omega⟩
end Sr

set_option Elab.async false
set_option linter.all false
set_option maxRecDepth 100000
set_option autoImplicit false
/-! Callbacks' kinds, read. -/
namespace Sr
open PySem PySem.Spec PyProof.Rows L2
def sd_calls_in_5685 : SD := ⟨["text", "deep", "kinds", "called", "arrow", "answer", "last", "some", "one"], ["text", "deep"],
  (.cons (.asg (.tup (.cons (.var 3) (.cons (.var 4) (.cons (.var 5) .nil)))) (.bm .part (.var 0) (.cons (.str "-> ") .nil)))
  (.cons (.asg (.var 2) (.lst true .nil))
  (.cons (.ite (.cmp .ne (.var 3) (.str "")) (.cons (.asg (.var 2) (.comp true [8] (.call "flat_in" (.cons (.var 8) (.cons (.op .sub (.var 1) (.int 1)) .nil))) (.var 8) (.seq (.bm (.split false) (.sl false (.var 3) .no (.neg (.int 1))) (.cons (.str ", ") .nil))) .nil)) .nil) .nil)
  (.cons (.expr (.bm .append (.var 2) (.cons (.call "flat_in" (.cons (.var 5) (.cons (.op .sub (.var 1) (.int 1)) .nil))) .nil)))
  (.cons (.ite (.or_ (.cmp .eq (.var 4) (.str "")) (.or_ (.cmp .nin (.sl false (.var 3) (.neg (.int 1)) .no) (.tup (.cons (.str "") (.cons (.str " ") .nil)))) (.or_ (.cmp .inn .non (.var 2)) (.cmp .gt (.bf .len (.cons (.var 2) .nil)) (.op (.add false) (.glob "MOST_CALLED") (.int 1)))))) (.cons (.ret .non) .nil) .nil)
  (.cons (.star .nil 7 (.cons (.var 6) .nil) false (.var 2))
  (.cons (.ret (.tup (.cons (.str "calls") (.cons (.bf .tuple (.cons (.var 7) .nil)) (.cons (.var 6) .nil))))) .nil)))))))⟩
theorem FK.sh_cs : ∀ {k : FK}, k.ok Nm → ∀ c ∈ tl k.sh, 91 ≤ c
  | num, _ => fun c hc => by have := (IsLt.lit (s := "num") (by decide)) c hc; omega
  | text, _ => fun c hc => by have := (IsLt.lit (s := "text") (by decide)) c hc; omega
  | of x, h => fun c hc => by have := (show Nm x from h).lt c hc; omega
  | row k, h => fun c hc => by
    have hc : c ∈ tl (Str.ofString "[" ++ k.sh ++ Str.ofString "]") := hc
    rw [tl_app, tl_app, lb_sgn, rb_sgn, tl_sgn, tl_sgn] at hc
    simp only [List.mem_append, List.mem_singleton] at hc
    rcases hc with (rfl | hc) | rfl
    · decide
    · exact FK.sh_cs (k := k) h c hc
    · decide
theorem called_cs {ks : List FK} (h : ∀ f ∈ ks, f.ok Nm) : ∀ c ∈ tl (called ks), 91 ≤ c ∨ c = 44 ∨ c = 32 := by
  cases ks with
  | nil => intro c hc; have hc : c ∈ tl (Str.ofString "") := hc; rw [tl_empty] at hc; cases hc
  | cons k ks =>
    intro c hc
    have hc : c ∈ tl (Txt.join (Str.ofString ", ") ((k :: ks).map FK.sh) ++ Str.ofString " ") := hc
    rw [tl_app, join_tl] at hc
    rcases List.mem_append.mp hc with h1 | h1
    · rcases joinL_mem h1 with h2 | ⟨x, hx, h2⟩
      · rw [tl_lit] at h2
        have h2 : c ∈ [44, 32] := h2
        simp at h2; omega
      · obtain ⟨y, hy, rfl⟩ := List.mem_map.mp hx
        obtain ⟨f, hf, rfl⟩ := List.mem_map.mp hy
        exact .inl (FK.sh_cs (h f hf) c h2)
    · rw [tl_lit] at h1
      have h1 : c ∈ [32] := h1
      simp at h1; omega
theorem FK.d_tup : ∀ (f : FK), ∃ ds, f.d = .tup ds
  | num => ⟨_, rfl⟩
  | text => ⟨_, rfl⟩
  | of x => ⟨_, rfl⟩
  | row k => ⟨_, rfl⟩
theorem non_in {ks : List FK} : inD .non (ks.map FK.d) = false := by
  induction ks with
  | nil => rfl
  | cons k ks ih =>
    rw [List.map_cons, inD_cons, ih, Bool.or_false]
    obtain ⟨ds, e⟩ := k.d_tup
    rw [e]; rfl
theorem called_last {ks : List FK} : cutS (called ks) (some (-1)) none = Str.ofString "" ∨ cutS (called ks) (some (-1)) none = Str.ofString " " := by
  cases ks with
  | nil => exact .inl (tl_ext (by rw [tl_last]; show (tl (Str.ofString "")).drop _ = _; rw [tl_empty]; rfl))
  | cons k ks =>
    refine .inr (tl_ext ?_)
    rw [tl_last]
    show (tl (Txt.join (Str.ofString ", ") ((k :: ks).map FK.sh) ++ Str.ofString " ")).drop ((tl (Txt.join (Str.ofString ", ") ((k :: ks).map FK.sh) ++ Str.ofString " ")).length - 1) = _
    rw [tl_app, lit_sgn (s := " ") (c := ' ') rfl, tl_sgn, List.length_append, List.length_singleton, Nat.add_sub_cancel, List.drop_left' rfl]
theorem called_but {k : FK} {ks : List FK} : cutS (called (k :: ks)) none (some (-1)) = Txt.join (Str.ofString ", ") ((k :: ks).map FK.sh) := by
  refine tl_ext ?_
  rw [tl_butLast0]
  show (tl (Txt.join (Str.ofString ", ") ((k :: ks).map FK.sh) ++ Str.ofString " ")).take ((tl (Txt.join (Str.ofString ", ") ((k :: ks).map FK.sh) ++ Str.ofString " ")).length - 1) = _
  rw [tl_app, lit_sgn (s := " ") (c := ' ') rfl, tl_sgn, List.length_append, List.length_singleton, Nat.add_sub_cancel, List.take_left' rfl]
theorem called_ne {k : FK} {ks : List FK} : called (k :: ks) ≠ Str.ofString "" := fun e => by
  have e := congrArg (fun x => (tl x).length) e
  have e : (tl (Txt.join (Str.ofString ", ") ((k :: ks).map FK.sh) ++ Str.ofString " ")).length = (tl (Str.ofString "")).length := e
  rw [tl_app, tl_empty, lit_sgn (s := " ") (c := ' ') rfl, tl_sgn, List.length_append, List.length_singleton] at e
  cases e
theorem calls_in_ok {p : Pgm} {k : Nat} {μ : Mu} {ks : List FK} {f : FK} {d : Nat} {P : DV → Mu → Prop} {X : XP} (hi : Has p "is_name" sd_is_name_9ba6) (hfl : Has p "flat_in" sd_flat_in_f98e) (hq : Has p "calls_in" sd_calls_in_5685) (hL : gvD p.gvs "LETTERS" = .str "abcdefghijklmnopqrstuvwxyz") (hM : gvD p.gvs "MOST_LETTERS" = .int 8) (hC : gvD p.gvs "MOST_CALLED" = .int 3)
    (ho : ∀ q ∈ ks, q.ok Nm) (ho2 : f.ok Nm) (l1 : ks.length ≤ 3) (l2 : ∀ q ∈ ks, q.dep ≤ d) (l3 : f.dep ≤ d) (hdl : d ≤ 50) (h : ∀ μ', Grow μ μ' → P (Kd.calls ks f).d μ') : fnS p (k + 3) "calls_in" [.str (called ks ++ Str.ofString "-> " ++ f.sh), .int ((d : Int) + 1)] μ P X := by
  have hcl := called_len ho l2 l1
  have hfl2 := FK.sh_len ho2
  have hca := called_asc ho
  refine fn_in hq rfl ?_
  show wSs ⟨fnS p (k + 2), gvD p.gvs⟩ _ sd_calls_in_5685.s [some (.str _), some (.int _), none, none, none, none, none, none, none] μ _
  have hpt : Txt.partition (called ks ++ Str.ofString "-> " ++ f.sh) (Str.ofString "-> ") = (called ks, Str.ofString "-> ", f.sh) :=
    partition_app' (s := 45) (S := [62, 32]) tl_lit (fun hm => by have := called_cs ho _ hm; omega)
  generalize hT : called ks ++ Str.ofString "-> " ++ f.sh = T at *
  have hTl : T.length ≤ 1000 := by rw [← hT]; simp only [lenA, l_ar]; omega
  unfold sd_calls_in_5685
  have tail : ∀ (a : Addr) (μ1 : Mu) (y : Option DV) (Z : DEnds), Z.rt = P → μ1 a = some (.lst (ks.map FK.d)) → μ a = none → Grow μ μ1 → wSs ⟨fnS p (k + 2), gvD p.gvs⟩ (fun cls fs _ μ' => X cls fs μ') (sd_calls_in_5685.s.drop 3)
      [some (.str T), some (.int ((d : Int) + 1)), some (.ref a), some (.str (called ks)), some (.str "-> "), some (.str f.sh), none, none, y] μ1 Z := by
    intro a μ1 y Z hZ ha han hg
    unfold sd_calls_in_5685
    simp only [Ss.drop]
    refine st ?_
    walk_at "ws ha"
    rw [show (d : Int) + 1 - 1 = (d : Int) by omega]
    refine flat_in_ok hi hfl hL hM ho2 l3 (by omega) ⟨_, ha, by rw [List.length_map]; exact sizeLine_gt (by omega), ?_⟩
    have e2 : (upm μ1 a (.lst (ks.map FK.d ++ [f.d]))) a = some (.lst ((ks ++ [f]).map FK.d)) := by rw [upm_same, List.map_append]; rfl
    have g2 : Grow μ (upm μ1 a (.lst (ks.map FK.d ++ [f.d]))) := fun x o e => by
      have hx : x ≠ a := fun z => by subst z; rw [han] at e; cases e
      rw [upm_ne hx]; exact hg x o e
    generalize upm μ1 a (.lst (ks.map FK.d ++ [f.d])) = μ2 at *
    have hok : okS (.lst ((ks ++ [f]).map FK.d)) := okS_of 60 (cmps_map fun q hq => FK.cmp (U := Nm) (fun x h => h.ok) 59 (by
      rcases List.mem_append.mp hq with e | e
      · exact ho q e
      · rw [List.mem_singleton] at e; subst e; exact ho2) (by
      rcases List.mem_append.mp hq with e | e
      · have := l2 q e; omega
      · rw [List.mem_singleton] at e; subst e; omega)) (by decide)
    have hok2 : okS .non := okS_of 0 rfl (by decide)
    refine st ?_
    simp -implicitDefEqProofs only [wS, wE, wEs, wT, wTs, wI, wG, wGs, gs0, gsS, asB, asI, o_eq, o_ne, o_addI, o_addS, o_addT, o_addL, o_sub, o_mul, o_fdiv, o_mod, o_pow, o_lt, o_le, o_gt, o_ge, o_isN, o_notN, o_ixS, o_ixT, o_ixL, o_ixR, o_ixO, atN_0, atN_1, atN_2, atN_3, atN_4, atN_5, atN_6, atN_7, atN_8, atN_9, atN_10, atN_11, atN_12, atN_13, atN_14, atN_15, List.getElem?_cons_succ, List.getElem?_cons_zero, mut_is, newF, newT, setW_is, bmW, bmT, bfW, slB, slW, sq_l, sq_r, sq_t, lc_l, lst_tup, implies_true, intsD_map, strsD_map, blsD_map, List.set_cons_zero, List.set_cons_succ, if_true, if_false, Bool.false_eq_true, Bool.true_eq_false, Option.some.injEq, MO.lst.injEq, DV.ref.injEq, DV.int.injEq, DV.str.injEq, DV.lst.injEq, DV.tup.injEq, exists_eq_left', exists_eq_left, exists_eq', exists_eq, exists_and_left, true_and, and_true, dl_lst, dl_tup, dl_int, dl_str, dl_bl, dl_non, dl_rol, okD_int, okD_bl, okD_non, okD_str, eqv_ss, eqv_ii, eqv_nn, eqv_bb, eqv_ll, eqv_tt, eqvDs_nil, eqvDs_cons, eqvDs_cn, eqvDs_nc, lit_inj, strOk_lit, atI_m1a, atI_m1b, atI_m1c, atI_m1d, atI_m1e, o_innL, o_ninL, inD_nil, inD_cons, flS, flI, List.all_cons, List.all_nil, Bool.and_true, Bool.and_self, Bool.or_false, Bool.or_true, Bool.true_or, Bool.false_or, decide_true, decide_false, reduceIte, String.reduceEq, Gs.len, midD, List.length_cons, List.length_nil, List.take_succ_cons, List.take_zero, List.take_nil, List.drop_zero, List.drop_succ_cons, List.drop_nil, List.nil_append, List.cons_append, List.getD_cons_zero, List.map_cons, List.map_nil, Nat.zero_add, Nat.add_zero, Nat.reduceAdd, Nat.reduceLeDiff, Nat.reduceSub, Int.reduceSub, Int.reduceAdd, Int.reduceMul, Int.reduceLT, Int.reduceLE, Bool.not_eq_true', Bool.not_true, Bool.not_false, Bool.not_not, decide_eq_true_eq, isNon, tyD, isT, upm_same, o_ninT, o_inN, inW, dl_ref e2, hC]
    refine ⟨line_100 (by omega), ?_⟩
    rw [if_neg (by rcases called_last (ks := ks) with e | e <;> rw [e] <;> simp [lit_inj])]
    refine ⟨hok2, hok, ?_⟩
    rw [non_in, if_neg (by decide)]
    have hlen : (ks ++ [f]).length = ks.length + 1 := by simp
    simp -implicitDefEqProofs only [wS, wE, wEs, wT, wTs, wI, wG, wGs, gs0, gsS, asB, asI, o_eq, o_ne, o_addI, o_addS, o_addT, o_addL, o_sub, o_mul, o_fdiv, o_mod, o_pow, o_lt, o_le, o_gt, o_ge, o_isN, o_notN, o_ixS, o_ixT, o_ixL, o_ixR, o_ixO, atN_0, atN_1, atN_2, atN_3, atN_4, atN_5, atN_6, atN_7, atN_8, atN_9, atN_10, atN_11, atN_12, atN_13, atN_14, atN_15, List.getElem?_cons_succ, List.getElem?_cons_zero, mut_is, newF, newT, setW_is, bmW, bmT, bfW, slB, slW, sq_l, sq_r, sq_t, lc_l, lst_tup, implies_true, intsD_map, strsD_map, blsD_map, List.set_cons_zero, List.set_cons_succ, if_true, if_false, Bool.false_eq_true, Bool.true_eq_false, Option.some.injEq, MO.lst.injEq, DV.ref.injEq, DV.int.injEq, DV.str.injEq, DV.lst.injEq, DV.tup.injEq, exists_eq_left', exists_eq_left, exists_eq', exists_eq, exists_and_left, true_and, and_true, dl_lst, dl_tup, dl_int, dl_str, dl_bl, dl_non, dl_rol, okD_int, okD_bl, okD_non, okD_str, eqv_ss, eqv_ii, eqv_nn, eqv_bb, eqv_ll, eqv_tt, eqvDs_nil, eqvDs_cons, eqvDs_cn, eqvDs_nc, lit_inj, strOk_lit, atI_m1a, atI_m1b, atI_m1c, atI_m1d, atI_m1e, o_innL, o_ninL, inD_nil, inD_cons, flS, flI, List.all_cons, List.all_nil, Bool.and_true, Bool.and_self, Bool.or_false, Bool.or_true, Bool.true_or, Bool.false_or, decide_true, decide_false, reduceIte, String.reduceEq, Gs.len, midD, List.length_cons, List.length_nil, List.take_succ_cons, List.take_zero, List.take_nil, List.drop_zero, List.drop_succ_cons, List.drop_nil, List.nil_append, List.cons_append, List.getD_cons_zero, List.map_cons, List.map_nil, Nat.zero_add, Nat.add_zero, Nat.reduceAdd, Nat.reduceLeDiff, Nat.reduceSub, Int.reduceSub, Int.reduceAdd, Int.reduceMul, Int.reduceLT, Int.reduceLE, Bool.not_eq_true', Bool.not_true, Bool.not_false, Bool.not_not, decide_eq_true_eq, isNon, tyD, isT, upm_same, sq_o e2, List.length_map, hlen]
    rw [if_neg (by omega)]
    refine sn ?_
    have e3 : midD 0 1 ((ks ++ [f]).map FK.d) = ks.map FK.d := by
      unfold midD
      rw [List.drop_zero, List.length_map, hlen, Nat.sub_zero, Nat.add_sub_cancel, List.map_append, List.take_left' (List.length_map ..)]
    have e4 : ((ks ++ [f]).map FK.d).drop (ks.length + 1 - 1) = [f.d] := by
      rw [Nat.add_sub_cancel, List.map_append, List.drop_left' (List.length_map ..)]; rfl
    refine st ?_
    show ∃ xs, sq μ2 (.ref a) = some xs ∧ _
    refine ⟨_, sq_o e2, by rw [List.length_map, hlen]; exact Nat.le_add_left _ _, by rw [List.length_map, hlen]; omega, ?_⟩
    rw [show midD Gs.nil.len (Gs.cons (G.var 6) Gs.nil).len ((ks ++ [f]).map FK.d) = ks.map FK.d from e3,
      show ((ks ++ [f]).map FK.d).drop (((ks ++ [f]).map FK.d).length - (Gs.cons (G.var 6) Gs.nil).len) = [f.d] by rw [List.length_map, hlen]; exact e4]
    walk_at "wgo"
    rw [hZ]
    exact h μ2 g2
  walk_at "wgo hpt"
  refine ⟨by rw [l_ar]; rfl, line_100 hTl, ?_⟩
  refine st ?_
  walk_at "ws"
  intro a ha
  refine st ?_
  walk_at "ws hca.ok"
  cases ks with
  | nil =>
    rw [if_neg (by simp [called])]
    with_reducible refine sn ?_
    exact tail a _ _ _ rfl upm_same ha fun x o e => by
      have hx : x ≠ a := fun z => by subst z; rw [ha] at e; cases e
      rw [upm_ne hx]; exact e
  | cons q qs =>
    rw [if_pos (by simp [called_ne])]
    have hb := called_but (k := q) (ks := qs)
    have hne : ¬ (q :: qs).map FK.sh = [] := by simp
    have hbl : (Txt.join (Str.ofString ", ") ((q :: qs).map FK.sh)).length ≤ (called (q :: qs)).length := by
      show _ ≤ (Txt.join (Str.ofString ", ") ((q :: qs).map FK.sh) ++ Str.ofString " ").length
      rw [lenA]; omega
    generalize q :: qs = ks at *
    have hsp : Txt.split (Txt.join (Str.ofString ", ") (ks.map FK.sh)) (Str.ofString ", ") = ks.map FK.sh :=
      split_join' (s := 44) (S := [32]) tl_lit (by decide +kernel) hne fun x hx => by
        obtain ⟨f, hf, rfl⟩ := List.mem_map.mp hx
        exact fun hm => by have := FK.sh_cs (ho f hf) 44 hm; omega
    refine st ?_
    walk_at "ws hb hsp List.map_map"
    refine ⟨line_100 (by omega), by rw [l_cm]; rfl, line_100 (by omega), ?_⟩
    refine compF_map (ys := ks) (em := DV.str ∘ FK.sh) FK.d trivial (line_100 (by rw [List.length_nil]; omega)) (fun q hq acc kk ha hk => ?_) ?_
    · walk_at "ws wipeG"
      rw [show (d : Int) + 1 - 1 = (d : Int) by omega]
      exact flat_in_ok hi hfl hL hM (ho q hq) (l2 q hq) (by omega) ⟨ha, hk⟩
    · rw [List.nil_append]
      intro b hb2
      have hba : b ≠ a := fun e => by subst e; rw [upm_same] at hb2; cases hb2
      have hb3 : μ b = none := by rw [upm_ne hba] at hb2; exact hb2
      refine sn ?_
      exact tail b _ _ _ rfl upm_same hb3 fun x o e => by
        have h1 : x ≠ b := fun z => by subst z; rw [hb3] at e; cases e
        have h2 : x ≠ a := fun z => by subst z; rw [ha] at e; cases e
        rw [upm_ne h1, upm_ne h2]; exact e
end Sr

set_option Elab.async false
set_option linter.all false
set_option maxRecDepth 100000
set_option autoImplicit false
/-! Any text, read as a callback's kind. -/
namespace Sr
open PySem PySem.Spec PyProof.Rows L2

theorem eqv_non {d : DV} {xs : List DV} (h : d = .tup xs) : eqvD d .non = false := by subst h; rfl
theorem inD_oD : ∀ {os : List (Option FK)}, inD .non (os.map oD) = os.any fun o => o.isNone
  | [] => rfl
  | o :: os => by
    rw [List.map_cons, inD_cons, inD_oD, List.any_cons]
    cases o with
    | none => rfl
    | some f =>
      obtain ⟨xs, e⟩ := FK.d_tup f
      rw [show oD (some f) = f.d from rfl, eqv_non e]; rfl
theorem all_some : ∀ {os : List (Option FK)}, (os.any fun o => o.isNone) = false → ∃ fs : List FK, os = fs.map some
  | [], _ => ⟨[], rfl⟩
  | o :: os, h => by
    rw [List.any_cons, Bool.or_eq_false_iff] at h
    cases o with
    | none => cases h.1
    | some f =>
      obtain ⟨fs, e⟩ := all_some h.2
      exact ⟨f :: fs, by rw [e]; rfl⟩
theorem calls_any {p : Pgm} {k : Nat} {μ : Mu} {x : Str} {deep : Int} {P : DV → Mu → Prop} {X : XP} (hi : Has p "is_name" sd_is_name_9ba6) (hfl : Has p "flat_in" sd_flat_in_f98e) (hq : Has p "calls_in" sd_calls_in_5685) (hL : gvD p.gvs "LETTERS" = .str "abcdefghijklmnopqrstuvwxyz") (hM : gvD p.gvs "MOST_LETTERS" = .int 8) (hC : gvD p.gvs "MOST_CALLED" = .int 3)
    (hx : Asc x) (hl : x.length ≤ 8000) (hdl : deep ≤ 50) (h0 : ∀ μ', Grow μ μ' → P .non μ')
    (h : ∀ (ks : List FK) (f : FK) μ', (∀ q ∈ ks, q.ok Nm ∧ (q.dep : Int) + 1 ≤ deep) → f.ok Nm → (f.dep : Int) + 1 ≤ deep → ks.length ≤ 3 → Grow μ μ' → P (Kd.calls ks f).d μ') : fnS p (k + 3) "calls_in" [.str x, .int deep] μ P X := by
  refine fn_in hq rfl ?_
  show wSs ⟨fnS p (k + 2), gvD p.gvs⟩ _ sd_calls_in_5685.s [some (.str x), some (.int deep), none, none, none, none, none, none, none] μ _
  have hpa := part_asc (y := Str.ofString "-> ") hx (.lit (by decide))
  have hpl := part_len (x := x) (y := Str.ofString "-> ")
  generalize hc : (Txt.partition x (Str.ofString "-> ")).1 = cal at *
  generalize har : (Txt.partition x (Str.ofString "-> ")).2.1 = arr at *
  generalize han : (Txt.partition x (Str.ofString "-> ")).2.2 = ans at *
  have hbig : ∀ {n : Nat}, n ≤ 9000 → n ≤ sizeLine := fun {n} h => by rw [sizeLine_eq]; omega
  have hbig2 : ∀ {n : Nat}, n ≤ 9000 → n < sizeLine := fun {n} h => by rw [sizeLine_eq]; omega
  unfold sd_calls_in_5685
  have tail : ∀ (a : Addr) (μ1 : Mu) (y : Option DV) (os : List (Option FK)) (Z : DEnds), Z.rt = P → (∀ o ∈ os, ∀ f, o = some f → f.ok Nm ∧ (f.dep : Int) + 1 ≤ deep) → os.length ≤ 8500 → μ1 a = some (.lst (os.map oD)) → μ a = none → Grow μ μ1 → wSs ⟨fnS p (k + 2), gvD p.gvs⟩ (fun cls fs _ μ' => X cls fs μ') (sd_calls_in_5685.s.drop 3)
      [some (.str x), some (.int deep), some (.ref a), some (.str cal), some (.str arr), some (.str ans), none, none, y] μ1 Z := by
    intro a μ1 y os Z hZ hos hol ha hna hg
    unfold sd_calls_in_5685
    simp only [Ss.drop]
    refine st ?_
    walk_at "ws ha"
    refine flat_int hi hfl hL hM hpa.2.2 (by omega) (by omega) fun o ho => ⟨_, ha, by rw [List.length_map]; exact hbig2 (by omega), ?_⟩
    have e2 : (upm μ1 a (.lst (os.map oD ++ [oD o]))) a = some (.lst ((os ++ [o]).map oD)) := by rw [upm_same, List.map_append]; rfl
    have g2 : Grow μ (upm μ1 a (.lst (os.map oD ++ [oD o]))) := fun x o e => by
      have hx : x ≠ a := fun z => by subst z; rw [hna] at e; cases e
      rw [upm_ne hx]; exact hg x o e
    generalize upm μ1 a (.lst (os.map oD ++ [oD o])) = μ2 at *
    have hos2 : ∀ q ∈ os ++ [o], ∀ f, q = some f → f.ok Nm ∧ (f.dep : Int) + 1 ≤ deep := fun q hq f e => by
      rcases List.mem_append.mp hq with z | z
      · exact hos q z f e
      · rw [List.mem_singleton] at z; subst z; have := ho f e; exact ⟨this.1, by omega⟩
    have hol2 : (os ++ [o]).length ≤ 8501 := by rw [List.length_append, List.length_singleton]; omega
    have hne2 : os ++ [o] ≠ [] := by simp
    generalize os ++ [o] = os2 at *
    have hok : okS (.lst (os2.map oD)) := okS_of 60 (cmps_map fun q hq => by
      cases q with
      | none => rfl
      | some f => exact FK.cmp (U := Nm) (fun x h => h.ok) 59 (hos2 _ hq f rfl).1 (by have := (hos2 _ hq f rfl).2; omega)) (by decide)
    have hok2 : okS .non := okS_of 0 rfl (by decide)
    have hao := hpa.2.1.ok
    have none_ : ∀ Z : DEnds, Z.rt = P → ∀ γ : Ga, wSs ⟨fnS p (k + 2), gvD p.gvs⟩ (fun cls fs _ μ' => X cls fs μ') (.cons (.ret .non) .nil) γ μ2 Z := fun Z hZ γ => by
      refine st ?_
      walk_at "ws"
      rw [hZ]
      exact h0 μ2 g2
    refine st ?_
    simp -implicitDefEqProofs only [wS, wE, wEs, wT, wTs, wI, wG, wGs, gs0, gsS, asB, asI, o_eq, o_ne, o_addI, o_addS, o_addT, o_addL, o_sub, o_mul, o_fdiv, o_mod, o_pow, o_lt, o_le, o_gt, o_ge, o_isN, o_notN, o_ixS, o_ixT, o_ixL, o_ixR, o_ixO, atN_0, atN_1, atN_2, atN_3, atN_4, atN_5, atN_6, atN_7, atN_8, atN_9, atN_10, atN_11, atN_12, atN_13, atN_14, atN_15, List.getElem?_cons_succ, List.getElem?_cons_zero, mut_is, newF, newT, setW_is, bmW, bmT, bfW, slB, slW, sq_l, sq_r, sq_t, lc_l, lst_tup, implies_true, intsD_map, strsD_map, blsD_map, List.set_cons_zero, List.set_cons_succ, if_true, if_false, Bool.false_eq_true, Bool.true_eq_false, Option.some.injEq, MO.lst.injEq, DV.ref.injEq, DV.int.injEq, DV.str.injEq, DV.lst.injEq, DV.tup.injEq, exists_eq_left', exists_eq_left, exists_eq', exists_eq, exists_and_left, true_and, and_true, dl_lst, dl_tup, dl_int, dl_str, dl_bl, dl_non, dl_rol, okD_int, okD_bl, okD_non, okD_str, eqv_ss, eqv_ii, eqv_nn, eqv_bb, eqv_ll, eqv_tt, eqvDs_nil, eqvDs_cons, eqvDs_cn, eqvDs_nc, lit_inj, strOk_lit, atI_m1a, atI_m1b, atI_m1c, atI_m1d, atI_m1e, o_innL, o_ninL, inD_nil, inD_cons, flS, flI, List.all_cons, List.all_nil, Bool.and_true, Bool.and_self, Bool.or_false, Bool.or_true, Bool.true_or, Bool.false_or, decide_true, decide_false, reduceIte, String.reduceEq, Gs.len, midD, List.length_cons, List.length_nil, List.take_succ_cons, List.take_zero, List.take_nil, List.drop_zero, List.drop_succ_cons, List.drop_nil, List.nil_append, List.cons_append, List.getD_cons_zero, List.map_cons, List.map_nil, Nat.zero_add, Nat.add_zero, Nat.reduceAdd, Nat.reduceLeDiff, Nat.reduceSub, Int.reduceSub, Int.reduceAdd, Int.reduceMul, Int.reduceLT, Int.reduceLE, Bool.not_eq_true', Bool.not_true, Bool.not_false, Bool.not_not, decide_eq_true_eq, isNon, tyD, isT, upm_same, o_ninT, o_inN, inW, dl_ref e2, hC, hao]
    by_cases harr : arr = Str.ofString ""
    · rw [if_pos harr]
      exact none_ _ hZ _
    rw [if_neg harr]
    refine ⟨hbig (by omega), ?_⟩
    generalize (decide (Str.ofString "" = cutS cal (some (-1)) none) || decide (Str.ofString " " = cutS cal (some (-1)) none)) = bc
    cases bc with
    | false =>
      rw [if_pos rfl]
      exact none_ _ hZ _
    | true =>
      rw [if_neg (by decide)]
      refine ⟨hok2, hok, ?_⟩
      rw [inD_oD]
      cases hany : os2.any (fun o => o.isNone) with
      | true =>
        rw [if_pos rfl]
        exact none_ _ hZ _
      | false =>
        rw [if_neg (by decide)]
        obtain ⟨fs, rfl⟩ := all_some hany
        rw [List.length_map] at hol2
        have eD : (fs.map some).map oD = fs.map FK.d := by rw [List.map_map]; rfl
        rw [eD] at e2
        simp -implicitDefEqProofs only [wS, wE, wEs, wT, wTs, wI, wG, wGs, gs0, gsS, asB, asI, o_eq, o_ne, o_addI, o_addS, o_addT, o_addL, o_sub, o_mul, o_fdiv, o_mod, o_pow, o_lt, o_le, o_gt, o_ge, o_isN, o_notN, o_ixS, o_ixT, o_ixL, o_ixR, o_ixO, atN_0, atN_1, atN_2, atN_3, atN_4, atN_5, atN_6, atN_7, atN_8, atN_9, atN_10, atN_11, atN_12, atN_13, atN_14, atN_15, List.getElem?_cons_succ, List.getElem?_cons_zero, mut_is, newF, newT, setW_is, bmW, bmT, bfW, slB, slW, sq_l, sq_r, sq_t, lc_l, lst_tup, implies_true, intsD_map, strsD_map, blsD_map, List.set_cons_zero, List.set_cons_succ, if_true, if_false, Bool.false_eq_true, Bool.true_eq_false, Option.some.injEq, MO.lst.injEq, DV.ref.injEq, DV.int.injEq, DV.str.injEq, DV.lst.injEq, DV.tup.injEq, exists_eq_left', exists_eq_left, exists_eq', exists_eq, exists_and_left, true_and, and_true, dl_lst, dl_tup, dl_int, dl_str, dl_bl, dl_non, dl_rol, okD_int, okD_bl, okD_non, okD_str, eqv_ss, eqv_ii, eqv_nn, eqv_bb, eqv_ll, eqv_tt, eqvDs_nil, eqvDs_cons, eqvDs_cn, eqvDs_nc, lit_inj, strOk_lit, atI_m1a, atI_m1b, atI_m1c, atI_m1d, atI_m1e, o_innL, o_ninL, inD_nil, inD_cons, flS, flI, List.all_cons, List.all_nil, Bool.and_true, Bool.and_self, Bool.or_false, Bool.or_true, Bool.true_or, Bool.false_or, decide_true, decide_false, reduceIte, String.reduceEq, Gs.len, midD, List.length_cons, List.length_nil, List.take_succ_cons, List.take_zero, List.take_nil, List.drop_zero, List.drop_succ_cons, List.drop_nil, List.nil_append, List.cons_append, List.getD_cons_zero, List.map_cons, List.map_nil, Nat.zero_add, Nat.add_zero, Nat.reduceAdd, Nat.reduceLeDiff, Nat.reduceSub, Int.reduceSub, Int.reduceAdd, Int.reduceMul, Int.reduceLT, Int.reduceLE, Bool.not_eq_true', Bool.not_true, Bool.not_false, Bool.not_not, decide_eq_true_eq, isNon, tyD, isT, upm_same, sq_o e2, List.length_map]
        by_cases h4 : (4 : Int) < fs.length
        · rw [if_pos (by omega)]
          exact none_ _ hZ _
        · rw [if_neg (by omega)]
          refine sn ?_
          obtain ⟨ks, f, rfl⟩ : ∃ ks f, fs = ks ++ [f] := by
            rcases List.eq_nil_or_concat fs with e | ⟨ks, f, e⟩
            · subst e; exact absurd rfl hne2
            · exact ⟨ks, f, by rw [e, List.concat_eq_append]⟩
          have hlen : (ks ++ [f]).length = ks.length + 1 := by simp
          have e3 : midD 0 1 ((ks ++ [f]).map FK.d) = ks.map FK.d := by
            unfold midD
            rw [List.drop_zero, List.length_map, hlen, Nat.sub_zero, Nat.add_sub_cancel, List.map_append, List.take_left' (List.length_map ..)]
          have e4 : ((ks ++ [f]).map FK.d).drop (ks.length + 1 - 1) = [f.d] := by
            rw [Nat.add_sub_cancel, List.map_append, List.drop_left' (List.length_map ..)]; rfl
          refine st ?_
          show ∃ xs, sq μ2 (.ref a) = some xs ∧ _
          refine ⟨_, sq_o e2, by rw [List.length_map, hlen]; exact Nat.le_add_left _ _, by rw [List.length_map, hlen]; omega, ?_⟩
          rw [show midD Gs.nil.len (Gs.cons (G.var 6) Gs.nil).len ((ks ++ [f]).map FK.d) = ks.map FK.d from e3,
            show ((ks ++ [f]).map FK.d).drop (((ks ++ [f]).map FK.d).length - (Gs.cons (G.var 6) Gs.nil).len) = [f.d] by rw [List.length_map, hlen]; exact e4]
          have hq1 : ∀ q ∈ ks ++ [f], q.ok Nm ∧ (q.dep : Int) + 1 ≤ deep := fun q hq => hos2 (some q) (List.mem_map.mpr ⟨q, hq, rfl⟩) q rfl
          walk_at "wgo"
          rw [hZ]
          have hf := hq1 f (by simp)
          exact h ks f μ2 (fun q hq => hq1 q (List.mem_append_left _ hq)) hf.1 hf.2 (by omega) g2
  have ept : Txt.partition x (Str.ofString "-> ") = (cal, arr, ans) := by rw [← hc, ← har, ← han]
  walk_at "wgo ept"
  refine ⟨by rw [l_ar]; rfl, hbig (by omega), ?_⟩
  refine st ?_
  walk_at "ws"
  intro a ha
  have hco := hpa.1.ok
  refine st ?_
  walk_at "ws hco"
  have g1 : Grow μ (upm μ a (.lst [])) := fun y o e => by
    rw [upm_ne (fun z => by subst z; rw [ha] at e; cases e)]; exact e
  by_cases hce : cal = Str.ofString ""
  · rw [if_neg (by simp [hce])]
    with_reducible refine sn ?_
    exact tail a _ _ [] _ rfl (by simp) (by simp) upm_same ha g1
  · rw [if_pos (by simp [hce])]
    generalize hcut : cutS cal none (some (-1)) = cut
    have hka : Asc cut := by rw [← hcut]; exact hpa.1.cut
    have hkl : cut.length ≤ 8000 := by
      have e : (tl cal).length = cal.length := tl_len.symm
      rw [← hcut, tl_len, cutS_tl, List.length_take, List.length_drop]; omega
    refine st ?_
    walk_at "ws hcut"
    refine ⟨hbig (by omega), by rw [l_cm]; rfl, hbig (by omega), ?_⟩
    have hsl := PyProof.Rows.split_le cut (Str.ofString ", ")
    have hsa : ∀ z ∈ Txt.split cut (Str.ofString ", "), Asc z ∧ z.length ≤ cut.length := fun z hz => split_asc hka hz
    generalize Txt.split cut (Str.ofString ", ") = parts at *
    refine compF_by (fun rest acc μ' => ∃ (os : List (Option FK)) (todo : List Str), acc = os.map oD ∧ rest = todo.map DV.str ∧ (∀ z ∈ todo, z ∈ parts) ∧ os.length + todo.length = parts.length ∧ (∀ o ∈ os, ∀ f, o = some f → f.ok Nm ∧ (f.dep : Int) + 1 ≤ deep) ∧ μ' = upm μ a (.lst [])) (fun _ _ _ _ => by first | trivial | rfl) ?_ ?_ _ ⟨[], parts, rfl, rfl, fun _ h => h, by simp, by simp, rfl⟩
    · rintro dv dvs acc μ2 N2 ⟨os, todo, rfl, e1, ht, hlen, hos, rfl⟩ nxt
      cases todo with
      | nil => cases e1
      | cons z todo =>
        rw [List.map_cons] at e1
        obtain ⟨rfl, rfl⟩ := List.cons.inj e1
        rw [List.length_cons] at hlen
        have hz := hsa z (ht z List.mem_cons_self)
        walk_at "ws wipeG"
        refine flat_int hi hfl hL hM hz.1 (by omega) (by omega) fun o ho => ⟨by rw [List.length_map]; exact hbig2 (by omega), ?_⟩
        refine nxt _ _ ⟨os ++ [o], todo, by rw [List.map_append]; rfl, rfl, fun w hw => ht w (List.mem_cons_of_mem _ hw), by rw [List.length_append, List.length_singleton]; omega, fun q hq f e => ?_, rfl⟩
        rcases List.mem_append.mp hq with y | y
        · exact hos q y f e
        · rw [List.mem_singleton] at y; subst y; have := ho f e; exact ⟨this.1, by omega⟩
    · rintro acc μ2 ⟨os, todo, rfl, e1, ht, hlen, hos, rfl⟩
      cases todo with
      | cons z todo => cases e1
      | nil =>
        rw [List.length_nil] at hlen
        intro b hb2
        have hba : b ≠ a := fun e => by subst e; rw [upm_same] at hb2; cases hb2
        have hb3 : μ b = none := by rwa [upm_ne hba] at hb2
        refine sn ?_
        exact tail b _ _ os _ rfl hos (by omega) upm_same hb3 fun y o e => by
          have h1 : y ≠ b := fun z => by subst z; rw [hb3] at e; cases e
          have h2 : y ≠ a := fun z => by subst z; rw [ha] at e; cases e
          rw [upm_ne h1, upm_ne h2]; exact e
end Sr

set_option Elab.async false
set_option linter.all false
set_option maxRecDepth 100000
set_option autoImplicit false
/-! Kinds, read. -/
namespace Sr
open PySem PySem.Spec PyProof.Rows L2
def sd_kind_in_36ed : SD := ⟨["text", "rows", "within", "kind", "turn"], ["text"],
  (.cons (.asg (.var 1) (.int 0))
  (.cons (.while_ (.and_ (.cmp .lt (.var 1) (.glob "MOST_READ_DEEP")) (.cmp .eq (.sl false (.var 0) (.var 1) (.op (.add false) (.var 1) (.int 1))) (.str "["))) (.cons (.aug 1 (.add false) (.int 1)) .nil))
  (.cons (.asg (.var 2) (.sl false (.var 0) (.var 1) (.op .sub (.bf .len (.cons (.var 0) .nil)) (.var 1))))
  (.cons (.ite (.or_ (.cmp .ne (.sl false (.var 2) .no (.int 1)) (.str "(")) (.or_ (.cmp .ne (.sl false (.var 2) (.neg (.int 1)) .no) (.str ")")) (.cmp .ne (.var 0) (.op (.add false) (.op (.add false) (.op .mul (.str "[") (.var 1)) (.var 2)) (.op .mul (.str "]") (.var 1)))))) (.cons (.ret (.call "flat_in" (.cons (.var 0) (.cons (.glob "MOST_READ_DEEP") .nil)))) .nil) .nil)
  (.cons (.asg (.var 3) (.call "calls_in" (.cons (.sl false (.var 2) (.int 1) (.neg (.int 1))) (.cons (.op .sub (.glob "MOST_READ_DEEP") (.var 1)) .nil))))
  (.cons (.for_ (.var 4) (.rng1 (.op .mul (.var 1) (.bf .int (.cons (.op .notN (.var 3) .non) .nil)))) (.cons (.asg (.var 3) (.tup (.cons (.str "row") (.cons (.var 3) .nil)))) .nil))
  (.cons (.ret (.var 3)) .nil)))))))⟩
def sd_read_kind_26cf : SD := ⟨["text", "kind"], ["text"],
  (.cons (.asg (.var 1) (.call "kind_in" (.cons (.var 0) .nil)))
  (.cons (.ite (.or_ (.cmp .isN (.var 1) .non) (.cmp .ne (.call "show_kind" (.cons (.var 1) .nil)) (.var 0))) (.cons (.raise "NoText" ["what"] (.cons (.var 0) .nil)) .nil) .nil)
  (.cons (.ret (.var 1)) .nil)))⟩
theorem kd_parts : ∀ {N : Nat} {K : Kd}, K.ok Nm → K.Le N → (∃ F : FK, F.ok Nm ∧ F.dep ≤ N ∧ F.sh = K.sh ∧ F.d = K.d) ∨
    ∃ n d ks f, N = n + (d + 1) ∧ RowT n (Kd.calls ks f).sh K.sh ∧ K.d = wrapD n (Kd.calls ks f).d ∧ (Kd.calls ks f).ok Nm ∧ (Kd.calls ks f).Le (d + 1)
  | N, .fl k, ho, hl => .inl ⟨k, ho, hl.dep_le, rfl, rfl⟩
  | 0, .row k, ho, hl => hl.elim
  | 0, .calls ks k, ho, hl => hl.elim
  | N + 1, .calls ks k, ho, hl => .inr ⟨0, N, ks, k, by omega, by show tl _ = [] ++ tl _ ++ []; simp, rfl, ho, hl⟩
  | N + 1, .row k, ho, hl => by
    rcases kd_parts (N := N) (K := k) ho hl with ⟨F, h1, h2, h3, h4⟩ | ⟨n, d, ks, f, h1, h2, h3, h4, h5⟩
    · exact .inl ⟨.row F, h1, Nat.succ_le_succ h2, by show _ ++ F.sh ++ _ = _ ++ k.sh ++ _; rw [h3], by show DV.tup [_, F.d] = DV.tup [_, k.d]; rw [h4]⟩
    · exact .inr ⟨n + 1, d, ks, f, by omega, h2.one, by show DV.tup [_, k.d] = DV.tup [_, wrapD n _]; rw [h3], h4, h5⟩
theorem calls_fst {ks : List FK} {f : FK} : Fst 40 (Kd.calls ks f).sh := by
  refine ⟨tl (called ks) ++ tl (Str.ofString "-> ") ++ tl f.sh ++ tl (Str.ofString ")"), ?_⟩
  show tl (Str.ofString "(" ++ called ks ++ Str.ofString "-> " ++ f.sh ++ Str.ofString ")") = _
  rw [tl_app, tl_app, tl_app, tl_app, lit_sgn (s := "(") (c := '(') rfl, tl_sgn]
  rfl
theorem calls_tl {ks : List FK} {f : FK} : tl (Kd.calls ks f).sh = 40 :: (tl (called ks ++ Str.ofString "-> " ++ f.sh) ++ [41]) := by
  show tl (Str.ofString "(" ++ called ks ++ Str.ofString "-> " ++ f.sh ++ Str.ofString ")") = _
  rw [lit_sgn (s := "(") (c := '(') rfl, lit_sgn (s := ")") (c := ')') rfl]
  simp only [tl_app, tl_sgn, List.append_assoc, List.cons_append, List.nil_append]
  rfl
theorem calls_first {ks : List FK} {f : FK} : cutS (Kd.calls ks f).sh none (some 1) = Str.ofString "(" := by
  refine tl_ext ?_
  have e := tl_cutHi (x := (Kd.calls ks f).sh) (i := 1)
  rw [show ((1 : Nat) : Int) = 1 from rfl] at e
  rw [e, calls_tl, lit_sgn (s := "(") (c := '(') rfl, tl_sgn]; rfl
theorem calls_end {ks : List FK} {f : FK} : cutS (Kd.calls ks f).sh (some (-1)) none = Str.ofString ")" := by
  refine tl_ext ?_
  rw [tl_last, calls_tl, lit_sgn (s := ")") (c := ')') rfl, tl_sgn, List.length_cons, List.length_append, List.length_singleton, Nat.add_sub_cancel, List.drop_succ_cons, List.drop_left' rfl]; rfl
theorem calls_mid {ks : List FK} {f : FK} : cutS (Kd.calls ks f).sh (some 1) (some (-1)) = called ks ++ Str.ofString "-> " ++ f.sh := by
  refine tl_ext ?_
  have e := tl_butLast (x := (Kd.calls ks f).sh) (lo := 1)
  rw [show ((1 : Nat) : Int) = 1 from rfl] at e
  rw [e, calls_tl, List.length_cons, List.length_append, List.length_singleton, Nat.add_sub_cancel, List.take_succ_cons, List.take_left' rfl]; rfl
theorem kind_in_ok {p : Pgm} {k : Nat} {μ : Mu} {K : Kd} {P : DV → Mu → Prop} {X : XP} (hi : Has p "is_name" sd_is_name_9ba6) (hfl : Has p "flat_in" sd_flat_in_f98e) (hci : Has p "calls_in" sd_calls_in_5685) (hq : Has p "kind_in" sd_kind_in_36ed)
    (hL : gvD p.gvs "LETTERS" = .str "abcdefghijklmnopqrstuvwxyz") (hM : gvD p.gvs "MOST_LETTERS" = .int 8) (hC : gvD p.gvs "MOST_CALLED" = .int 3) (hR : gvD p.gvs "MOST_READ_DEEP" = .int 5)
    (ho : K.ok Nm) (hl : K.Le 5) (h : ∀ μ', Grow μ μ' → P K.d μ') : fnS p (k + 4) "kind_in" [.str K.sh] μ P X := by
  have hTl := Kd.sh_len ho hl
  have hT := Kd.sh_asc ho
  have hparts := kd_parts ho hl
  generalize hTe : K.sh = T at *
  refine fn_in hq rfl ?_
  show wSs ⟨fnS p (k + 3), gvD p.gvs⟩ _ sd_kind_in_36ed.s [some (.str T), none, none, none, none] μ _
  unfold sd_kind_in_36ed
  obtain ⟨n, B, c, h2, hc, hn, hc91, hcase⟩ : ∃ n B c, RowT n B T ∧ Fst c B ∧ n < 5 ∧ c ≠ 91 ∧ ((∃ F : FK, F.ok Nm ∧ F.dep ≤ 5 ∧ F.sh = T ∧ F.d = K.d ∧ c ≠ 40) ∨ ∃ d ks f, 5 = n + (d + 1) ∧ B = (Kd.calls ks f).sh ∧ K.d = wrapD n (Kd.calls ks f).d ∧ (Kd.calls ks f).ok Nm ∧ (Kd.calls ks f).Le (d + 1)) := by
    rcases hparts with ⟨F, f1, f2, f3, f4⟩ | ⟨n, d, ks, f, f1, f2, f3, f4, f5⟩
    · obtain ⟨n, B, b, g1, g2, g3, g4⟩ := fk_parts f1
      obtain ⟨c, hc, c1, c2⟩ := base_fst (g4.imp (fun h => h.1) fun h => h.1)
      rw [f3] at g2
      exact ⟨n, B, c, g2, hc, by omega, by omega, .inl ⟨F, f1, f2, f3, f4, by omega⟩⟩
    · exact ⟨n, _, 40, f2, calls_fst, by omega, by decide, .inr ⟨d, ks, f, f1, rfl, f3, f4, f5⟩⟩
  refine st ?_
  walk_at "ws"
  refine st ?_
  refine while_by (fun m γ μ' => ∃ r : Nat, γ = [some (.str T), some (.int (r : Int)), none, none, none] ∧ μ' = μ ∧ r ≤ n ∧ m = n - r) n ⟨0, rfl, rfl, Nat.zero_le _, rfl⟩ ?_
  rintro m γ μ' N ⟨r, rfl, rfl, hr, rfl⟩ nxt
  walk_at "ws hR"
  rw [if_pos (by omega)]
  refine ⟨line_100 (by omega), hT.cut.ok, ?_⟩
  by_cases hrn : r < n
  · rw [h2.hit hrn]
    walk_at "ws"
    refine st ?_
    walk_at "ws augW"
    refine sn ?_
    exact nxt (n - (r + 1)) _ _ (by omega) ⟨r + 1, rfl, rfl, by omega, rfl⟩
  · have : r = n := by omega
    subst this
    rw [h2.miss hc]
    rw [if_neg (fun e => by rw [lb_sgn] at e; exact hc91 (sgn_inj e))]
    refine st ?_
    walk_at "ws h2.mid"
    have a3 := h2.len
    refine ⟨line_100 (by omega), line_100 (by omega), ?_⟩
    refine st ?_
    rcases hcase with ⟨F, f1, f2, f3, f4, f5⟩ | ⟨d, ks, f, f1, rfl, f3, f4, f5⟩
    · have hBl : ∀ x, x ∈ tl B → x ∈ tl T := fun x hx => by rw [h2]; exact List.mem_append_left _ (List.mem_append_right _ hx)
      have hBa : Asc B := fun x hx => hT x (hBl x hx)
      have hB1 : cutS B none (some 1) ≠ Str.ofString "(" := fun e => by
        obtain ⟨rr, hrr⟩ := hc
        have e2 := tl_cutHi (x := B) (i := 1)
        rw [show ((1 : Nat) : Int) = 1 from rfl, e, hrr, lit_sgn (s := "(") (c := '(') rfl, tl_sgn] at e2
        exact f5 (List.head_eq_of_cons_eq e2).symm
      walk_at "ws hBa.cut.ok"
      refine ⟨line_100 (by omega), ?_⟩
      rw [if_pos (decide_eq_false hB1)]
      walk_at "wgo hR"
      rw [← f3]
      exact flat_in_ok (k := k + 1) (deep := 5) hi hfl hL hM f1 f2 (by decide) (by rw [f4]; exact h _ .refl)
    · have a1 := len_mul (c := '[') (s := "[") rfl (n := r)
      have a2 := len_mul (c := ']') (s := "]") rfl (n := r)
      have ha := Kd.sh_asc f4
      walk_at "ws calls_first calls_end o_mulS h2.all hT.ok"
      refine ⟨line_100 (by omega), line_100 (by omega), mulOk_lb (by omega), line_100 (by omega), mulOk_rb (by omega), line_100 (by rw [lenA]; omega), ?_⟩
      with_reducible refine sn ?_
      refine st ?_
      walk_at "ws calls_mid hR"
      refine ⟨line_100 (by omega), ?_⟩
      rw [show (5 : Int) - (r : Int) = (d : Int) + 1 by omega]
      refine calls_in_ok hi hfl hci hL hM hC f4.1 f4.2 f5.1 f5.2.1 f5.2.2 (by omega) fun μ2 g2 => ?_
      refine st ?_
      walk_at "ws Kd.d o_notN"
      refine ⟨mulW_of 10 10 (by omega) (by decide) (by decide), by constructor <;> omega, ?_⟩
      rw [Int.mul_one, Int.toNat_natCast]
      refine forF_by (fun rest γ μ3 => ∃ (j : Nat) (y : Option DV), γ = [some (.str T), some (.int (r : Int)), some (.str (Kd.calls ks f).sh), some (wrapD j (Kd.calls ks f).d), y] ∧ j + rest.length = r ∧ μ3 = μ2) (fun _ _ _ _ => trivial) ?_ ?_ _
        ⟨0, none, rfl, by rw [rngD_length]; omega, rfl⟩
      · rintro d ds γ μ3 N2 ⟨j, y, rfl, e1, rfl⟩ nxt2
        rw [List.length_cons] at e1
        walk_at "wgo"
        exact nxt2 _ _ ⟨j + 1, _, rfl, by omega, rfl⟩
      · rintro γ μ3 ⟨j, y, rfl, e1, rfl⟩
        rw [List.length_nil, Nat.add_zero] at e1
        subst e1
        walk_at "wgo"
        rw [← f3]
        exact h _ g2
theorem read_ok {p : Pgm} {k : Nat} {μ : Mu} {K : Kd} {P : DV → Mu → Prop} {X : XP} (hi : Has p "is_name" sd_is_name_9ba6) (hfl : Has p "flat_in" sd_flat_in_f98e) (hci : Has p "calls_in" sd_calls_in_5685) (hki : Has p "kind_in" sd_kind_in_36ed) (hsh : Has p "show_kind" sd_show_kind_641d) (hq : Has p "read_kind" sd_read_kind_26cf)
    (hL : gvD p.gvs "LETTERS" = .str "abcdefghijklmnopqrstuvwxyz") (hM : gvD p.gvs "MOST_LETTERS" = .int 8) (hC : gvD p.gvs "MOST_CALLED" = .int 3) (hR : gvD p.gvs "MOST_READ_DEEP" = .int 5)
    (ho : K.ok Nm) (hl : K.Le 5) (h : ∀ μ', Grow μ μ' → P K.d μ') : fnS p (k + 10) "read_kind" [.str K.sh] μ P X := by
  have hTl := Kd.sh_len ho hl
  have hT := Kd.sh_asc ho
  have hd := hl.dep_le
  refine fn_in hq rfl ?_
  show wSs ⟨fnS p (k + 9), gvD p.gvs⟩ _ sd_read_kind_26cf.s [some (.str K.sh), none] μ _
  unfold sd_read_kind_26cf
  refine st ?_
  walk_at "ws"
  refine kind_in_ok (k := k + 5) hi hfl hci hki hL hM hC hR ho hl fun μ1 g => ?_
  have hshow : ∀ {μ : Mu} {P : DV → Mu → Prop} {X : XP}, P (.str K.sh) μ → fnS p (k + 9) "show_kind" [K.d] μ P X := fun {μ P X} q => lvS (show k + 9 - K.dep + K.dep = k + 9 by omega) (showK_ok hsh K (n := 5) ho hl (by decide) q)
  obtain ⟨ds, e⟩ : ∃ ds, K.d = .tup ds := by
    cases K with
    | fl f => exact f.d_tup
    | row f => exact ⟨_, rfl⟩
    | calls fs f => exact ⟨_, rfl⟩
  rw [e] at hshow h ⊢
  refine st ?_
  walk_at "ws"
  refine hshow ?_
  walk_at "ws hT.ok"
  walk_at "wgo"
  exact h μ1 g
end Sr

set_option Elab.async false
set_option linter.all false
set_option maxRecDepth 100000
set_option autoImplicit false
/-! Any text, read as a kind. -/
namespace Sr
open PySem PySem.Spec PyProof.Rows L2

def rowK : Nat → Kd → Kd
  | 0, K => K
  | n + 1, K => .row (rowK n K)
theorem rowK_d {K : Kd} : ∀ {n : Nat}, (rowK n K).d = wrapD n K.d
  | 0 => rfl
  | n + 1 => by show DV.tup [_, (rowK n K).d] = DV.tup [_, wrapD n K.d]; rw [rowK_d]
theorem rowK_ok {U : Str → Prop} {K : Kd} (h : K.ok U) : ∀ {n : Nat}, (rowK n K).ok U
  | 0 => h
  | n + 1 => rowK_ok (n := n) h
theorem rowK_le {K : Kd} {m : Nat} (h : K.Le m) : ∀ {n : Nat}, (rowK n K).Le (m + n)
  | 0 => h
  | n + 1 => rowK_le (n := n) h
theorem cut_len {x : Str} {lo hi : Option Int} : (cutS x lo hi).length ≤ x.length := by
  have e : (tl x).length = x.length := tl_len.symm
  rw [tl_len, cutS_tl, List.length_take, List.length_drop]; omega
theorem kind_any {p : Pgm} {k : Nat} {μ : Mu} {x : Str} {P : DV → Mu → Prop} {X : XP} (hi : Has p "is_name" sd_is_name_9ba6) (hfl : Has p "flat_in" sd_flat_in_f98e) (hci : Has p "calls_in" sd_calls_in_5685) (hq : Has p "kind_in" sd_kind_in_36ed)
    (hL : gvD p.gvs "LETTERS" = .str "abcdefghijklmnopqrstuvwxyz") (hM : gvD p.gvs "MOST_LETTERS" = .int 8) (hC : gvD p.gvs "MOST_CALLED" = .int 3) (hR : gvD p.gvs "MOST_READ_DEEP" = .int 5)
    (hx : Asc x) (hl : x.length ≤ 7000) (h0 : ∀ μ', Grow μ μ' → P .non μ') (h : ∀ (K : Kd) μ', K.ok Nm → K.Le 5 → Grow μ μ' → P K.d μ') : fnS p (k + 4) "kind_in" [.str x] μ P X := by
  have hbig : ∀ {n : Nat}, n ≤ 9000 → n ≤ sizeLine := fun {n} h => by rw [sizeLine_eq]; omega
  refine fn_in hq rfl ?_
  show wSs ⟨fnS p (k + 3), gvD p.gvs⟩ _ sd_kind_in_36ed.s [some (.str x), none, none, none, none] μ _
  unfold sd_kind_in_36ed
  refine st ?_
  walk_at "ws"
  refine st ?_
  refine while_by (fun m γ μ' => ∃ r : Nat, γ = [some (.str x), some (.int (r : Int)), none, none, none] ∧ μ' = μ ∧ r ≤ 5 ∧ m = 5 - r) 5 ⟨0, rfl, rfl, Nat.zero_le _, rfl⟩ ?_
  rintro m γ μ' N ⟨r, rfl, rfl, hr, rfl⟩ nxt
  walk_at "ws hR"
  have rest : wSs ⟨fnS p (k + 3), gvD p.gvs⟩ (fun cls fs _ μ' => X cls fs μ') (sd_kind_in_36ed.s.drop 2) [some (.str x), some (.int (r : Int)), none, none, none] μ' { nx := fun _ μ1 => P .non μ1, rt := P } := by
    unfold sd_kind_in_36ed
    simp only [Ss.drop]
    generalize hw : cutS x (some (r : Int)) (some ((x.length : Int) - (r : Int))) = w
    have hwa : Asc w := by rw [← hw]; exact hx.cut
    have hwl : w.length ≤ 7000 := by
      have := cut_len (x := x) (lo := some (r : Int)) (hi := some ((x.length : Int) - (r : Int)))
      rw [hw] at this; omega
    refine st ?_
    walk_at "ws hw"
    refine ⟨hbig (by omega), hbig (by omega), ?_⟩
    have flat : ∀ Z : DEnds, Z.rt = P → ∀ y z : Option DV, wSs ⟨fnS p (k + 3), gvD p.gvs⟩ (fun cls fs _ μ' => X cls fs μ') (.cons (.ret (.call "flat_in" (.cons (.var 0) (.cons (.glob "MOST_READ_DEEP") .nil)))) .nil) [some (.str x), some (.int (r : Int)), some (.str w), y, z] μ' Z := fun Z hZ y z => by
      refine st ?_
      walk_at "ws hR"
      rw [hZ]
      exact flat_any (k := k + 1) (deep := 5) hi hfl hL hM hx (by omega) (by decide) (h0 _ .refl) fun f f1 f2 => h (.fl f) _ f1 f2 .refl
    have a1 := len_mul (c := '[') (s := "[") rfl (n := r)
    have a2 := len_mul (c := ']') (s := "]") rfl (n := r)
    have am1 : Asc (Txt.mul (Str.ofString "[") (r : Int)) := fun c hc => by
      rw [lb_sgn, tl_mul] at hc
      have := (List.mem_replicate.mp hc).2
      omega
    have am2 : Asc (Txt.mul (Str.ofString "]") (r : Int)) := fun c hc => by
      rw [rb_sgn, tl_mul] at hc
      have := (List.mem_replicate.mp hc).2
      omega
    have hok := ((am1.app hwa).app am2).ok
    have hxo := hx.ok
    have hw1 := (hwa.cut (lo := none) (hi := some 1)).ok
    have hw2 := (hwa.cut (lo := some (-1)) (hi := none)).ok
    refine st ?_
    walk_at "ws hw1 hw2 o_mulS hok hxo"
    refine ⟨hbig (by omega), ?_⟩
    by_cases c1 : cutS w none (some 1) = Str.ofString "("
    · rw [if_neg (by rw [decide_eq_true c1]; decide)]
      refine ⟨hbig (by omega), ?_⟩
      by_cases c2 : cutS w (some (-1)) none = Str.ofString ")"
      · rw [if_neg (by rw [decide_eq_true c2]; decide)]
        refine ⟨mulOk_lb (by omega), hbig (by omega), mulOk_rb (by omega), hbig (by rw [lenA]; omega), ?_⟩
        by_cases c3 : x = Txt.mul (Str.ofString "[") (r : Int) ++ w ++ Txt.mul (Str.ofString "]") (r : Int)
        · rw [if_neg (by rw [decide_eq_true c3]; decide)]
          refine sn (st ?_)
          walk_at "ws hR"
          refine ⟨hbig (by omega), ?_⟩
          refine calls_any hi hfl hci hL hM hC hwa.cut (by have := cut_len (x := w) (lo := some 1) (hi := some (-1)); omega) (by omega) (fun μ2 g2 => ?_) fun ks f μ2 q1 q2 q3 q4 g2 => ?_
          · refine st ?_
            walk_at "ws o_notN"
            refine ⟨mulW_of 10 10 (by omega) (by decide) (by decide), by rw [Int.mul_zero]; constructor <;> decide, ?_⟩
            rw [Int.mul_zero]
            walk_at "wxo rngD forF List.range_zero"
            exact h0 _ g2
          · refine st ?_
            walk_at "ws Kd.d o_notN"
            refine ⟨mulW_of 10 10 (by omega) (by decide) (by decide), by constructor <;> omega, ?_⟩
            rw [Int.mul_one, Int.toNat_natCast]
            refine forF_by (fun rest γ μ3 => ∃ (j : Nat) (y : Option DV), γ = [some (.str x), some (.int (r : Int)), some (.str w), some (wrapD j (Kd.calls ks f).d), y] ∧ j + rest.length = r ∧ μ3 = μ2) (fun _ _ _ _ => trivial) ?_ ?_ _
              ⟨0, none, rfl, by rw [rngD_length]; omega, rfl⟩
            · rintro d ds γ μ3 N2 ⟨j, y, rfl, e1, rfl⟩ nxt2
              rw [List.length_cons] at e1
              walk_at "wgo"
              exact nxt2 _ _ ⟨j + 1, _, rfl, by omega, rfl⟩
            · rintro γ μ3 ⟨j, y, rfl, e1, rfl⟩
              rw [List.length_nil, Nat.add_zero] at e1
              subst e1
              walk_at "wgo"
              rw [← rowK_d]
              have fp := f.pos
              have hle : (rowK j (Kd.calls ks f)).Le (4 - j + 1 + j) := rowK_le (show (Kd.calls ks f).Le (4 - j + 1) from ⟨q4, fun q hq => by have := (q1 q hq).2; omega, by omega⟩)
              rw [show 4 - j + 1 + j = 5 by omega] at hle
              exact h _ _ (rowK_ok (show (Kd.calls ks f).ok Nm from ⟨fun q hq => (q1 q hq).1, q2⟩)) hle g2
        · rw [if_pos (by rw [decide_eq_false c3])]
          exact flat _ rfl _ _
      · rw [if_pos (by rw [decide_eq_false c2])]
        exact flat _ rfl _ _
    · rw [if_pos (by rw [decide_eq_false c1])]
      exact flat _ rfl _ _
  by_cases hrd : (r : Int) < 5
  · rw [if_pos hrd]
    refine ⟨hbig (by omega), hx.cut.ok, ?_⟩
    generalize hsl : cutS x (some (r : Int)) (some ((r : Int) + 1)) = c1
    by_cases hb : c1 = Str.ofString "["
    · rw [if_pos hb]
      refine st ?_
      walk_at "ws augW"
      refine sn ?_
      exact nxt (5 - (r + 1)) _ _ (by omega) ⟨r + 1, rfl, rfl, by omega, rfl⟩
    · rw [if_neg hb]
      exact rest
  · rw [if_neg hrd]
    exact rest
theorem read_any {p : Pgm} {k : Nat} {μ : Mu} {x : Str} {P : DV → Mu → Prop} {X : XP} (hi : Has p "is_name" sd_is_name_9ba6) (hfl : Has p "flat_in" sd_flat_in_f98e) (hci : Has p "calls_in" sd_calls_in_5685) (hki : Has p "kind_in" sd_kind_in_36ed) (hsh : Has p "show_kind" sd_show_kind_641d) (hq : Has p "read_kind" sd_read_kind_26cf)
    (hL : gvD p.gvs "LETTERS" = .str "abcdefghijklmnopqrstuvwxyz") (hM : gvD p.gvs "MOST_LETTERS" = .int 8) (hC : gvD p.gvs "MOST_CALLED" = .int 3) (hR : gvD p.gvs "MOST_READ_DEEP" = .int 5)
    (hx : Asc x) (hl : x.length ≤ 7000) (hyes : ∀ (K : Kd) μ', K.ok Nm → K.Le 5 → x = K.sh → Grow μ μ' → P K.d μ')
    (hno : ∀ μ', (∀ K : Kd, K.ok Nm → K.Le 5 → x ≠ K.sh) → Grow μ μ' → X "NoText" [("what", .str x)] μ') : fnS p (k + 10) "read_kind" [.str x] μ P X := by
  by_cases hK : ∃ K : Kd, K.ok Nm ∧ K.Le 5 ∧ x = K.sh
  · obtain ⟨K, k1, k2, rfl⟩ := hK
    exact read_ok hi hfl hci hki hsh hq hL hM hC hR k1 k2 fun μ' g => hyes K μ' k1 k2 rfl g
  · have hno' : ∀ K : Kd, K.ok Nm → K.Le 5 → x ≠ K.sh := fun K k1 k2 e => hK ⟨K, k1, k2, e⟩
    refine fn_in hq rfl ?_
    show wSs ⟨fnS p (k + 9), gvD p.gvs⟩ _ sd_read_kind_26cf.s [some (.str x), none] μ _
    unfold sd_read_kind_26cf
    refine st ?_
    walk_at "ws"
    refine kind_any (k := k + 5) hi hfl hci hki hL hM hC hR hx hl (fun μ1 g => ?_) fun K μ1 ho hle g => ?_
    · refine st ?_
      walk_at "ws"
      refine st ?_
      walk_at "ws List.zip_cons_cons"
      exact hno μ1 hno' g
    · have hT := Kd.sh_asc ho
      have hd := hle.dep_le
      have hshow : ∀ {μ : Mu} {P : DV → Mu → Prop} {X : XP}, P (.str K.sh) μ → fnS p (k + 9) "show_kind" [K.d] μ P X := fun {μ P X} q => lvS (show k + 9 - K.dep + K.dep = k + 9 by omega) (showK_ok hsh K (n := 5) ho hle (by decide) q)
      obtain ⟨ds, e⟩ : ∃ ds, K.d = .tup ds := by
        cases K with
        | fl f => exact f.d_tup
        | row f => exact ⟨_, rfl⟩
        | calls fs f => exact ⟨_, rfl⟩
      rw [e] at hshow ⊢
      have hxo := hx.ok
      have hTo := hT.ok
      refine st ?_
      walk_at "ws"
      refine hshow ?_
      walk_at "ws hTo hxo"
      rw [if_pos (decide_eq_false fun q => hno' K ho hle q.symm)]
      refine st ?_
      walk_at "ws"
      exact hno μ1 hno' g
end Sr

set_option Elab.async false
set_option linter.all false
set_option maxRecDepth 100000
set_option autoImplicit false
/-! k61: the law's own parser. -/
namespace Sr
open PySem PySem.Spec PyProof.Rows L2
def sd__law_flat_of_ca67 : SD := ⟨["_law_text", "_law_deep", "_law_lower"], ["_law_text", "_law_deep"],
  (.cons (.ite (.and_ (.cmp .inn (.var 0) (.lst false (.cons (.str "num") (.cons (.str "text") .nil)))) (.cmp .gt (.var 1) (.int 0))) (.cons (.ret (.tup (.cons (.var 0) .nil))) .nil) .nil)
  (.cons (.ite (.and_ (.cmp .eq (.sl false (.var 0) .no (.int 1)) (.str "[")) (.and_ (.cmp .eq (.sl false (.var 0) (.neg (.int 1)) .no) (.str "]")) (.cmp .gt (.var 1) (.int 1)))) (.cons (.asg (.var 2) (.call "_law_flat_of" (.cons (.sl false (.var 0) (.int 1) (.neg (.int 1))) (.cons (.op .sub (.var 1) (.int 1)) .nil)))) (.cons (.ret (.ite (.cmp .isN (.var 2) .non) .non (.tup (.cons (.str "row") (.cons (.var 2) .nil))))) .nil)) .nil)
  (.cons (.ite (.and_ (.cmp .gt (.var 1) (.int 0)) (.e (.call "_law_is_name" (.cons (.var 0) .nil)))) (.cons (.ret (.tup (.cons (.str "of") (.cons (.var 0) .nil)))) .nil) .nil)
  (.cons (.ret .non) .nil))))⟩
def sd__law_is_name_ac37 : SD := ⟨["_law_text", "_law_sign_here"], ["_law_text"],
  (.cons (.ite (.or_ (.cmp .inn (.var 0) (.lst false (.cons (.str "") (.cons (.str "num") (.cons (.str "text") .nil))))) (.cmp .gt (.bf .len (.cons (.var 0) .nil)) (.int 8))) (.cons (.ret (.bl false)) .nil) .nil)
  (.cons (.ret (.op .eq (.comp false [1] (.var 1) (.var 1) (.str (.var 0)) (.one (.cmp .nin (.var 1) (.str "abcdefghijklmnopqrstuvwxyz")))) (.lst false .nil))) .nil))⟩
/-- brackets around -/
theorem brk_mk {m : Str} : cutS (Str.ofString "[" ++ m ++ Str.ofString "]") none (some 1) = Str.ofString "[" ∧ cutS (Str.ofString "[" ++ m ++ Str.ofString "]") (some (-1)) none = Str.ofString "]" ∧ cutS (Str.ofString "[" ++ m ++ Str.ofString "]") (some 1) (some (-1)) = m := by
  have e : tl (Str.ofString "[" ++ m ++ Str.ofString "]") = 91 :: (tl m ++ [93]) := by
    rw [tl_app, tl_app, lb_sgn, rb_sgn, tl_sgn, tl_sgn]; rfl
  have hi := tl_cutHi (x := Str.ofString "[" ++ m ++ Str.ofString "]") (i := 1)
  have mi := tl_butLast (x := Str.ofString "[" ++ m ++ Str.ofString "]") (lo := 1)
  rw [show ((1 : Nat) : Int) = 1 from rfl] at hi mi
  refine ⟨tl_ext ?_, tl_ext ?_, tl_ext ?_⟩
  · rw [hi, e, lb_sgn, tl_sgn]; rfl
  · rw [tl_last, e, rb_sgn, tl_sgn, List.length_cons, List.length_append, List.length_singleton, Nat.add_sub_cancel, List.drop_succ_cons, List.drop_left' rfl]
  · rw [mi, e, List.length_cons, List.length_append, List.length_singleton, Nat.add_sub_cancel, List.take_succ_cons, List.take_left' rfl]; rfl
theorem brk_of {x : Str} (h1 : cutS x none (some 1) = Str.ofString "[") (h2 : cutS x (some (-1)) none = Str.ofString "]") : x = Str.ofString "[" ++ cutS x (some 1) (some (-1)) ++ Str.ofString "]" := by
  have hi := tl_cutHi (x := x) (i := 1)
  have mi := tl_butLast (x := x) (lo := 1)
  rw [show ((1 : Nat) : Int) = 1 from rfl] at hi mi
  have h1 := congrArg tl h1
  have h2 := congrArg tl h2
  rw [hi, lb_sgn, tl_sgn] at h1
  rw [tl_last, rb_sgn, tl_sgn] at h2
  refine tl_ext ?_
  rw [tl_app, tl_app, mi, lb_sgn, rb_sgn, tl_sgn, tl_sgn]
  cases e : tl x with
  | nil => rw [e] at h1; cases h1
  | cons c r =>
    rw [e] at h1 h2
    have hc : c = 91 := List.head_eq_of_cons_eq h1
    subst hc
    rcases List.eq_nil_or_concat r with rfl | ⟨m, d, rfl⟩
    · exact absurd (List.head_eq_of_cons_eq h2) (by decide)
    · rw [List.concat_eq_append] at h2 ⊢
      rw [List.length_cons, List.length_append, List.length_singleton, Nat.add_sub_cancel, List.drop_succ_cons, List.drop_left' rfl] at h2
      have hd : d = 93 := List.head_eq_of_cons_eq h2
      subst hd
      rw [List.length_cons, List.length_append, List.length_singleton, Nat.add_sub_cancel, List.take_succ_cons, List.take_left' rfl]
      rfl
theorem o_ninSg {c : Nat} {y : Str} {μ : Mu} {P : DV → Mu → Prop} : o2W .nin (.str (sgn c)) (.str y) μ P = P (.bl (!decide (c ∈ tl y))) μ := by
  refine propext ⟨fun ⟨d, e, h⟩ => ?_, fun h => ⟨c, rfl, h⟩⟩
  have := sgn_inj e
  subst this; exact h
theorem lname_any {p : Pgm} {k : Nat} {μ : Mu} {x : Str} {P : DV → Mu → Prop} {X : XP} (hq : Has p "_law_is_name" sd__law_is_name_ac37) (hx : Asc x) (hl : x.length ≤ 100000) (h : ∀ b : Bool, (b = true ↔ Nm x) → P (.bl b) μ) : fnS p (k + 1) "_law_is_name" [.str x] μ P X := by
  refine fn_in hq rfl ?_
  show wSs _ _ sd__law_is_name_ac37.s [some (.str x), none] μ _
  unfold sd__law_is_name_ac37
  have ho := hx.ok
  have e3 := inD_strs (x := x) (L := [Str.ofString "", Str.ofString "num", Str.ofString "text"])
  rw [show ([Str.ofString "", Str.ofString "num", Str.ofString "text"] : List Str).map DV.str = [.str (Str.ofString ""), .str (Str.ofString "num"), .str (Str.ofString "text")] from rfl] at e3
  refine st ?_
  walk_at "ws ho e3"
  by_cases h3 : x ∈ [Str.ofString "", Str.ofString "num", Str.ofString "text"]
  · rw [if_pos (by simpa using h3)]
    refine st ?_
    walk_at "ws"
    refine h false ⟨(fun e => by cases e), fun n => ?_⟩
    simp only [List.mem_cons, List.not_mem_nil, or_false] at h3
    rcases h3 with e | e | e
    · exact absurd e n.ne
    · exact absurd e n.nn
    · exact absurd e n.nt
  · rw [if_neg (by simpa using h3)]
    simp only [List.mem_cons, List.not_mem_nil, or_false, not_or] at h3
    refine ⟨by rw [sizeLine_eq]; omega, ?_⟩
    by_cases h8 : (8 : Int) < x.length
    · rw [if_pos h8]
      refine st ?_
      walk_at "ws"
      exact h false ⟨(fun e => by cases e), fun n => by have := n.le; omega⟩
    · rw [if_neg h8]
      refine sn (st ?_)
      walk_at "ws"
      refine compF_pure (stay := fun _ => True) (fun c => if (decide (97 ≤ c) && decide (c ≤ 122)) = true then none else some (DV.str (sgn c))) trivial (line_100 (by rw [List.length_nil, ← tl_len]; omega)) (fun c hc acc kk ha hk => ?_) ?_
      · walk_at "ws wipeG o_ninSg"
        rw [abc_dec]
        generalize (decide (97 ≤ c) && decide (c ≤ 122)) = b at hk ⊢
        cases b with
        | true => simpa using hk
        | false => exact ⟨ha, by simpa using hk⟩
      · rw [List.nil_append]
        have hfm : ∀ L : List Nat, (∀ c ∈ L, c ∈ tl x) → ∃ ys : List Str, L.filterMap (fun c => if (decide (97 ≤ c) && decide (c ≤ 122)) = true then none else some (DV.str (sgn c))) = ys.map DV.str ∧ (∀ y ∈ ys, ∃ c ∈ tl x, y = sgn c) ∧ (ys = [] ↔ ∀ c ∈ L, 97 ≤ c ∧ c ≤ 122) := by
          intro L
          induction L with
          | nil => exact fun _ => ⟨[], rfl, by simp, by simp⟩
          | cons c L ih =>
            intro hL
            obtain ⟨ys, y1, y2, y3⟩ := ih fun c hc => hL c (List.mem_cons_of_mem _ hc)
            by_cases hb : 97 ≤ c ∧ c ≤ 122
            · refine ⟨ys, ?_, y2, ?_⟩
              · rw [List.filterMap_cons_none (by simp [hb])]; exact y1
              · rw [y3]; simp [hb]
            · refine ⟨sgn c :: ys, ?_, fun y hy => ?_, ?_⟩
              · rw [List.filterMap_cons_some (b := DV.str (sgn c)) (by
                  rw [if_neg (by simpa [Bool.and_eq_true] using hb)]), y1]; rfl
              · rcases List.mem_cons.mp hy with e | e
                · exact ⟨c, hL c List.mem_cons_self, e⟩
                · exact y2 y e
              · simp [hb]
        obtain ⟨ys, y1, y2, y3⟩ := hfm (tl x) fun _ h => h
        have y1 : x.cps.toList.filterMap (fun c => if (decide (97 ≤ c) && decide (c ≤ 122)) = true then none else some (DV.str (sgn c))) = ys.map DV.str := y1
        rw [y1]
        refine ⟨okD_strs fun y hy => ?_, okD_of 1 rfl (by decide), h _ ⟨fun e => ?_, fun n => ?_⟩⟩
        · obtain ⟨c, hc, rfl⟩ := y2 y hy
          exact Asc.ok fun d hd => by
            rw [tl_sgn, List.mem_singleton] at hd
            subst hd; exact hx _ hc
        · rw [eqv_nil] at e
          have : ys = [] := by cases ys with
            | nil => rfl
            | cons _ _ => cases e
          exact ⟨y3.mp this, h3.1, by omega, h3.2.1, h3.2.2⟩
        · rw [y3.mpr n.lt]; rfl
theorem FK.sh_row {f : FK} : (FK.row f).sh = Str.ofString "[" ++ f.sh ++ Str.ofString "]" := rfl
theorem FK.dep1 : ∀ {f : FK}, 1 ≤ f.dep := fun {f} => f.pos
theorem lvS2' {p : Pgm} {n m : Nat} {x : Str} {ds : List DV} {μ : Mu} {P : DV → Mu → Prop} {X : XP} (e : n = m) (h : fnS p n x ds μ P X) : fnS p m x ds μ P X := e ▸ h
theorem lflat_any {p : Pgm} {k : Nat} (hn : Has p "_law_is_name" sd__law_is_name_ac37) (hq : Has p "_law_flat_of" sd__law_flat_of_ca67) : ∀ (n : Nat) {μ : Mu} {x : Str} {P : DV → Mu → Prop} {X : XP}, Asc x → x.length ≤ 50000 → n ≤ 100 →
    (∀ f : FK, f.ok Nm → f.dep ≤ n → x = f.sh → P f.d μ) → ((∀ f : FK, f.ok Nm → f.dep ≤ n → x ≠ f.sh) → P .non μ) → fnS p (k + n + 2) "_law_flat_of" [.str x, .int (n : Int)] μ P X
  | n, μ, x, P, X, hx, hl, h100, hy, hno => by
    refine fn_in hq rfl ?_
    show wSs ⟨fnS p (k + n + 1), gvD p.gvs⟩ _ sd__law_flat_of_ca67.s [some (.str x), some (.int (n : Int)), none] μ _
    unfold sd__law_flat_of_ca67
    have hbig : ∀ {n : Nat}, n ≤ 60000 → n ≤ sizeLine := fun {n} h => by rw [sizeLine_eq]; omega
    have e2 := inD_strs (x := x) (L := [Str.ofString "num", Str.ofString "text"])
    rw [show ([Str.ofString "num", Str.ofString "text"] : List Str).map DV.str = [.str (Str.ofString "num"), .str (Str.ofString "text")] from rfl] at e2
    have rest : (x ∈ [Str.ofString "num", Str.ofString "text"] → n = 0) → wSs ⟨fnS p (k + n + 1), gvD p.gvs⟩ (fun cls fs _ μ' => X cls fs μ') (sd__law_flat_of_ca67.s.drop 1) [some (.str x), some (.int (n : Int)), none] μ { nx := fun _ μ1 => P .non μ1, rt := P } := by
      intro hx2
      unfold sd__law_flat_of_ca67
      simp only [Ss.drop]
      have k1 := (hx.cut (lo := none) (hi := some 1)).ok
      have k2 := (hx.cut (lo := some (-1)) (hi := none)).ok
      have last : (¬ (cutS x none (some 1) = Str.ofString "[" ∧ cutS x (some (-1)) none = Str.ofString "]" ∧ 1 < n)) → wSs ⟨fnS p (k + n + 1), gvD p.gvs⟩ (fun cls fs _ μ' => X cls fs μ') (sd__law_flat_of_ca67.s.drop 2) [some (.str x), some (.int (n : Int)), none] μ { nx := fun _ μ1 => P .non μ1, rt := P } := by
        intro hb
        unfold sd__law_flat_of_ca67
        simp only [Ss.drop]
        have no : ¬ (Nm x ∧ 0 < n) → P .non μ := fun hnm => hno fun f f1 f2 e => by
          have fp := f.pos
          cases f with
          | num => have := hx2 (by rw [e]; simp [FK.sh]); omega
          | text => have := hx2 (by rw [e]; simp [FK.sh]); omega
          | of y => exact hnm ⟨by rw [e]; exact f1, by omega⟩
          | row g =>
            have gp := g.pos
            have gd : (FK.row g).dep = g.dep + 1 := rfl
            rw [FK.sh_row] at e
            exact hb ⟨by rw [e]; exact brk_mk.1, by rw [e]; exact brk_mk.2.1, by omega⟩
        refine st ?_
        walk_at "ws"
        by_cases h0 : (0 : Int) < (n : Int)
        · rw [if_pos h0]
          refine lname_any (k := k + n) hn hx (by omega) fun b hb2 => ?_
          cases b with
          | true =>
            walk_at "ws"
            refine st ?_
            walk_at "ws"
            exact hy (.of x) (hb2.mp rfl) (by show 1 ≤ n; omega) rfl
          | false =>
            walk_at "ws"
            refine sn (st ?_)
            walk_at "ws"
            exact no fun z => by have := hb2.mpr z.1; cases this
        · rw [if_neg h0]
          refine sn (st ?_)
          walk_at "ws"
          exact no fun z => by omega
      refine st ?_
      walk_at "ws k1 k2"
      refine ⟨hbig (by omega), ?_⟩
      by_cases b1 : cutS x none (some 1) = Str.ofString "["
      · rw [if_pos b1]
        refine ⟨hbig (by omega), ?_⟩
        by_cases b2 : cutS x (some (-1)) none = Str.ofString "]"
        · rw [if_pos b2]
          by_cases b3 : (1 : Int) < (n : Int)
          · rw [if_pos b3]
            have ex := brk_of b1 b2
            have hma := hx.cut (lo := some 1) (hi := some (-1))
            have hml : (cutS x (some 1) (some (-1))).length ≤ 50000 := by
              have e : (tl x).length = x.length := tl_len.symm
              rw [tl_len, cutS_tl, List.length_take, List.length_drop]; omega
            refine st ?_
            walk_at "ws"
            refine ⟨hbig (by omega), ?_⟩
            generalize cutS x (some 1) (some (-1)) = m at *
            have b3' : 1 < n := by omega
            rw [show (n : Int) - 1 = ((n - 1 : Nat) : Int) by omega]
            refine lvS2' (show k + (n - 1) + 2 = k + n + 1 by omega) (lflat_any hn hq (n - 1) hma hml (by omega) (fun f f1 f2 e => ?_) fun hno2 => ?_)
            · have hn0 : isNon f.d = false := by cases f <;> rfl
              refine st ?_
              walk_at "ws o_isN"
              have r := hy (.row f) f1 (by show f.dep + 1 ≤ n; omega) (by rw [ex, FK.sh_row, e])
              cases f <;> exact r
            · refine st ?_
              walk_at "ws o_isN"
              refine hno fun f f1 f2 e => ?_
              cases f with
              | num => have := hx2 (by rw [e]; simp [FK.sh]); omega
              | text => have := hx2 (by rw [e]; simp [FK.sh]); omega
              | of y =>
                have e : x = y := e
                have f1 : Nm y := f1
                have := f1.lt 91 (by rw [← e, ex, tl_app, tl_app, lb_sgn, tl_sgn]; simp)
                omega
              | row g =>
                rw [FK.sh_row] at e
                have em : m = g.sh := by rw [← (brk_mk (m := m)).2.2, ← ex, e, brk_mk.2.2]
                exact hno2 g f1 (by have : g.dep + 1 ≤ n := f2; omega) em
          · rw [if_neg b3]
            refine sn ?_
            exact last fun z => b3 (by omega)
        · rw [if_neg b2]
          refine sn ?_
          exact last fun z => b2 z.2.1
      · rw [if_neg b1]
        refine sn ?_
        exact last fun z => b1 z.1
    refine st ?_
    walk_at "ws e2"
    by_cases hin : x ∈ [Str.ofString "num", Str.ofString "text"]
    · rw [if_pos hin]
      by_cases h0 : (0 : Int) < (n : Int)
      · rw [if_pos h0]
        refine st ?_
        walk_at "ws"
        simp only [List.mem_cons, List.not_mem_nil, or_false] at hin
        rcases hin with e | e
        · subst e; exact hy .num trivial (by show 1 ≤ n; omega) rfl
        · subst e; exact hy .text trivial (by show 1 ≤ n; omega) rfl
      · rw [if_neg h0]
        refine sn ?_
        exact rest fun _ => by omega
    · rw [if_neg hin]
      refine sn ?_
      exact rest fun z => absurd z hin
termination_by n => n
decreasing_by omega
end Sr

set_option Elab.async false
set_option linter.all false
set_option maxRecDepth 100000
set_option autoImplicit false
/-! k61: the law's own parser of kinds. -/
namespace Sr
open PySem PySem.Spec PyProof.Rows L2

theorem join_split {x y : Str} : Txt.join y (Txt.split x y) = x := by
  unfold Txt.split
  split
  · refine tl_ext ?_
    rw [join_tl]; simp [TL.joinL]
  · split
    · refine tl_ext ?_
      rw [join_tl]; simp [TL.joinL]
    · exact StrLaws.glued_between_self x y _
/-- two words -/
theorem split_two {x y a b : Str} (h : Txt.split x y = [a, b]) : x = a ++ y ++ b := by
  have e := join_split (x := x) (y := y)
  rw [h] at e
  rw [← e]
  refine tl_ext ?_
  rw [join_tl, tl_app, tl_app]
  simp [TL.joinL]
theorem join_two {y a b : Str} : Txt.join y [a, b] = a ++ y ++ b := by
  refine tl_ext ?_
  rw [join_tl, tl_app, tl_app]
  simp [TL.joinL]
theorem split_calls {ks : List FK} {f : FK} (ho : ∀ q ∈ ks, q.ok Nm) (ho2 : f.ok Nm) : Txt.split (called ks ++ Str.ofString "-> " ++ f.sh) (Str.ofString "-> ") = [called ks, f.sh] := by
  rw [← join_two]
  refine split_join' (s := 45) (S := [62, 32]) tl_lit (by decide +kernel) (by simp) fun q hq hm => ?_
  simp only [List.mem_cons, List.not_mem_nil, or_false] at hq
  rcases hq with rfl | rfl
  · have := called_cs ho _ hm; omega
  · have := FK.sh_cs ho2 _ hm; omega
theorem split_called {ks : List FK} (hne : ks ≠ []) (ho : ∀ q ∈ ks, q.ok Nm) : Txt.split (Txt.join (Str.ofString ", ") (ks.map FK.sh)) (Str.ofString ", ") = ks.map FK.sh :=
  split_join' (s := 44) (S := [32]) tl_lit (by decide +kernel) (by simpa using hne) fun x hx hm => by
    obtain ⟨f, hf, rfl⟩ := List.mem_map.mp hx
    have := FK.sh_cs (ho f hf) 44 hm
    omega
/-- the law's way with a called text -/
theorem called_of {a : Str} {ks : List FK} (h : a = Str.ofString "" ∧ ks = [] ∨ (∃ c, a = c ++ Str.ofString " " ∧ Txt.split c (Str.ofString ", ") = ks.map FK.sh ∧ ks ≠ [])) : a = called ks := by
  rcases h with ⟨rfl, rfl⟩ | ⟨c, rfl, h1, h2⟩
  · rfl
  · have e := join_split (x := c) (y := Str.ofString ", ")
    rw [h1] at e
    cases ks with
    | nil => exact absurd rfl h2
    | cons q qs =>
      show _ = Txt.join (Str.ofString ", ") ((q :: qs).map FK.sh) ++ Str.ofString " "
      rw [e]
/-- parentheses around -/
theorem par_mk {m : Str} : cutS (Str.ofString "(" ++ m ++ Str.ofString ")") none (some 1) = Str.ofString "(" ∧ cutS (Str.ofString "(" ++ m ++ Str.ofString ")") (some (-1)) none = Str.ofString ")" ∧ cutS (Str.ofString "(" ++ m ++ Str.ofString ")") (some 1) (some (-1)) = m := by
  have lp : Str.ofString "(" = sgn 40 := lit_sgn (c := '(') rfl
  have rp : Str.ofString ")" = sgn 41 := lit_sgn (c := ')') rfl
  have e : tl (Str.ofString "(" ++ m ++ Str.ofString ")") = 40 :: (tl m ++ [41]) := by
    rw [tl_app, tl_app, lp, rp, tl_sgn, tl_sgn]; rfl
  have hi := tl_cutHi (x := Str.ofString "(" ++ m ++ Str.ofString ")") (i := 1)
  have mi := tl_butLast (x := Str.ofString "(" ++ m ++ Str.ofString ")") (lo := 1)
  rw [show ((1 : Nat) : Int) = 1 from rfl] at hi mi
  refine ⟨tl_ext ?_, tl_ext ?_, tl_ext ?_⟩
  · rw [hi, e, lp, tl_sgn]; rfl
  · rw [tl_last, e, rp, tl_sgn, List.length_cons, List.length_append, List.length_singleton, Nat.add_sub_cancel, List.drop_succ_cons, List.drop_left' rfl]
  · rw [mi, e, List.length_cons, List.length_append, List.length_singleton, Nat.add_sub_cancel, List.take_succ_cons, List.take_left' rfl]; rfl
theorem par_of {x : Str} (h1 : cutS x none (some 1) = Str.ofString "(") (h2 : cutS x (some (-1)) none = Str.ofString ")") : x = Str.ofString "(" ++ cutS x (some 1) (some (-1)) ++ Str.ofString ")" := by
  have lp : Str.ofString "(" = sgn 40 := lit_sgn (c := '(') rfl
  have rp : Str.ofString ")" = sgn 41 := lit_sgn (c := ')') rfl
  have hi := tl_cutHi (x := x) (i := 1)
  have mi := tl_butLast (x := x) (lo := 1)
  rw [show ((1 : Nat) : Int) = 1 from rfl] at hi mi
  have h1 := congrArg tl h1
  have h2 := congrArg tl h2
  rw [hi, lp, tl_sgn] at h1
  rw [tl_last, rp, tl_sgn] at h2
  refine tl_ext ?_
  rw [tl_app, tl_app, mi, lp, rp, tl_sgn, tl_sgn]
  cases e : tl x with
  | nil => rw [e] at h1; cases h1
  | cons c r =>
    rw [e] at h1 h2
    have hc : c = 40 := List.head_eq_of_cons_eq h1
    subst hc
    rcases List.eq_nil_or_concat r with rfl | ⟨m, d, rfl⟩
    · exact absurd (List.head_eq_of_cons_eq h2) (by decide)
    · rw [List.concat_eq_append] at h2 ⊢
      rw [List.length_cons, List.length_append, List.length_singleton, Nat.add_sub_cancel, List.drop_succ_cons, List.drop_left' rfl] at h2
      have hd : d = 41 := List.head_eq_of_cons_eq h2
      subst hd
      rw [List.length_cons, List.length_append, List.length_singleton, Nat.add_sub_cancel, List.take_succ_cons, List.take_left' rfl]
      rfl
theorem calls_sh' {ks : List FK} {f : FK} : (Kd.calls ks f).sh = Str.ofString "(" ++ (called ks ++ Str.ofString "-> " ++ f.sh) ++ Str.ofString ")" := by
  refine tl_ext ?_
  show tl (Str.ofString "(" ++ called ks ++ Str.ofString "-> " ++ f.sh ++ Str.ofString ")") = _
  simp only [tl_app, List.append_assoc]
theorem first_ne {x : Str} {c : Nat} (h : Fst c x) (hc : c ≠ 91) : cutS x none (some 1) ≠ Str.ofString "[" := fun e => by
  have hi := tl_cutHi (x := x) (i := 1)
  rw [show ((1 : Nat) : Int) = 1 from rfl, e, lb_sgn, tl_sgn] at hi
  obtain ⟨r, hr⟩ := h
  rw [hr] at hi
  exact hc (List.head_eq_of_cons_eq hi).symm
/-- a kind whose text begins with a bracket is a row -/
theorem kd_row {K : Kd} {n : Nat} (ho : K.ok Nm) (hl : K.Le n) (h : cutS K.sh none (some 1) = Str.ofString "[") : ∃ K' : Kd, K'.ok Nm ∧ 2 ≤ n ∧ K'.Le (n - 1) ∧ K.d = .tup [.str "row", K'.d] ∧ K.sh = Str.ofString "[" ++ K'.sh ++ Str.ofString "]" := by
  cases K with
  | fl f =>
    have hd : f.dep ≤ n := hl.dep_le
    cases f with
    | num => exact absurd h (first_ne (c := 110) ⟨[117, 109], tl_lit⟩ (by decide))
    | text => exact absurd h (first_ne (c := 116) ⟨[101, 120, 116], tl_lit⟩ (by decide))
    | of y =>
      obtain ⟨c, hc, c1, c2⟩ := base_fst (B := y) (.inl ho)
      exact absurd h (first_ne hc (by omega))
    | row g =>
      have gp := g.pos
      have hd : g.dep + 1 ≤ n := hd
      refine ⟨.fl g, ho, by omega, ?_, rfl, rfl⟩
      have : g.dep ≤ n - 1 := by omega
      cases n with
      | zero => omega
      | succ n => cases n <;> exact this
  | row K' =>
    cases n with
    | zero => exact hl.elim
    | succ n =>
      have hl : K'.Le n := hl
      have := hl.dep_le
      have kp := K'.pos
      exact ⟨K', ho, by omega, hl, rfl, rfl⟩
  | calls ks f => exact absurd h (first_ne calls_fst (by decide))
end Sr

set_option Elab.async false
set_option linter.all false
set_option maxRecDepth 100000
set_option autoImplicit false
/-! The law's own likeness, of a thing and itself. -/
namespace Sr
open PySem PySem.Spec PyProof.Rows L2
def sd__law_alike_e374 : SD := ⟨["_law_found", "_law_due", "_law_k"], ["_law_found", "_law_due"],
  (.cons (.ite (.cmp .isN (.var 1) .non) (.cons (.ret (.op .isN (.var 0) .non)) .nil) .nil)
  (.cons (.ite (.e (.isi (.var 1) "bool")) (.cons (.ret (.and_ (.isi (.var 0) "bool") (.op .eq (.var 0) (.var 1)))) .nil) .nil)
  (.cons (.ite (.e (.isi (.var 1) "int")) (.cons (.ret (.and_ (.isi (.var 0) "int") (.and_ (.not_ (.isi (.var 0) "bool")) (.op .eq (.var 0) (.var 1))))) .nil) .nil)
  (.cons (.ite (.e (.isi (.var 1) "str")) (.cons (.ret (.and_ (.isi (.var 0) "str") (.op .eq (.var 0) (.var 1)))) .nil) .nil)
  (.cons (.ite (.or_ (.cmp .ne (.isi (.var 0) "list") (.isi (.var 1) "list")) (.cmp .ne (.isi (.var 0) "tuple") (.isi (.var 1) "tuple"))) (.cons (.ret (.bl false)) .nil) .nil)
  (.cons (.ite (.cmp .ne (.bf .len (.cons (.var 0) .nil)) (.bf .len (.cons (.var 1) .nil))) (.cons (.ret (.bl false)) .nil) .nil)
  (.cons (.for_ (.var 2) (.rng1 (.bf .len (.cons (.var 1) .nil))) (.cons (.ite (.not_ (.e (.call "_law_alike" (.cons (.op .ix (.var 0) (.var 2)) (.cons (.op .ix (.var 1) (.var 2)) .nil))))) (.cons (.ret (.bl false)) .nil) .nil) .nil))
  (.cons (.ret (.bl true)) .nil))))))))⟩
inductive Al : Nat → DV → Prop
  | str {n : Nat} {x : Str} (h : PyData.strOk x = true) : Al n (.str x)
  | int {n : Nat} {i : Int} : Al n (.int i)
  | bl {n : Nat} {i : Bool} : Al n (.bl i)
  | non {n : Nat} : Al n .non
  | tup {n : Nat} {xs : List DV} (h : ∀ x ∈ xs, Al n x) (hl : xs.length ≤ 1000000) : Al (n + 1) (.tup xs)
  | lst {n : Nat} {xs : List DV} (h : ∀ x ∈ xs, Al n x) (hl : xs.length ≤ 1000000) : Al (n + 1) (.lst xs)
theorem sizeLine_big {n : Nat} (h : n ≤ 1000000) : n ≤ sizeLine := by rw [sizeLine_eq]; omega
theorem lvS2 {p : Pgm} {n m : Nat} {x : Str} {ds : List DV} {μ : Mu} {P : DV → Mu → Prop} {X : XP} (e : n = m) (h : fnS p n x ds μ P X) : fnS p m x ds μ P X := e ▸ h
theorem alike_ok {p : Pgm} {k : Nat} (hq : Has p "_law_alike" sd__law_alike_e374) : ∀ (n : Nat) {d : DV} {μ : Mu} {P : DV → Mu → Prop} {X : XP}, Al n d → P (.bl true) μ → fnS p (k + n + 1) "_law_alike" [d, d] μ P X
  | n, d, μ, P, X, hA, h => by
    refine fn_in hq rfl ?_
    show wSs ⟨fnS p (k + n), gvD p.gvs⟩ _ sd__law_alike_e374.s [some d, some d, none] μ _
    unfold sd__law_alike_e374
    cases hA with
    | str hs =>
      walk_at "wgo String.reduceBEq beq_self_eq_true Bool.and_false Bool.false_and Bool.true_and Bool.or_self hs"
      exact h
    | int =>
      walk_at "wgo String.reduceBEq beq_self_eq_true Bool.and_false Bool.false_and Bool.true_and Bool.or_self"
      exact h
    | bl =>
      walk_at "wgo String.reduceBEq beq_self_eq_true Bool.and_false Bool.false_and Bool.true_and Bool.or_self"
      exact h
    | non =>
      walk_at "wgo"
      exact h
    | @tup n xs hx hl =>
      walk_at "wgo String.reduceBEq beq_self_eq_true Bool.and_false Bool.false_and Bool.true_and Bool.or_self"
      refine ⟨by constructor <;> omega, ?_⟩
      rw [Int.toNat_natCast]
      refine forF_by (fun rest γ μ' => ∃ (is : List Nat) (y : Option DV), γ = [some (.tup xs), some (.tup xs), y] ∧ rest = is.map (fun (i : Nat) => DV.int (0 + (i : Int))) ∧ (∀ i ∈ is, i < xs.length) ∧ μ' = μ) (fun _ _ _ _ => trivial) ?_ ?_ _
        ⟨List.range xs.length, none, rfl, rfl, fun i hi => List.mem_range.mp hi, rfl⟩
      · rintro d ds γ μ' N ⟨is, y, rfl, e1, hi, rfl⟩ nxt
        cases is with
        | nil => cases e1
        | cons i is =>
          rw [List.map_cons] at e1
          obtain ⟨rfl, rfl⟩ := List.cons.inj e1
          have hi0 := hi i List.mem_cons_self
          have ha : atI xs (0 + (i : Int)) = some xs[i] := by rw [Int.zero_add, atI_lit, List.getElem?_eq_getElem hi0]
          walk_at "wgo ha"
          refine lvS2 (show k + n + 1 = k + (n + 1) by omega) (alike_ok hq n (hx _ (List.getElem_mem hi0)) ?_)
          walk_at "wgo"
          exact nxt _ _ ⟨is, _, rfl, rfl, fun j hj => hi j (List.mem_cons_of_mem _ hj), rfl⟩
      · rintro γ μ' ⟨is, y, rfl, e1, hi, rfl⟩
        walk_at "wgo"
        exact h
    | @lst n xs hx hl =>
      walk_at "wgo String.reduceBEq beq_self_eq_true Bool.and_false Bool.false_and Bool.true_and Bool.or_self"
      refine ⟨by constructor <;> omega, ?_⟩
      rw [Int.toNat_natCast]
      refine forF_by (fun rest γ μ' => ∃ (is : List Nat) (y : Option DV), γ = [some (.lst xs), some (.lst xs), y] ∧ rest = is.map (fun (i : Nat) => DV.int (0 + (i : Int))) ∧ (∀ i ∈ is, i < xs.length) ∧ μ' = μ) (fun _ _ _ _ => trivial) ?_ ?_ _
        ⟨List.range xs.length, none, rfl, rfl, fun i hi => List.mem_range.mp hi, rfl⟩
      · rintro d ds γ μ' N ⟨is, y, rfl, e1, hi, rfl⟩ nxt
        cases is with
        | nil => cases e1
        | cons i is =>
          rw [List.map_cons] at e1
          obtain ⟨rfl, rfl⟩ := List.cons.inj e1
          have hi0 := hi i List.mem_cons_self
          have ha : atI xs (0 + (i : Int)) = some xs[i] := by rw [Int.zero_add, atI_lit, List.getElem?_eq_getElem hi0]
          walk_at "wgo ha"
          refine lvS2 (show k + n + 1 = k + (n + 1) by omega) (alike_ok hq n (hx _ (List.getElem_mem hi0)) ?_)
          walk_at "wgo"
          exact nxt _ _ ⟨is, _, rfl, rfl, fun j hj => hi j (List.mem_cons_of_mem _ hj), rfl⟩
      · rintro γ μ' ⟨is, y, rfl, e1, hi, rfl⟩
        walk_at "wgo"
        exact h
end Sr

set_option Elab.async false
set_option linter.all false
set_option maxRecDepth 100000
set_option autoImplicit false
/-! k61: texts spoilt. -/
namespace Sr
open PySem PySem.Spec PyProof.Rows L2
def sd__law_sign_ce7f : SD := ⟨["_law_tray_here", "_law_some"], ["_law_tray_here"],
  (.cons (.ite (.cmp .eq (.call "_law_draw" (.cons (.var 0) (.cons (.int 2) .nil))) (.int 0)) (.cons (.asg (.var 1) (.str " ,;.?[]()->0123456789abcnumrtex")) (.cons (.ret (.op .ix (.var 1) (.call "_law_draw" (.cons (.var 0) (.cons (.bf .len (.cons (.var 1) .nil)) .nil))))) .nil)) .nil)
  (.cons (.asg (.var 1) (.str " !\"#$&'()*+,-./0123456789:;<=>?@ABCDEFGHIJKLMNOPQRSTUVWXYZ[\\]^_`"))
  (.cons (.asg (.var 1) (.op (.add false) (.var 1) (.str "abcdefghijklmnopqrstuvwxyz{|}~")))
  (.cons (.ret (.op .ix (.var 1) (.call "_law_draw" (.cons (.var 0) (.cons (.bf .len (.cons (.var 1) .nil)) .nil))))) .nil))))⟩
def sd__law_sign_spoilt_60ba : SD := ⟨["_law_tray_here", "_law_text", "_law_way", "_law_at", "_law_sign_here"], ["_law_tray_here", "_law_text"],
  (.cons (.asg (.var 2) (.call "_law_draw" (.cons (.var 0) (.cons (.int 3) .nil))))
  (.cons (.asg (.var 3) (.call "_law_draw" (.cons (.var 0) (.cons (.op (.add false) (.bf .len (.cons (.var 1) .nil)) (.int 1)) .nil))))
  (.cons (.asg (.var 4) (.op .ix (.lst false (.cons (.str "") (.cons (.call "_law_sign" (.cons (.var 0) .nil)) .nil))) (.bf .int (.cons (.op .gt (.var 2) (.int 0)) .nil))))
  (.cons (.ret (.op (.add false) (.op (.add false) (.sl false (.var 1) .no (.var 3)) (.var 4)) (.sl false (.var 1) (.op (.add false) (.var 3) (.bf .int (.cons (.op .lt (.var 2) (.int 2)) .nil))) .no))) .nil))))⟩
def sd__law_spoilt_8584 : SD := ⟨["_law_tray_here", "_law_text", "_law_way", "_law_words", "_law_some", "_law_many"], ["_law_tray_here", "_law_text"],
  (.cons (.asg (.var 2) (.call "_law_draw" (.cons (.var 0) (.cons (.int 6) .nil))))
  (.cons (.ite (.cmp .lt (.var 2) (.int 3)) (.cons (.ret (.call "_law_sign_spoilt" (.cons (.var 0) (.cons (.var 1) .nil)))) .nil) .nil)
  (.cons (.ite (.cmp .eq (.var 2) (.int 3)) (.cons (.asg (.var 5) (.op .ix (.lst false (.cons (.int 1) (.cons (.int 2) (.cons (.int 3) (.cons (.int 300) .nil))))) (.call "_law_draw" (.cons (.var 0) (.cons (.int 4) .nil))))) (.cons (.ret (.op (.add false) (.op (.add false) (.op .mul (.str "[") (.var 5)) (.var 1)) (.op .mul (.str "]") (.var 5)))) .nil)) .nil)
  (.cons (.ite (.cmp .eq (.var 2) (.int 4)) (.cons (.ret (.op .ix (.lst false (.cons (.op (.add false) (.op (.add false) (.str "(") (.var 1)) (.str ")")) (.cons (.op (.add false) (.op (.add false) (.str "(-> ") (.var 1)) (.str ")")) (.cons (.op (.add false) (.op (.add false) (.str "(") (.var 1)) (.str " -> num)")) .nil)))) (.call "_law_draw" (.cons (.var 0) (.cons (.int 3) .nil))))) .nil) .nil)
  (.cons (.asg (.var 3) (.bm (.split true) (.var 1) (.cons (.str " ") .nil)))
  (.cons (.asg (.var 4) (.lst false (.cons (.str "num") (.cons (.str "text") (.cons (.str "nums") (.cons (.str "Num") (.cons (.str "a") (.cons (.str "") (.cons (.str "->") (.cons (.str "[num]") (.cons (.str "[]") (.cons (.str "[[num]]") (.cons (.str "num,") (.cons (.str ",") (.cons (.str "(->") (.cons (.str "num)") .nil))))))))))))))))
  (.cons (.asg (.var 4) (.op (.add false) (.var 4) (.lst false (.cons (.str "a)") (.cons (.str "zzzzzzzzz") .nil)))))
  (.cons (.asg (.ix (.var 3) (.call "_law_draw" (.cons (.var 0) (.cons (.bf .len (.cons (.var 3) .nil)) .nil)))) (.op .ix (.var 4) (.call "_law_draw" (.cons (.var 0) (.cons (.int 16) .nil)))))
  (.cons (.ret (.bm .join (.str " ") (.cons (.var 3) .nil))) .nil)))))))))⟩
theorem at_sgn {x : Str} {v : Int} (hx : Asc x) (h0 : 0 ≤ v) (h1 : v < (x.length : Int)) : ∃ c, atI x.cps.toList v = some c ∧ Asc (sgn c) := by
  obtain ⟨m, rfl⟩ := Int.eq_ofNat_of_zero_le h0
  have hm : m < (tl x).length := by rw [← tl_len]; omega
  refine ⟨(tl x)[m], by rw [atI_lit, List.getElem?_eq_getElem hm], fun d hd => ?_⟩
  rw [tl_sgn, List.mem_singleton] at hd
  subst hd
  exact hx _ (List.getElem_mem hm)
theorem lit_length {s : String} : (Str.ofString s).length = s.toList.length := by rw [tl_len, tl_lit, List.length_map]
theorem sign_ok {p : Pgm} {k n : Nat} {μ : Mu} {r g : Addr} {P : DV → Mu → Prop} {X : XP} (hd : Has p "_law_draw" sd__law_draw_d94d) (hq : Has p "_law_sign" sd__law_sign_ce7f) (D : Tray n μ r g) (hn : n < 2 ^ 59)
    (h : ∀ x μ', Asc x → x.length = 1 → Tray (n + 2) μ' r g → Oth r g μ μ' → P (.str x) μ') : fnS p (k + 2) "_law_sign" [.ref r] μ P X := by
  refine fn_in hq rfl ?_
  show wSs ⟨fnS p (k + 1), gvD p.gvs⟩ _ sd__law_sign_ce7f.s [some (.ref r), none] μ _
  unfold sd__law_sign_ce7f
  have last : ∀ (y : Str) (μ1 : Mu) (Z : DEnds), Z.rt = P → Asc y → 0 < y.length → y.length ≤ 200 → Tray (n + 1) μ1 r g → Oth r g μ μ1 → wSs ⟨fnS p (k + 1), gvD p.gvs⟩ (fun cls fs _ μ' => X cls fs μ') (sd__law_sign_ce7f.s.drop 3) [some (.ref r), some (.str y)] μ1 Z := by
    intro y μ1 Z hZ hy h0 h2 T O
    unfold sd__law_sign_ce7f
    simp only [Ss.drop]
    refine st ?_
    walk_at "ws"
    refine ⟨line_100 (by omega), ?_⟩
    refine draw_ok hd T (by omega) ((Nat.lt_of_le_of_lt (Nat.log2_le_self _) (by omega))) (by omega) fun v μ2 v0 v1 D2 o2 => ?_
    obtain ⟨c, ec, hc⟩ := at_sgn hy v0 v1
    walk_at "ws ec"
    refine ⟨line_100 (by omega), ?_⟩
    rw [hZ]
    exact h _ _ hc rfl D2 (O.trans o2)
  refine st ?_
  walk_at "ws"
  refine draw_ok hd D (by decide) (by decide) (by omega) fun v μ1 v0 v1 D1 o1 => ?_
  walk_at "ws"
  by_cases hv : v = 0
  · rw [if_pos hv]
    refine st ?_
    walk_at "ws"
    exact last _ μ1 _ rfl (.lit (by decide)) (by rw [lit_length]; decide) (by rw [lit_length]; decide) D1 o1
  · rw [if_neg hv]
    refine sn (st ?_)
    walk_at "ws"
    refine st ?_
    walk_at "ws"
    refine ⟨line_100 (by rw [lit_length, lit_length]; decide), ?_⟩
    exact last _ μ1 _ rfl (Asc.app (.lit (by decide)) (.lit (by decide))) (by rw [lenA, lit_length, lit_length]; decide) (by rw [lenA, lit_length, lit_length]; decide) D1 o1
theorem sign_spoilt_ok {p : Pgm} {k n : Nat} {μ : Mu} {r g : Addr} {x : Str} {P : DV → Mu → Prop} {X : XP} (hd : Has p "_law_draw" sd__law_draw_d94d) (hs : Has p "_law_sign" sd__law_sign_ce7f) (hq : Has p "_law_sign_spoilt" sd__law_sign_spoilt_60ba) (D : Tray n μ r g) (hn : n < 2 ^ 58) (hx : Asc x) (hl : x.length ≤ 8000)
    (h : ∀ y μ', Asc y → y.length ≤ 2 * x.length + 700 → Tray (n + 4) μ' r g → Oth r g μ μ' → P (.str y) μ') : fnS p (k + 3) "_law_sign_spoilt" [.ref r, .str x] μ P X := by
  refine fn_in hq rfl ?_
  show wSs ⟨fnS p (k + 2), gvD p.gvs⟩ _ sd__law_sign_spoilt_60ba.s [some (.ref r), some (.str x), none, none, none] μ _
  unfold sd__law_sign_spoilt_60ba
  have hbig : ∀ {n : Nat}, n ≤ 60000 → n ≤ sizeLine := fun {n} h => by rw [sizeLine_eq]; omega
  refine st ?_
  walk_at "ws"
  refine draw_ok hd D (by decide) (by decide) (by omega) fun v μ1 v0 v1 D1 o1 => ?_
  refine st ?_
  walk_at "ws"
  refine ⟨hbig (by omega), ?_⟩
  refine draw_ok hd D1 (by omega) ((Nat.lt_of_le_of_lt (Nat.log2_le_self _) (by omega))) (by omega) fun w μ2 w0 w1 D2 o2 => ?_
  obtain ⟨w, rfl⟩ := Int.eq_ofNat_of_zero_le w0
  refine st ?_
  walk_at "ws"
  refine sign_ok hd hs D2 (by omega) fun s μ3 hs1 hs2 D3 o3 => ?_
  have fin : ∀ (s : Str) (Z : DEnds), Z.rt = P → Asc s → s.length ≤ 1 → wSs ⟨fnS p (k + 2), gvD p.gvs⟩ (fun cls fs _ μ' => X cls fs μ') (sd__law_sign_spoilt_60ba.s.drop 3) [some (.ref r), some (.str x), some (.int v), some (.int (w : Int)), some (.str s)] μ3 Z := by
    intro s Z hZ hs hs1
    unfold sd__law_sign_spoilt_60ba
    simp only [Ss.drop]
    have c1 := cut_len (x := x) (lo := none) (hi := some (w : Int))
    have go : ∀ b : Int, (cutS x none (some (w : Int)) ++ s).length ≤ sizeLine ∧ (cutS x none (some (w : Int)) ++ s).length + (cutS x (some b) none).length ≤ sizeLine ∧ P (.str (cutS x none (some (w : Int)) ++ s ++ cutS x (some b) none)) μ3 := fun b => by
      have c2 := cut_len (x := x) (lo := some b) (hi := none)
      refine ⟨hbig (by rw [lenA]; omega), hbig (by rw [lenA]; omega), ?_⟩
      exact h _ _ ((hx.cut.app hs).app hx.cut) (by rw [lenA, lenA]; omega) (D3.mono (by omega)) ((o1.trans o2).trans o3)
    refine st ?_
    walk_at "ws"
    obtain ⟨q1, q2, q3⟩ := go (w + if v < 2 then 1 else 0)
    rw [hZ]
    exact ⟨hbig (by omega), hbig (by omega), hbig (by omega), q2, q3⟩
  by_cases hv : 0 < v
  · rw [if_pos hv]
    exact ⟨_, rfl, fin s _ rfl hs1 (by omega)⟩
  · rw [if_neg hv]
    exact ⟨_, rfl, fin (Str.ofString "") _ rfl (.lit (by decide)) (by rw [lit_length]; decide)⟩
theorem joinL_set {S : List Nat} : ∀ {ps : List (List Nat)} {i : Nat} {w : List Nat}, (TL.joinL S (ps.set i w)).length ≤ (TL.joinL S ps).length + w.length
  | [], i, w => by simp [TL.joinL]
  | [p], 0, w => by simp [TL.joinL]
  | [p], i + 1, w => by simp [TL.joinL]
  | p :: q :: r, 0, w => by
    simp only [List.set_cons_zero, TL.joinL, List.length_append]; omega
  | p :: q :: r, i + 1, w => by
    have ih := joinL_set (S := S) (ps := q :: r) (i := i) (w := w)
    rw [List.set_cons_succ]
    cases e : (q :: r).set i w with
    | nil => 
      have := congrArg List.length e
      rw [List.length_set] at this
      cases this
    | cons a as =>
      rw [e] at ih
      simp only [TL.joinL, List.length_append] at ih ⊢
      omega
theorem join_set_len {y : Str} {ps : List Str} {i : Nat} {w : Str} : (Txt.join y (ps.set i w)).length ≤ (Txt.join y ps).length + w.length := by
  rw [tl_len, tl_len, join_tl, join_tl, List.map_set]
  exact joinL_set
theorem Asc.join {y : Str} {ps : List Str} (hy : Asc y) (hp : ∀ p ∈ ps, Asc p) : Asc (Txt.join y ps) := fun c hc => by
  rw [join_tl] at hc
  rcases joinL_mem hc with h | ⟨z, hz, h⟩
  · exact hy c h
  · obtain ⟨q, hq, rfl⟩ := List.mem_map.mp hz
    exact hp q hq c h
theorem joinL_sum {S : List Nat} : ∀ {ps : List (List Nat)}, (ps.map List.length).sum + ps.length * S.length ≤ (TL.joinL S ps).length + S.length
  | [] => by simp [TL.joinL]
  | [p] => by simp [TL.joinL]
  | p :: q :: r => by
    have ih := joinL_sum (S := S) (ps := q :: r)
    rw [List.map_cons, List.sum_cons, List.length_cons, Nat.succ_mul]
    simp only [TL.joinL, List.length_append]
    omega
theorem join_sum_le {y : Str} {ps : List Str} : (ps.map (·.length)).sum + ps.length * y.length ≤ (Txt.join y ps).length + y.length := by
  have h := joinL_sum (S := tl y) (ps := ps.map tl)
  rw [List.map_map, List.length_map] at h
  rw [tl_len (x := Txt.join y ps), join_tl]
  exact h
theorem ixN_in {n : Nat} {v : Int} (h0 : 0 ≤ v) (h1 : v < (n : Int)) : ixN n v = some v.toNat := by
  unfold ixN
  rw [if_pos h0, if_pos h1]
theorem mulB {c : Char} {s : String} (hs : s.toList = [c]) (h128 : c.toNat < 128) {n : Nat} : Asc (Txt.mul (Str.ofString s) (n : Int)) := fun d hd => by
  rw [lit_sgn hs, tl_mul] at hd
  rw [List.eq_of_mem_replicate hd]
  exact h128
theorem spoilt_ok {p : Pgm} {k n : Nat} {μ : Mu} {r g : Addr} {x : Str} {P : DV → Mu → Prop} {X : XP} (hd : Has p "_law_draw" sd__law_draw_d94d) (hs : Has p "_law_sign" sd__law_sign_ce7f) (hss : Has p "_law_sign_spoilt" sd__law_sign_spoilt_60ba) (hq : Has p "_law_spoilt" sd__law_spoilt_8584) (D : Tray n μ r g) (hn : n < 2 ^ 57) (hx : Asc x) (hl : x.length ≤ 8000)
    (h : ∀ y μ', Asc y → y.length ≤ 2 * x.length + 700 → Tray (n + 5) μ' r g → P (.str y) μ') : fnS p (k + 4) "_law_spoilt" [.ref r, .str x] μ P X := by
  refine fn_in hq rfl ?_
  show wSs ⟨fnS p (k + 3), gvD p.gvs⟩ _ sd__law_spoilt_8584.s [some (.ref r), some (.str x), none, none, none, none] μ _
  unfold sd__law_spoilt_8584
  have hbig : ∀ {n : Nat}, n ≤ 60000 → n ≤ sizeLine := fun {n} h => by rw [sizeLine_eq]; omega
  have lb : (Str.ofString "[").length = 1 := by rw [lit_length]; rfl
  refine st ?_
  walk_at "ws"
  refine draw_ok hd D (by decide) (by decide) (by omega) fun v μ1 v0 v1 D1 o1 => ?_
  refine st ?_
  walk_at "ws"
  by_cases hv : v < 3
  · rw [if_pos hv]
    refine st ?_
    walk_at "ws"
    exact sign_spoilt_ok hd hs hss D1 (by omega) hx hl fun y μ' a b c d => h y μ' a b (c.mono (by omega))
  rw [if_neg hv]
  refine sn (st ?_)
  walk_at "ws"
  by_cases hv3 : v = 3
  · rw [if_pos hv3]
    refine st ?_
    walk_at "ws"
    refine draw_ok hd D1 (by decide) (by decide) (by omega) fun w μ2 w0 w1 D2 o2 => ?_
    obtain ⟨m, em, hm⟩ : ∃ m : Nat, atI [DV.int 1, DV.int 2, DV.int 3, DV.int 300] w = some (.int (m : Int)) ∧ m ≤ 300 := by
      have : w = 0 ∨ w = 1 ∨ w = 2 ∨ w = 3 := by omega
      rcases this with rfl | rfl | rfl | rfl
      · exact ⟨1, rfl, by decide⟩
      · exact ⟨2, rfl, by decide⟩
      · exact ⟨3, rfl, by decide⟩
      · exact ⟨300, rfl, by decide⟩
    walk_at "ws em"
    refine st ?_
    have l1 : (Txt.mul (Str.ofString "[") (m : Int)).length = m := len_mul (c := '[') rfl
    have l2 : (Txt.mul (Str.ofString "]") (m : Int)).length = m := len_mul (c := ']') rfl
    walk_at "ws o_mulS"
    refine ⟨mulOk_lb (by omega), hbig (by omega), mulOk_rb (by omega), hbig (by rw [lenA]; omega), ?_⟩
    exact h _ _ (((mulB (c := '[') rfl (by decide)).app hx).app (mulB (c := ']') rfl (by decide))) (by rw [lenA, lenA]; omega) (D2.mono (by omega))
  rw [if_neg hv3]
  refine sn (st ?_)
  walk_at "ws"
  by_cases hv4 : v = 4
  · rw [if_pos hv4]
    refine st ?_
    walk_at "ws"
    have a1 : (Str.ofString "(").length = 1 := by rw [lit_length]; rfl
    have a2 : (Str.ofString ")").length = 1 := by rw [lit_length]; rfl
    have a3 : (Str.ofString "(-> ").length = 4 := by rw [lit_length]; rfl
    have a4 : (Str.ofString " -> num)").length = 8 := by rw [lit_length]; rfl
    refine ⟨hbig (by omega), hbig (by rw [lenA]; omega), hbig (by omega), hbig (by rw [lenA]; omega), hbig (by omega), hbig (by rw [lenA]; omega), ?_⟩
    refine draw_ok hd D1 (by decide) (by decide) (by omega) fun w μ2 w0 w1 D2 o2 => ?_
    obtain ⟨y, ey, hy, hyl⟩ : ∃ y : Str, atI [DV.str (Str.ofString "(" ++ x ++ Str.ofString ")"), DV.str (Str.ofString "(-> " ++ x ++ Str.ofString ")"), DV.str (Str.ofString "(" ++ x ++ Str.ofString " -> num)")] w = some (.str y) ∧ Asc y ∧ y.length ≤ x.length + 20 := by
      have : w = 0 ∨ w = 1 ∨ w = 2 := by omega
      rcases this with rfl | rfl | rfl
      · exact ⟨_, rfl, ((Asc.lit (by decide)).app hx).app (.lit (by decide)), by rw [lenA, lenA]; omega⟩
      · exact ⟨_, rfl, ((Asc.lit (by decide)).app hx).app (.lit (by decide)), by rw [lenA, lenA]; omega⟩
      · exact ⟨_, rfl, ((Asc.lit (by decide)).app hx).app (.lit (by decide)), by rw [lenA, lenA]; omega⟩
    rw [o_ixL, ey]
    exact ⟨_, rfl, h _ _ hy (by omega) (D2.mono (by omega))⟩
  rw [if_neg hv4]
  refine sn (st ?_)
  have sp : (Str.ofString " ").length = 1 := by rw [lit_length]; rfl
  walk_at "ws"
  refine ⟨by rw [sp]; rfl, hbig (by omega), fun a ha => ?_⟩
  obtain ⟨ar, ag⟩ := D1.rs ha
  have hsl := PyProof.Rows.split_le x (Str.ofString " ")
  have hsa : ∀ z ∈ Txt.split x (Str.ofString " "), Asc z := fun z hz => (split_asc hx hz).1
  have hjs : (Txt.join (Str.ofString " ") (Txt.split x (Str.ofString " "))).length = x.length := by rw [join_split]
  have hne : 0 < (Txt.split x (Str.ofString " ")).length := List.length_pos_iff.mpr fun e => by
    have e2 := join_split (x := x) (y := Str.ofString " ")
    rw [e] at e2
    have e2 : Str.ofString "" = x := e2
    rw [← e2] at e
    revert e
    decide +kernel
  generalize Txt.split x (Str.ofString " ") = ps at *
  refine st ?_
  walk_at "ws"
  refine st ?_
  walk_at "ws"
  refine ⟨line_100 (by decide), ?_⟩
  refine st ?_
  walk_at "ws"
  have T1 : Tray (n + 1) (upm μ1 a (.lst (ps.map DV.str))) r g := D1.cong (upm_ne (Ne.symm ar)) (upm_ne (Ne.symm ag))
  refine draw_ok hd T1 (by decide) (by decide) (by omega) fun w μ2 w0 w1 D2 o2 => ?_
  have ha2 : μ2 a = some (.lst (ps.map DV.str)) := (o2 a ar ag).trans upm_same
  have h16 : ∀ y ∈ [Str.ofString "num", Str.ofString "text", Str.ofString "nums", Str.ofString "Num", Str.ofString "a", Str.ofString "", Str.ofString "->", Str.ofString "[num]", Str.ofString "[]", Str.ofString "[[num]]", Str.ofString "num,", Str.ofString ",", Str.ofString "(->", Str.ofString "num)", Str.ofString "a)", Str.ofString "zzzzzzzzz"], Asc y ∧ y.length ≤ 9 := by
    simp only [List.mem_cons, List.not_mem_nil, or_false, forall_eq_or_imp, forall_eq]
    refine ⟨?_, ?_, ?_, ?_, ?_, ?_, ?_, ?_, ?_, ?_, ?_, ?_, ?_, ?_, ?_, ?_⟩ <;> exact ⟨.lit (by decide), by rw [lit_length]; decide⟩
  obtain ⟨y, hy, ey⟩ := atI_map (f := DV.str) (L := [Str.ofString "num", Str.ofString "text", Str.ofString "nums", Str.ofString "Num", Str.ofString "a", Str.ofString "", Str.ofString "->", Str.ofString "[num]", Str.ofString "[]", Str.ofString "[[num]]", Str.ofString "num,", Str.ofString ",", Str.ofString "(->", Str.ofString "num)", Str.ofString "a)", Str.ofString "zzzzzzzzz"]) w0 w1
  obtain ⟨y1, y2⟩ := h16 y hy
  rw [o_ixL]
  refine ⟨_, ey, _, sq_o ha2, ?_⟩
  rw [List.length_map]
  refine draw_ok hd D2 (by omega) (Nat.lt_of_le_of_lt (Nat.log2_le_self _) (by omega)) (by omega) fun i μ3 i0 i1 D3 o3 => ?_
  have ha3 : μ3 a = some (.lst (ps.map DV.str)) := (o3 a ar ag).trans ha2
  rw [setW_is]
  refine ⟨_, _, ha3, ixN_in i0 (by rw [List.length_map]; exact i1), ?_⟩
  have ha4 : (upm μ3 a (.lst ((ps.map DV.str).set i.toNat (.str y)))) a = some (.lst ((ps.set i.toNat y).map DV.str)) := by rw [upm_same, List.map_set]
  have T4 : Tray (n + 5) (upm μ3 a (.lst ((ps.map DV.str).set i.toNat (.str y)))) r g := (D3.cong (upm_ne (Ne.symm ar)) (upm_ne (Ne.symm ag))).mono (by omega)
  have hjl := join_set_len (y := Str.ofString " ") (ps := ps) (i := i.toNat) (w := y)
  have hjm := join_sum_le (y := Str.ofString " ") (ps := ps.set i.toNat y)
  refine st ?_
  walk_at "ws"
  refine ⟨_, sq_o ha4, _, strsD_map, by omega, ?_⟩
  refine h _ _ (.join (.lit (by decide)) fun q hq => ?_) (by omega) T4
  rcases List.mem_or_eq_of_mem_set hq with z | z
  · exact hsa q z
  · rw [z]; exact y1
end Sr

set_option Elab.async false
set_option linter.all false
set_option maxRecDepth 100000
set_option autoImplicit false
/-! The law's own texts of kinds. -/
namespace Sr
open PySem PySem.Spec PyProof.Rows L2
def sd__law_shown_850e : SD := ⟨["_law_kind_here", "_law_called", "_law_one"], ["_law_kind_here"],
  (.cons (.ite (.cmp .inn (.op .ix (.var 0) (.int 0)) (.lst false (.cons (.str "num") (.cons (.str "text") .nil)))) (.cons (.ret (.op .ix (.var 0) (.int 0))) .nil) .nil)
  (.cons (.ite (.cmp .eq (.op .ix (.var 0) (.int 0)) (.str "of")) (.cons (.ret (.op .ix (.var 0) (.int 1))) .nil) .nil)
  (.cons (.ite (.cmp .eq (.op .ix (.var 0) (.int 0)) (.str "row")) (.cons (.ret (.op (.add false) (.op (.add false) (.str "[") (.call "_law_shown" (.cons (.op .ix (.var 0) (.int 1)) .nil))) (.str "]"))) .nil) .nil)
  (.cons (.asg (.var 1) (.bm .join (.str ", ") (.cons (.comp false [2] (.call "_law_shown" (.cons (.var 2) .nil)) (.var 2) (.seq (.op .ix (.var 0) (.int 1))) .nil) .nil)))
  (.cons (.ret (.op (.add false) (.op (.add false) (.op (.add false) (.op (.add false) (.op (.add false) (.str "(") (.var 1)) (.op .mul (.str " ") (.bf .min2 (.cons (.int 1) (.cons (.bf .len (.cons (.op .ix (.var 0) (.int 1)) .nil)) .nil))))) (.str "-> ")) (.call "_law_shown" (.cons (.op .ix (.var 0) (.int 2)) .nil))) (.str ")"))) .nil)))))⟩
theorem lshFb_ok {p : Pgm} {k : Nat} (hq : Has p "_law_shown" sd__law_shown_850e) : ∀ (f : FK) {μ : Mu} {P : DV → Mu → Prop} {X : XP}, f.ok Nm → f.dep ≤ 100 → P (.str f.sh) μ → fnS p (k + f.dep) "_law_shown" [f.d] μ P X
  | f, μ, P, X, ho, hd, h => by
    cases f with
    | num =>
      refine fn_in hq rfl ?_
      show wSs _ _ sd__law_shown_850e.s [some (FK.d .num), none, none] μ _
      unfold sd__law_shown_850e
      simp only [FK.d]
      walk_at "wgo"
      exact h
    | text =>
      refine fn_in hq rfl ?_
      show wSs _ _ sd__law_shown_850e.s [some (FK.d .text), none, none] μ _
      unfold sd__law_shown_850e
      simp only [FK.d]
      walk_at "wgo"
      exact h
    | of x =>
      refine fn_in hq rfl ?_
      show wSs _ _ sd__law_shown_850e.s [some (FK.d (.of x)), none, none] μ _
      unfold sd__law_shown_850e
      simp only [FK.d]
      walk_at "wgo"
      exact h
    | row f =>
      refine fn_in hq rfl ?_
      show wSs _ _ sd__law_shown_850e.s [some (FK.d (.row f)), none, none] μ _
      unfold sd__law_shown_850e
      simp only [FK.d]
      walk_at "wgo wFs fmtW emp_app"
      have hd : f.dep + 1 ≤ 100 := hd
      have hl := FK.sh_len (k := f) ho
      refine lvS rfl (lshFb_ok hq f ho (by omega) ?_)
      walk_at "ws"
      exact ⟨line_100 (by (try simp only [lenA, l_lb, l_rb]); omega), line_100 (by (try simp only [lenA, l_lb, l_rb]); omega), h⟩
theorem lshKb_ok {p : Pgm} {k : Nat} (hq : Has p "_law_shown" sd__law_shown_850e) : ∀ (f : Kd) {n : Nat} {μ : Mu} {P : DV → Mu → Prop} {X : XP}, f.ok Nm → f.Le n → n ≤ 50 → P (.str f.sh) μ → fnS p (k + f.dep) "_law_shown" [f.d] μ P X
  | .fl f, n, μ, P, X, ho, hl, hn, h => lshFb_ok hq f ho (by have := hl.dep_le; have : f.dep ≤ n := this; omega) h
  | .row f, 0, μ, P, X, ho, hl, hn, h => hl.elim
  | .calls fs f, 0, μ, P, X, ho, hl, hn, h => hl.elim
  | .row f, n + 1, μ, P, X, ho, hl, hn, h => by
    refine fn_in hq rfl ?_
    show wSs _ _ sd__law_shown_850e.s [some (Kd.d (.row f)), none, none] μ _
    unfold sd__law_shown_850e
    simp only [Kd.d]
    walk_at "wgo"
    have hs := Kd.sh_len (k := f) (n := n) ho hl
    refine lvS rfl (lshKb_ok hq f (n := n) ho hl (by omega) ?_)
    walk_at "ws"
    exact ⟨line_100 (by (try simp only [lenA, l_lb, l_rb]); omega), line_100 (by (try simp only [lenA, l_lb, l_rb]); omega), h⟩
  | .calls fs f, n + 1, μ, P, X, ⟨ho, ho2⟩, ⟨l1, l2, l3⟩, hn, h => by
    have hfo := fold_le (ks := fs) (k := f)
    obtain ⟨M, hM⟩ : ∃ M, M = fs.foldr (fun f m => Nat.max f.dep m) f.dep := ⟨_, rfl⟩
    rw [← hM] at hfo
    refine lvS (show k + M + 1 = k + (fs.foldr (fun f m => Nat.max f.dep m) f.dep + 1) by rw [hM]; rfl) ?_
    refine fn_in hq rfl ?_
    show wSs ⟨fnS p (k + M), gvD p.gvs⟩ _ sd__law_shown_850e.s [some (Kd.d (.calls fs f)), none, none] μ _
    unfold sd__law_shown_850e
    simp only [Kd.d]
    have hc := called_len ho l2 l1
    have hs := FK.sh_len ho2
    walk_at "wgo"
    refine compF_map (ys := fs) (em := FK.d) (fun q => .str q.sh) trivial (line_100 (by rw [List.length_nil]; omega)) (fun q hq2 acc kk ha hk => ?_) ?_
    · walk_at "ws wipeG"
      have := l2 q hq2
      have := hfo.2 q hq2
      exact lvS (show k + (M - q.dep) + q.dep = k + M by omega) (lshFb_ok hq q (ho q hq2) (by omega) ⟨ha, hk⟩)
    · rw [List.nil_append, show fs.map (fun q => DV.str q.sh) = (fs.map FK.sh).map DV.str by rw [List.map_map]; rfl]
      walk_at "ws"
      refine ⟨join_sum ho l2 l1 (by omega), ?_⟩
      refine st ?_
      walk_at "ws List.length_map"
      obtain ⟨m, em, hm1, hmj⟩ : ∃ m : Nat, (if (fs.length : Int) < 1 then (fs.length : Int) else 1) = (m : Int) ∧ m ≤ 1 ∧ Txt.join (Str.ofString ", ") (fs.map FK.sh) ++ Txt.mul (Str.ofString " ") (m : Int) = called fs := by
        cases fs with
        | nil => exact ⟨0, rfl, by decide, by rw [List.map_nil, join_nil]; exact (tl_ext (by rw [tl_app, tl_empty, show ((0 : Nat) : Int) = 0 from rfl, mul_sp0]; rfl))⟩
        | cons q qs => exact ⟨1, by rw [if_neg (by rw [List.length_cons]; omega)]; rfl, by decide, by rw [show ((1 : Nat) : Int) = 1 from rfl, mul_sp1]; rfl⟩
      rw [em]
      have e5 : ∀ x : Str, x ++ Txt.join (Str.ofString ", ") (fs.map FK.sh) ++ Txt.mul (Str.ofString " ") (m : Int) = x ++ called fs := fun x => by rw [app_asc, hmj]
      have e6 : (Txt.join (Str.ofString ", ") (fs.map FK.sh)).length + (Txt.mul (Str.ofString " ") (m : Int)).length = (called fs).length := by rw [← lenA, hmj]
      walk_at "ws o_mulS"
      refine ⟨line_100 (by (try simp only [lenA, l_lb, l_rb, l_lp, l_rp, l_ar, l_cm, l_sp, l_em]); omega), mulOk_sp (by omega), line_100 (by (try simp only [lenA, l_lb, l_rb, l_lp, l_rp, l_ar, l_cm, l_sp, l_em]); omega), ?_⟩
      rw [e5]
      refine ⟨line_100 (by (try simp only [lenA, l_lb, l_rb, l_lp, l_rp, l_ar, l_cm, l_sp, l_em]); omega), ?_⟩
      refine lvS (show k + (M - f.dep) + f.dep = k + M by omega) (lshFb_ok hq f ho2 (by omega) ?_)
      walk_at "ws"
      exact ⟨line_100 (by (try simp only [lenA, l_lb, l_rb, l_lp, l_rp, l_ar, l_cm, l_sp, l_em]); omega), line_100 (by (try simp only [lenA, l_lb, l_rb, l_lp, l_rp, l_ar, l_cm, l_sp, l_em]); omega), h⟩
end Sr

set_option Elab.async false
set_option linter.all false
set_option maxRecDepth 100000
set_option autoImplicit false
/-! k61: the law's own parser of kinds, walked. -/
namespace Sr
open PySem PySem.Spec PyProof.Rows L2
def sd__law_kind_of_abb1 : SD := ⟨["_law_text", "_law_deep", "_law_words", "_law_called", "_law_answer", "_law_lower", "_law_one"], ["_law_text", "_law_deep"],
  (.cons (.ite (.and_ (.cmp .eq (.sl false (.var 0) .no (.int 1)) (.str "[")) (.and_ (.cmp .eq (.sl false (.var 0) (.neg (.int 1)) .no) (.str "]")) (.cmp .gt (.var 1) (.int 1)))) (.cons (.asg (.var 5) (.call "_law_kind_of" (.cons (.sl false (.var 0) (.int 1) (.neg (.int 1))) (.cons (.op .sub (.var 1) (.int 1)) .nil)))) (.cons (.ret (.ite (.cmp .isN (.var 5) .non) .non (.tup (.cons (.str "row") (.cons (.var 5) .nil))))) .nil)) .nil)
  (.cons (.ite (.cmp .ne (.sl false (.var 0) .no (.int 1)) (.str "(")) (.cons (.ret (.call "_law_flat_of" (.cons (.var 0) (.cons (.var 1) .nil)))) .nil) .nil)
  (.cons (.ite (.or_ (.cmp .ne (.sl false (.var 0) (.neg (.int 1)) .no) (.str ")")) (.cmp .lt (.bf .len (.cons (.var 0) .nil)) (.int 6))) (.cons (.ret .non) .nil) .nil)
  (.cons (.asg (.var 2) (.bm (.split false) (.sl false (.var 0) (.int 1) (.neg (.int 1))) (.cons (.str "-> ") .nil)))
  (.cons (.ite (.or_ (.cmp .ne (.bf .len (.cons (.var 2) .nil)) (.int 2)) (.and_ (.cmp .ne (.op .ix (.var 2) (.int 0)) (.str "")) (.cmp .ne (.sl false (.op .ix (.var 2) (.int 0)) (.neg (.int 1)) .no) (.str " ")))) (.cons (.ret .non) .nil) .nil)
  (.cons (.asg (.var 3) (.lst false .nil))
  (.cons (.ite (.cmp .ne (.op .ix (.var 2) (.int 0)) (.str "")) (.cons (.asg (.var 3) (.comp false [6] (.call "_law_flat_of" (.cons (.var 6) (.cons (.op .sub (.var 1) (.int 1)) .nil))) (.var 6) (.seq (.bm (.split false) (.sl false (.op .ix (.var 2) (.int 0)) .no (.neg (.int 1))) (.cons (.str ", ") .nil))) .nil)) .nil) .nil)
  (.cons (.asg (.var 4) (.call "_law_flat_of" (.cons (.op .ix (.var 2) (.int 1)) (.cons (.op .sub (.var 1) (.int 1)) .nil))))
  (.cons (.ite (.or_ (.cmp .inn .non (.var 3)) (.or_ (.cmp .isN (.var 4) .non) (.cmp .gt (.bf .len (.cons (.var 3) .nil)) (.int 3)))) (.cons (.ret .non) .nil) .nil)
  (.cons (.ret (.tup (.cons (.str "calls") (.cons (.bf .tuple (.cons (.var 3) .nil)) (.cons (.var 4) .nil))))) .nil))))))))))⟩
theorem first_ne' {x y : Str} {c d : Nat} (h : Fst c x) (hy : tl y = [d]) (hc : c ≠ d) : cutS x none (some 1) ≠ y := fun e => by
  have hi := tl_cutHi (x := x) (i := 1)
  rw [show ((1 : Nat) : Int) = 1 from rfl, e, hy] at hi
  obtain ⟨r, hr⟩ := h
  rw [hr] at hi
  exact hc (List.head_eq_of_cons_eq hi).symm
theorem FK.fst_ne {f : FK} (h : f.ok Nm) : cutS f.sh none (some 1) ≠ Str.ofString "(" := by
  have e : tl (Str.ofString "(") = [40] := tl_lit
  cases f with
  | num => exact first_ne' (c := 110) ⟨[117, 109], tl_lit⟩ e (by decide)
  | text => exact first_ne' (c := 116) ⟨[101, 120, 116], tl_lit⟩ e (by decide)
  | of y =>
    obtain ⟨c, hc, c1, c2⟩ := base_fst (B := y) (.inl h)
    exact first_ne' hc e (by omega)
  | row g =>
    have : (FK.row g).sh = Str.ofString "[" ++ g.sh ++ Str.ofString "]" := rfl
    rw [this, brk_mk.1, Ne, lit_inj]
    decide
theorem split_ne {x : Str} : Txt.split x (Str.ofString ", ") ≠ [] := fun h => by
  have e := join_split (x := x) (y := Str.ofString ", ")
  rw [h] at e
  have e : Str.ofString "" = x := e
  subst e
  revert h
  decide +kernel
theorem called_lastc {q : FK} {ks : List FK} : cutS (called (q :: ks)) (some (-1)) none = Str.ofString " " := by
  rcases called_last (ks := q :: ks) with h | h
  · have e := congrArg tl h
    have e2 : tl (called (q :: ks)) = tl (Txt.join (Str.ofString ", ") ((q :: ks).map FK.sh)) ++ [32] := by
      show tl (_ ++ Str.ofString " ") = _
      rw [tl_app]; rfl
    rw [tl_last, e2, List.length_append, List.length_singleton, Nat.add_sub_cancel, List.drop_left' rfl] at e
    cases e
  · exact h
/-- ends with a blank -/
theorem but_blank {a : Str} (h : cutS a (some (-1)) none = Str.ofString " ") : a = cutS a none (some (-1)) ++ Str.ofString " " := by
  have e := congrArg tl h
  rw [tl_last] at e
  refine tl_ext ?_
  have e2 : tl (Str.ofString " ") = [32] := tl_lit
  rw [e2] at e
  rw [tl_app, e2, tl_butLast0, ← e, List.take_append_drop]
theorem FK.sh_inj : ∀ {f g : FK}, f.ok Nm → g.ok Nm → f.sh = g.sh → f = g
  | .num, .num, _, _, _ => rfl
  | .text, .text, _, _, _ => rfl
  | .num, .text, _, _, e => by
    have e : Str.ofString "num" = Str.ofString "text" := e
    rw [lit_inj] at e
    exact absurd e (by decide)
  | .text, .num, _, _, e => by
    have e : Str.ofString "text" = Str.ofString "num" := e
    rw [lit_inj] at e
    exact absurd e (by decide)
  | .of y, .num, h, _, e => absurd e h.nn
  | .of y, .text, h, _, e => absurd e h.nt
  | .num, .of y, _, h, e => absurd e.symm h.nn
  | .text, .of y, _, h, e => absurd e.symm h.nt
  | .of y, .of z, _, _, e => by
    have e : y = z := e
    rw [e]
  | .row f, .row g, h1, h2, e => by
    rw [FK.sh_row, FK.sh_row] at e
    have e2 : f.sh = g.sh := by rw [← (brk_mk (m := f.sh)).2.2, e, brk_mk.2.2]
    rw [FK.sh_inj (f := f) (g := g) h1 h2 e2]
  | .row f, .num, _, _, e => by
    have h := (brk_mk (m := f.sh)).1
    rw [← FK.sh_row, e] at h
    exact absurd h (first_ne (c := 110) ⟨[117, 109], tl_lit⟩ (by decide))
  | .row f, .text, _, _, e => by
    have h := (brk_mk (m := f.sh)).1
    rw [← FK.sh_row, e] at h
    exact absurd h (first_ne (c := 116) ⟨[101, 120, 116], tl_lit⟩ (by decide))
  | .row f, .of y, _, h2, e => by
    have h := (brk_mk (m := f.sh)).1
    rw [← FK.sh_row, e] at h
    obtain ⟨c, hc, c1, c2⟩ := base_fst (B := y) (.inl h2)
    exact absurd h (first_ne hc (by omega))
  | .num, .row f, _, _, e => by
    have h := (brk_mk (m := f.sh)).1
    rw [← FK.sh_row, ← e] at h
    exact absurd h (first_ne (c := 110) ⟨[117, 109], tl_lit⟩ (by decide))
  | .text, .row f, _, _, e => by
    have h := (brk_mk (m := f.sh)).1
    rw [← FK.sh_row, ← e] at h
    exact absurd h (first_ne (c := 116) ⟨[101, 120, 116], tl_lit⟩ (by decide))
  | .of y, .row f, h2, _, e => by
    have h := (brk_mk (m := f.sh)).1
    rw [← FK.sh_row, ← e] at h
    obtain ⟨c, hc, c1, c2⟩ := base_fst (B := y) (.inl h2)
    exact absurd h (first_ne hc (by omega))
theorem Kd.only_calls {K : Kd} {n : Nat} {x : Str} (ho : K.ok Nm) (hle : K.Le n) (e : x = K.sh) (c1 : cutS x none (some 1) = Str.ofString "(") : ∃ ks f m, K = .calls ks f ∧ n = m + 1 ∧ ks.length ≤ 3 ∧ (∀ q ∈ ks, q.ok Nm ∧ q.dep ≤ m) ∧ f.ok Nm ∧ f.dep ≤ m := by
  cases K with
  | fl f =>
    rw [e] at c1
    exact absurd c1 (FK.fst_ne ho)
  | row K' =>
    have e : x = Str.ofString "[" ++ K'.sh ++ Str.ofString "]" := e
    rw [e, brk_mk.1, lit_inj] at c1
    exact absurd c1 (by decide)
  | calls ks f =>
    cases n with
    | zero => exact hle.elim
    | succ n => exact ⟨ks, f, n, rfl, rfl, hle.1, fun q hq => ⟨ho.1 q hq, hle.2.1 q hq⟩, ho.2, hle.2.2⟩
theorem calls_sh_len {ks : List FK} {f : FK} (h : f.ok Nm) : 6 ≤ (Kd.calls ks f).sh.length := by
  have := FK.sh_pos h
  rw [calls_sh', lenA, lenA, lenA, lenA, len_lit (s := "(") (n := 1) rfl, len_lit (s := ")") (n := 1) rfl, len_lit (s := "-> ") (n := 3) rfl]
  omega
open Classical in
/-- the flat kind that a text writes -/
noncomputable def pick (m : Nat) (z : Str) : Option FK := if h : ∃ f : FK, f.ok Nm ∧ f.dep ≤ m ∧ z = f.sh then some h.choose else none
theorem pick_some {m : Nat} {z : Str} {f : FK} (h : pick m z = some f) : f.ok Nm ∧ f.dep ≤ m ∧ z = f.sh := by
  unfold pick at h
  split at h
  · next hh => cases h; exact hh.choose_spec
  · cases h
theorem pick_none {m : Nat} {z : Str} (h : pick m z = none) : ∀ f : FK, f.ok Nm → f.dep ≤ m → z ≠ f.sh := fun f h1 h2 e => by
  unfold pick at h
  split at h
  · cases h
  · next hh => exact hh ⟨f, h1, h2, e⟩
theorem map_pick {d : Nat} : ∀ {ps : List Str} {ks : List FK}, ps.map (pick d) = ks.map some → ps = ks.map FK.sh ∧ ∀ q ∈ ks, q.ok Nm ∧ q.dep ≤ d
  | [], [], _ => ⟨rfl, fun _ h => by cases h⟩
  | z :: ps, k :: ks, e => by
    rw [List.map_cons, List.map_cons] at e
    obtain ⟨e1, e2⟩ := List.cons.inj e
    obtain ⟨a, b, c⟩ := pick_some e1
    obtain ⟨h1, h2⟩ := map_pick e2
    exact ⟨by rw [List.map_cons, ← h1, c], fun q hq => by
      rcases List.mem_cons.mp hq with rfl | hq
      · exact ⟨a, b⟩
      · exact h2 q hq⟩
theorem lflat_pick {p : Pgm} {k : Nat} (hn : Has p "_law_is_name" sd__law_is_name_ac37) (hq : Has p "_law_flat_of" sd__law_flat_of_ca67) {n : Nat} {μ : Mu} {x : Str} {P : DV → Mu → Prop} {X : XP} (hx : Asc x) (hl : x.length ≤ 50000) (h100 : n ≤ 100)
    (h : P (oD (pick n x)) μ) : fnS p (k + n + 2) "_law_flat_of" [.str x, .int (n : Int)] μ P X := by
  refine lflat_any hn hq n hx hl h100 (fun f f1 f2 e => ?_) fun h0 => ?_
  · cases e2 : pick n x with
    | none => exact absurd e (pick_none e2 f f1 f2)
    | some g =>
      obtain ⟨a, b, c⟩ := pick_some e2
      rw [e2] at h
      rw [FK.sh_inj f1 a (by rw [← e, c])]
      exact h
  · cases e : pick n x with
    | none => rw [e] at h; exact h
    | some f =>
      obtain ⟨a, b, c⟩ := pick_some e
      exact absurd c (h0 f a b)
theorem lkind_any {p : Pgm} {k : Nat} (hn : Has p "_law_is_name" sd__law_is_name_ac37) (hfl : Has p "_law_flat_of" sd__law_flat_of_ca67) (hq : Has p "_law_kind_of" sd__law_kind_of_abb1) : ∀ (n : Nat) {μ : Mu} {x : Str} {P : DV → Mu → Prop} {X : XP}, Asc x → x.length ≤ 8000 → n ≤ 50 → 1 ≤ n →
    (∀ K : Kd, K.ok Nm → K.Le n → x = K.sh → P K.d μ) → ((∀ K : Kd, K.ok Nm → K.Le n → x ≠ K.sh) → P .non μ) → fnS p (k + n + 4) "_law_kind_of" [.str x, .int (n : Int)] μ P X
  | n, μ, x, P, X, hx, hl, h50, h1n, hy, hno => by
    refine fn_in hq rfl ?_
    show wSs ⟨fnS p (k + n + 3), gvD p.gvs⟩ _ sd__law_kind_of_abb1.s [some (.str x), some (.int (n : Int)), none, none, none, none, none] μ _
    unfold sd__law_kind_of_abb1
    have hbig : ∀ {n : Nat}, n ≤ 60000 → n ≤ sizeLine := fun {n} h => by rw [sizeLine_eq]; omega
    have k1 := (hx.cut (lo := none) (hi := some 1)).ok
    have k2 := (hx.cut (lo := some (-1)) (hi := none)).ok
    have rest : (¬ (cutS x none (some 1) = Str.ofString "[" ∧ cutS x (some (-1)) none = Str.ofString "]" ∧ 1 < n)) → wSs ⟨fnS p (k + n + 3), gvD p.gvs⟩ (fun cls fs _ μ' => X cls fs μ') (sd__law_kind_of_abb1.s.drop 1) [some (.str x), some (.int (n : Int)), none, none, none, none, none] μ { nx := fun _ μ1 => P .non μ1, rt := P } := by
      intro hb
      unfold sd__law_kind_of_abb1
      simp only [Ss.drop]
      refine st ?_
      walk_at "ws k1"
      refine ⟨hbig (by omega), ?_⟩
      by_cases c1 : cutS x none (some 1) = Str.ofString "("
      · rw [if_neg (by rw [decide_eq_true c1]; decide)]
        refine sn (st ?_)
        walk_at "ws k2"
        have none_ : ∀ (Z : DEnds) (γ : Ga), Z.rt = P → (∀ K : Kd, K.ok Nm → K.Le n → x ≠ K.sh) → wSs ⟨fnS p (k + n + 3), gvD p.gvs⟩ (fun cls fs _ μ' => X cls fs μ') (.cons (.ret .non) .nil) γ μ Z := fun Z γ hZ q => by
          refine st ?_
          walk_at "ws"
          rw [hZ]
          exact hno q
        refine ⟨hbig (by omega), ?_⟩
        by_cases c2 : cutS x (some (-1)) none = Str.ofString ")"
        · rw [if_neg (by rw [decide_eq_true c2]; decide)]
          have ex := par_of c1 c2
          have hma := hx.cut (lo := some 1) (hi := some (-1))
          have hml := cut_len (x := x) (lo := some 1) (hi := some (-1))
          have hmx : cutS x (some 1) (some (-1)) = cutS x (some 1) (some (-1)) := rfl
          refine ⟨hbig (by omega), ?_⟩
          by_cases c6 : (x.length : Int) < 6
          · rw [if_pos c6]
            refine none_ _ _ rfl fun K ho hle e => ?_
            obtain ⟨ks, f, m, rfl, q1, q2, q3, q4, q5⟩ := Kd.only_calls ho hle e c1
            have := calls_sh_len (ks := ks) q4
            rw [e] at c6
            omega
          rw [if_neg c6]
          obtain ⟨d, rfl⟩ : ∃ d, n = d + 1 := ⟨n - 1, by omega⟩
          have only : ∀ K : Kd, K.ok Nm → K.Le (d + 1) → x = K.sh → ∃ ks f, K = .calls ks f ∧ ks.length ≤ 3 ∧ (∀ q ∈ ks, q.ok Nm ∧ q.dep ≤ d) ∧ f.ok Nm ∧ f.dep ≤ d ∧ Txt.split (cutS x (some 1) (some (-1))) (Str.ofString "-> ") = [called ks, f.sh] := fun K ho hle e => by
            obtain ⟨ks, f, m, rfl, q1, q2, q3, q4, q5⟩ := Kd.only_calls ho hle e c1
            obtain rfl : d = m := by omega
            refine ⟨ks, f, rfl, q2, q3, q4, q5, ?_⟩
            rw [e, calls_sh', par_mk.2.2]
            exact split_calls (fun q hq => (q3 q hq).1) q4
          refine sn (st ?_)
          walk_at "ws"
          generalize cutS x (some 1) (some (-1)) = m at *
          have hsl := PyProof.Rows.split_le m (Str.ofString "-> ")
          have hsa : ∀ z ∈ Txt.split m (Str.ofString "-> "), Asc z ∧ z.length ≤ m.length := fun z hz => split_asc hma hz
          have h2 : ∀ {a b : Str}, Txt.split m (Str.ofString "-> ") = [a, b] → m = a ++ Str.ofString "-> " ++ b := split_two
          generalize Txt.split m (Str.ofString "-> ") = words at *
          refine ⟨hbig (by omega), by rw [len_lit (n := 3) rfl]; rfl, hbig (by omega), ?_⟩
          by_cases w2 : words.length = 2
          · obtain ⟨a, b, rfl⟩ : ∃ a b, words = [a, b] := by
              match words, w2 with
              | [a, b], _ => exact ⟨a, b, rfl⟩
            have ha := hsa a List.mem_cons_self
            have hb2 := hsa b (List.mem_cons_of_mem _ List.mem_cons_self)
            have hao := ha.1.ok
            have hak := (ha.1.cut (lo := some (-1)) (hi := none)).ok
            refine st ?_
            walk_at "ws List.map_cons List.map_nil hao hak"
            rw [if_neg (by decide)]
            have tail : ∀ (parts : List Str) (y6 : Option DV) (Z : DEnds), Z.rt = P → parts.length ≤ 8100 → (∀ ks : List FK, (∀ q ∈ ks, q.ok Nm) → (a = called ks ↔ parts = ks.map FK.sh)) → wSs ⟨fnS p (k + (d + 1) + 3), gvD p.gvs⟩ (fun cls fs _ μ' => X cls fs μ') (sd__law_kind_of_abb1.s.drop 7)
                [some (.str x), some (.int ((d + 1 : Nat) : Int)), some (.lst [.str a, .str b]), some (.lst (parts.map fun z => oD (pick d z))), none, none, y6] μ Z := by
              intro parts y6 Z hZ hpl hp
              unfold sd__law_kind_of_abb1
              simp only [Ss.drop]
              refine st ?_
              walk_at "ws"
              rw [show ((d + 1 : Nat) : Int) - 1 = (d : Int) by omega]
              refine lvS2' (show (k + 2) + d + 2 = k + (d + 1) + 3 by omega) (lflat_pick hn hfl hb2.1 (by omega) (by omega) ?_)
              have eD : (parts.map fun z => oD (pick d z)) = (parts.map (pick d)).map oD := by rw [List.map_map]; rfl
              rw [eD]
              have hos2 : ∀ q ∈ parts.map (pick d), ∀ f, q = some f → f.ok Nm ∧ f.dep ≤ d := fun q hq f e => by
                obtain ⟨z, _, rfl⟩ := List.mem_map.mp hq
                obtain ⟨p1, p2, _⟩ := pick_some e
                exact ⟨p1, p2⟩
              have hok : okS (.lst ((parts.map (pick d)).map oD)) := okS_of 60 (cmps_map fun q hq => by
                cases q with
                | none => rfl
                | some f => exact FK.cmp (U := Nm) (fun x h => h.ok) 59 (hos2 _ hq f rfl).1 (by have := (hos2 _ hq f rfl).2; omega)) (by decide)
              have hok2 : okS .non := okS_of 0 rfl (by decide)
              have eo : (parts.map (pick d)).length = parts.length := List.length_map ..
              have nn : ((parts.map (pick d)).any fun o => o.isNone) = true → ∀ K : Kd, K.ok Nm → K.Le (d + 1) → x ≠ K.sh := fun hany K ho hle e => by
                obtain ⟨ks, f, _, q2, q3, q4, q5, ew⟩ := only K ho hle e
                simp only [List.cons.injEq, and_true] at ew
                have ep := (hp ks fun q hq => (q3 q hq).1).mp ew.1
                obtain ⟨o, ho1, ho2⟩ := List.any_eq_true.mp hany
                rw [ep, List.map_map] at ho1
                obtain ⟨q, hq, rfl⟩ := List.mem_map.mp ho1
                obtain ⟨z1, z2⟩ := q3 q hq
                exact pick_none (Option.isNone_iff_eq_none.mp ho2) q z1 z2 rfl
              cases eb : pick d b with
              | none =>
                have nb : ∀ K : Kd, K.ok Nm → K.Le (d + 1) → x ≠ K.sh := fun K ho hle e => by
                  obtain ⟨ks, f, _, q2, q3, q4, q5, ew⟩ := only K ho hle e
                  simp only [List.cons.injEq, and_true] at ew
                  exact pick_none eb f q4 q5 ew.2
                simp only [oD]
                refine st ?_
                walk_at "ws o_inN inW dl_lst o_isN isNon"
                refine ⟨hok2, hok, ?_⟩
                rw [inD_oD]
                by_cases hany : ((parts.map (pick d)).any fun o => o.isNone) = true
                · rw [if_pos hany]
                  exact none_ _ _ (by exact hZ) nb
                · rw [if_neg hany]
                  exact none_ _ _ (by exact hZ) nb
              | some f =>
                obtain ⟨g1, g2, g3⟩ := pick_some eb
                obtain ⟨xs, ed⟩ := FK.d_tup f
                simp only [oD, ed]
                refine st ?_
                walk_at "ws o_inN inW dl_lst o_isN isNon"
                refine ⟨hok2, hok, ?_⟩
                rw [inD_oD]
                by_cases hany : ((parts.map (pick d)).any fun o => o.isNone) = true
                · rw [if_pos hany]
                  exact none_ _ _ (by exact hZ) (nn hany)
                · rw [if_neg hany]
                  obtain ⟨ks, eks⟩ := all_some (Bool.not_eq_true _ ▸ hany)
                  obtain ⟨ep, ek⟩ := map_pick eks
                  have el : parts.length = ks.length := by rw [ep, List.length_map]
                  by_cases h3 : (3 : Int) < (((parts.map (pick d)).map oD).length : Int)
                  · rw [if_pos h3]
                    refine none_ _ _ (by exact hZ) fun K ho hle e => ?_
                    obtain ⟨ks', f', _, q2, q3, q4, q5, ew⟩ := only K ho hle e
                    simp only [List.cons.injEq, and_true] at ew
                    have ep := congrArg List.length ((hp ks' fun q hq => (q3 q hq).1).mp ew.1)
                    simp only [List.length_map] at ep h3
                    omega
                  · rw [if_neg h3]
                    simp only [List.length_map] at h3
                    have r := hy (.calls ks f) ⟨fun q hq => (ek q hq).1, g1⟩ ⟨by omega, fun q hq => (ek q hq).2, g2⟩ (by
                      rw [ex, calls_sh', h2 rfl, (hp ks fun q hq => (ek q hq).1).mpr ep, g3])
                    refine sn (st ?_)
                    walk_at "ws"
                    rw [hZ, eks, List.map_map]
                    rw [Kd.d, ed] at r
                    exact r
            by_cases ha0 : a = Str.ofString ""
            · rw [if_neg (by rw [decide_eq_true ha0]; decide)]
              refine sn (st ?_)
              walk_at "ws"
              refine st ?_
              walk_at "ws hao"
              rw [if_neg (by rw [decide_eq_true ha0]; decide)]
              refine sn ?_
              refine tail [] _ _ rfl (by decide) fun ks hk => ⟨fun e => ?_, fun e => ?_⟩
              · cases ks with
                | nil => rfl
                | cons q qs => exact absurd (e.symm.trans ha0) called_ne
              · cases ks with
                | nil => exact ha0
                | cons q qs => cases e
            · rw [if_pos (by rw [decide_eq_false ha0])]
              refine ⟨hbig (by omega), ?_⟩
              by_cases hal : cutS a (some (-1)) none = Str.ofString " "
              · rw [if_neg (by rw [decide_eq_true hal]; decide)]
                have hca := ha.1.cut (lo := none) (hi := some (-1))
                have hcl := cut_len (x := a) (lo := none) (hi := some (-1))
                have eab := but_blank hal
                refine sn (st ?_)
                walk_at "ws"
                refine st ?_
                walk_at "ws hao"
                rw [if_pos (by rw [decide_eq_false ha0])]
                generalize hc : cutS a none (some (-1)) = c at *
                refine st ?_
                walk_at "ws hc"
                have hpl := PyProof.Rows.split_le c (Str.ofString ", ")
                have hpa : ∀ z ∈ Txt.split c (Str.ofString ", "), Asc z ∧ z.length ≤ c.length := fun z hz => split_asc hca hz
                have hpp : ∀ ks : List FK, (∀ q ∈ ks, q.ok Nm) → (a = called ks ↔ Txt.split c (Str.ofString ", ") = ks.map FK.sh) := fun ks hk => ⟨fun e => by
                  cases ks with
                  | nil => exact absurd e ha0
                  | cons q qs =>
                    rw [← hc, e, called_but]
                    exact split_called (by simp) hk, fun e => called_of (.inr ⟨c, eab, e, fun z => by
                      subst z
                      exact split_ne e⟩)⟩
                generalize Txt.split c (Str.ofString ", ") = parts at *
                refine ⟨hbig (by omega), by rw [len_lit (n := 2) rfl]; rfl, hbig (by omega), ?_⟩
                refine compF_map (ys := parts) (em := DV.str) (fun z => oD (pick d z)) trivial (by rw [List.length_nil, sizeLine_eq]; omega) (fun z hz acc kk hk1 hk2 => ?_) ?_
                · walk_at "ws wipeG"
                  rw [show ((d + 1 : Nat) : Int) - 1 = (d : Int) by omega]
                  have hz2 := hpa z hz
                  exact lvS2' (show (k + 2) + d + 2 = k + (d + 1) + 3 by omega) (lflat_pick hn hfl hz2.1 (by omega) (by omega) ⟨hk1, hk2⟩)
                · rw [List.nil_append]
                  refine sn ?_
                  exact tail parts _ _ rfl (by omega) hpp
              · rw [if_pos (by rw [decide_eq_false hal])]
                refine none_ _ _ rfl fun K ho hle e => ?_
                obtain ⟨ks, f, _, q2, q3, q4, q5, ew⟩ := only K ho hle e
                simp only [List.cons.injEq, and_true] at ew
                cases ks with
                | nil => exact ha0 ew.1
                | cons q qs => exact hal (by rw [ew.1]; exact called_lastc)
          · refine st ?_
            walk_at "ws List.length_map"
            rw [if_pos (by rw [decide_eq_false (by omega)])]
            refine none_ _ _ rfl fun K ho hle e => ?_
            obtain ⟨ks, f, _, _, _, _, _, ew⟩ := only K ho hle e
            rw [ew] at w2
            exact w2 rfl
        · rw [if_pos (by rw [decide_eq_false c2])]
          refine none_ _ _ rfl fun K ho hle e => ?_
          obtain ⟨ks, f, m, rfl, q1, q2, q3, q4, q5⟩ := Kd.only_calls ho hle e c1
          rw [e, calls_sh'] at c2
          exact c2 par_mk.2.1
      · rw [if_pos (by rw [decide_eq_false c1])]
        refine st ?_
        walk_at "ws"
        refine lvS2' (show (k + 1) + n + 2 = k + n + 3 by omega) (lflat_any hn hfl n hx (by omega) (by omega) (fun f f1 f2 e => ?_) fun h0 => ?_)
        · exact hy (.fl f) f1 (by cases n <;> exact f2) e
        · refine hno fun K ho hle e => ?_
          cases K with
          | fl f => exact h0 f ho hle.dep_le e
          | row K' =>
            have kp := K'.pos
            cases n with
            | zero => exact hle.elim
            | succ n =>
              have hle : K'.Le n := hle
              have := hle.dep_le
              have e : x = Str.ofString "[" ++ K'.sh ++ Str.ofString "]" := e
              exact hb ⟨by rw [e]; exact brk_mk.1, by rw [e]; exact brk_mk.2.1, by omega⟩
          | calls ks f =>
            rw [calls_sh'] at e
            exact c1 (by rw [e]; exact par_mk.1)
    refine st ?_
    walk_at "ws k1 k2"
    refine ⟨hbig (by omega), ?_⟩
    by_cases b1 : cutS x none (some 1) = Str.ofString "["
    · rw [if_pos b1]
      refine ⟨hbig (by omega), ?_⟩
      by_cases b2 : cutS x (some (-1)) none = Str.ofString "]"
      · rw [if_pos b2]
        by_cases b3 : (1 : Int) < (n : Int)
        · rw [if_pos b3]
          have ex := brk_of b1 b2
          have hma := hx.cut (lo := some 1) (hi := some (-1))
          have hml := cut_len (x := x) (lo := some 1) (hi := some (-1))
          refine st ?_
          walk_at "ws"
          refine ⟨hbig (by omega), ?_⟩
          generalize cutS x (some 1) (some (-1)) = m at *
          rw [show (n : Int) - 1 = ((n - 1 : Nat) : Int) by omega]
          refine lvS2' (show k + (n - 1) + 4 = k + n + 3 by omega) (lkind_any hn hfl hq (n - 1) hma (by omega) (by omega) (by omega) (fun K f1 f2 e => ?_) fun hno2 => ?_)
          · refine st ?_
            walk_at "ws o_isN"
            have r := hy (.row K) f1 (by cases n with | zero => omega | succ n => exact f2) (by rw [ex, e]; rfl)
            cases K with
            | fl f => cases f <;> exact r
            | row f => exact r
            | calls ks f => exact r
          · refine st ?_
            walk_at "ws o_isN"
            refine hno fun K f1 f2 e => ?_
            obtain ⟨K', q1, q2, q3, q4, q5⟩ := kd_row f1 f2 (by rw [← e]; exact b1)
            rw [q5] at e
            have em : m = K'.sh := by rw [← (brk_mk (m := m)).2.2, ← ex, e, brk_mk.2.2]
            exact hno2 K' q1 q3 em
        · rw [if_neg b3]
          refine sn ?_
          exact rest fun z => b3 (by omega)
      · rw [if_neg b2]
        refine sn ?_
        exact rest fun z => b2 z.2.1
    · rw [if_neg b1]
      refine sn ?_
      exact rest fun z => b1 z.1
termination_by n => n
decreasing_by omega
end Sr

set_option Elab.async false
set_option linter.all false
set_option maxRecDepth 100000
set_option autoImplicit false
/-! Kinds: alike, weaker. -/
namespace Sr
open PySem PySem.Spec PyProof.Rows L2

theorem FK.al : ∀ (n : Nat) {k : FK}, k.ok Nm → k.dep ≤ n → Al n k.d
  | 0, k, _, h => by have := k.pos; omega
  | n + 1, num, _, _ => .tup (fun x hx => by rw [List.mem_singleton] at hx; subst hx; exact .str strOk_lit) (by decide)
  | n + 1, text, _, _ => .tup (fun x hx => by rw [List.mem_singleton] at hx; subst hx; exact .str strOk_lit) (by decide)
  | n + 1, of x, h, _ => .tup (fun y hy => by
      simp only [List.mem_cons, List.not_mem_nil, or_false] at hy
      rcases hy with rfl | rfl
      · exact .str strOk_lit
      · exact .str (show Nm x from h).ok) (by simp)
  | n + 1, row k, h, hd => .tup (fun y hy => by
      simp only [List.mem_cons, List.not_mem_nil, or_false] at hy
      rcases hy with rfl | rfl
      · exact .str strOk_lit
      · exact FK.al n (k := k) h (by have hd : k.dep + 1 ≤ n + 1 := hd; omega)) (by simp)
theorem Kd.al : ∀ (n : Nat) {k : Kd} {m : Nat}, k.ok Nm → k.Le m → m + 1 ≤ n → Al n k.d
  | n, fl k, m, h, hl, hd => FK.al n h (by have := Kd.Le.dep_le (k := .fl k) hl; have this : k.dep ≤ m := this; omega)
  | n, row k, 0, h, hl, hd => hl.elim
  | n, calls ks k, 0, h, hl, hd => hl.elim
  | n + 1, row k, m + 1, h, hl, hd => .tup (fun y hy => by
      simp only [List.mem_cons, List.not_mem_nil, or_false] at hy
      rcases hy with rfl | rfl
      · exact .str strOk_lit
      · exact Kd.al n (k := k) (m := m) h hl (by omega)) (by simp)
  | n + 2, calls ks k, m + 1, ⟨h1, h2⟩, ⟨l1, l2, l3⟩, hd => .tup (fun y hy => by
      simp only [List.mem_cons, List.not_mem_nil, or_false] at hy
      rcases hy with rfl | rfl | rfl
      · exact .str strOk_lit
      · exact .tup (fun z hz => by
          obtain ⟨f, hf, rfl⟩ := List.mem_map.mp hz
          exact FK.al n (h1 f hf) (by have := l2 f hf; omega)) (by rw [List.length_map]; omega)
      · exact FK.al (n + 1) h2 (by omega)) (by simp)
  | 0, row k, m + 1, h, hl, hd => by omega
  | 0, calls ks k, m + 1, h, hl, hd => by omega
  | 1, calls ks k, m + 1, h, hl, hd => by omega
theorem FK.ok_mono {U V : Str → Prop} (h : ∀ x, U x → V x) : ∀ {k : FK}, k.ok U → k.ok V
  | num, _ => trivial
  | text, _ => trivial
  | of x, q => h x q
  | row k, q => FK.ok_mono h (k := k) q
theorem Kd.ok_mono {U V : Str → Prop} (h : ∀ x, U x → V x) : ∀ {k : Kd}, k.ok U → k.ok V
  | fl k, q => FK.ok_mono h (k := k) q
  | row k, q => Kd.ok_mono h (k := k) q
  | calls ks k, ⟨q1, q2⟩ => ⟨fun f hf => FK.ok_mono h (q1 f hf), FK.ok_mono h q2⟩
theorem Kd.Le.mono : ∀ {n m : Nat} {k : Kd}, n ≤ m → k.Le n → k.Le m
  | 0, 0, k, _, h => h
  | n + 1, 0, k, hn, _ => by omega
  | 0, m + 1, fl k, _, h => by have h : k.dep ≤ 0 := h; show k.dep ≤ m + 1; omega
  | 0, m + 1, row k, _, h => h.elim
  | 0, m + 1, calls ks k, _, h => h.elim
  | n + 1, m + 1, fl k, hn, h => by have h : k.dep ≤ n + 1 := h; show k.dep ≤ m + 1; omega
  | n + 1, m + 1, row k, hn, h => Kd.Le.mono (n := n) (m := m) (k := k) (by omega) h
  | n + 1, m + 1, calls ks k, hn, ⟨h1, h2, h3⟩ => ⟨h1, fun f hf => by have := h2 f hf; omega, by omega⟩
end Sr

set_option Elab.async false
set_option linter.all false
set_option maxRecDepth 100000
set_option autoImplicit false
/-! k61: the law itself. -/
namespace Sr
open PySem PySem.Spec PyProof.Rows L2
def sd__law_odd_e3e3 : SD := ⟨["_law_tray_here", "_law_some"], ["_law_tray_here"],
  (.cons (.asg (.var 1) (.lst false (.cons (.str "") (.cons (.str " ") (.cons (.str "num ") (.cons (.str " num") (.cons (.str "[num") (.cons (.str "num]") (.cons (.str "[]") (.cons (.str "[ num]") (.cons (.str "()") (.cons (.str "(num)") (.cons (.str "(->)") (.cons (.str "(-> )") (.cons (.str "( -> num)") .nil)))))))))))))))
  (.cons (.asg (.var 1) (.op (.add false) (.var 1) (.lst false (.cons (.str "(-> num") (.cons (.str "(num -> num)") (.cons (.str "(num-> num)") (.cons (.str "(num ->num)") (.cons (.str "(num, -> num)") (.cons (.str "(num,num -> num)") .nil)))))))))
  (.cons (.asg (.var 1) (.op (.add false) (.var 1) (.lst false (.cons (.str "(num  -> num)") .nil))))
  (.cons (.asg (.var 1) (.op (.add false) (.var 1) (.lst false (.cons (.str "(num -> num -> num)") (.cons (.str "(num, num, num, num -> a)") (.cons (.str "((-> num) -> num)") (.cons (.str "(-> (-> num))") .nil)))))))
  (.cons (.asg (.var 1) (.op (.add false) (.var 1) (.lst false (.cons (.str "[(-> [num])]") (.cons (.str "[[[[num]]]]") (.cons (.str "[[[[[num]]]]]") (.cons (.str "[[[(-> num)]]]") (.cons (.str "[[[[(-> num)]]]]") .nil))))))))
  (.cons (.asg (.var 1) (.op (.add false) (.var 1) (.lst false (.cons (.str "[[(-> [[num]])]]") .nil))))
  (.cons (.ret (.op .ix (.var 1) (.call "_law_draw" (.cons (.var 0) (.cons (.bf .len (.cons (.var 1) .nil)) .nil))))) .nil)))))))⟩
def sd_law_920e : SD := ⟨["_law_script", "_law_tray_here", "_law_names_here", "_law_k", "_law_spoils", "_law_odd_here", "_law_text", "_law_due", "_law_found", "_law_refused", "e", "_law_j"], ["_law_script"],
  (.cons (.asg (.var 1) (.call "_law_tray" (.cons (.var 0) .nil)))
  (.cons (.asg (.var 2) (.call "_law_names" (.cons (.var 1) (.cons (.call "_law_draw" (.cons (.var 1) (.cons (.int 5) .nil))) (.cons (.lst false .nil) .nil)))))
  (.cons (.for_ (.var 3) (.rng1 (.op (.add false) (.int 3) (.bf .len (.cons (.sl false (.var 0) .no (.int 16)) .nil)))) (.cons (.asg (.var 4) (.call "_law_draw" (.cons (.var 1) (.cons (.int 4) .nil)))) (.cons (.asg (.var 5) (.call "_law_draw" (.cons (.var 1) (.cons (.int 8) .nil)))) (.cons (.asg (.var 6) (.call "_law_odd" (.cons (.var 1) .nil))) (.cons (.ite (.cmp .lt (.var 5) (.int 7)) (.cons (.asg (.var 6) (.call "_law_shown" (.cons (.call "_law_kind" (.cons (.var 1) (.cons (.var 2) (.cons (.op (.add false) (.int 1) (.call "_law_draw" (.cons (.var 1) (.cons (.int 5) .nil)))) .nil)))) .nil))) (.cons (.for_ (.var 11) (.rng1 (.var 4)) (.cons (.asg (.var 6) (.call "_law_spoilt" (.cons (.var 1) (.cons (.var 6) .nil)))) .nil)) .nil)) .nil) (.cons (.asg (.var 7) (.call "_law_kind_of" (.cons (.var 6) (.cons (.int 5) .nil)))) (.cons (.asg (.var 8) .non) (.cons (.asg (.var 9) (.lst false .nil)) (.cons (.try_ (.cons (.asg (.var 8) (.call "read_kind" (.cons (.var 6) .nil))) .nil) "NoText" (some 10) (.asgL 9 [(.fld "what"), (.isa [.own "StillError"] false [("NoText", true)]), (.isa [.blt "ValueError"] false [("NoText", true)]), (.isa [.own "Breaks", .own "Holds", .own "NoBridge", .own "NoEdition", .own "NoKind", .own "NoName", .own "NoRow", .own "TooGreat"] true [("NoText", false)])]) [("NoText", true)]) (.cons (.ite (.and_ (.cmp .isN (.var 7) .non) (.not_ (.e (.call "_law_alike" (.cons (.var 9) (.cons (.lst false (.cons (.var 6) (.cons (.bl true) (.cons (.bl true) (.cons (.bl false) .nil))))) .nil)))))) (.cons (.ret (.bl false)) .nil) .nil) (.cons (.ite (.and_ (.cmp .notN (.var 7) .non) (.or_ (.cmp .ne (.var 9) (.lst false .nil)) (.not_ (.e (.call "_law_alike" (.cons (.var 8) (.cons (.var 7) .nil))))))) (.cons (.ret (.bl false)) .nil) .nil) .nil)))))))))))
  (.cons (.ret (.bl true)) .nil))))⟩
theorem map_sh_inj : ∀ {ks ls : List FK}, (∀ q ∈ ks, q.ok Nm) → (∀ q ∈ ls, q.ok Nm) → ks.map FK.sh = ls.map FK.sh → ks = ls
  | [], [], _, _, _ => rfl
  | k :: ks, l :: ls, h1, h2, e => by
    rw [List.map_cons, List.map_cons] at e
    obtain ⟨e1, e2⟩ := List.cons.inj e
    rw [FK.sh_inj (h1 k List.mem_cons_self) (h2 l List.mem_cons_self) e1, map_sh_inj (fun q hq => h1 q (List.mem_cons_of_mem _ hq)) (fun q hq => h2 q (List.mem_cons_of_mem _ hq)) e2]
/-- kinds of one text are one -/
theorem Kd.d_sh : ∀ (n : Nat) {K L : Kd}, K.ok Nm → K.Le n → L.ok Nm → L.Le n → K.sh = L.sh → K.d = L.d
  | n, K, L, k1, k2, l1, l2, e => by
    by_cases b1 : cutS K.sh none (some 1) = Str.ofString "["
    · obtain ⟨K', q1, q2, q3, q4, q5⟩ := kd_row k1 k2 b1
      obtain ⟨L', r1, r2, r3, r4, r5⟩ := kd_row l1 l2 (by rw [← e]; exact b1)
      have em : K'.sh = L'.sh := by rw [← (brk_mk (m := K'.sh)).2.2, ← q5, e, r5, brk_mk.2.2]
      rw [q4, r4, Kd.d_sh (n - 1) q1 q3 r1 r3 em]
    · by_cases c1 : cutS K.sh none (some 1) = Str.ofString "("
      · obtain ⟨ks, f, m, rfl, _, p2, p3, p4, p5⟩ := Kd.only_calls k1 k2 rfl c1
        obtain ⟨ls, g, m', rfl, _, o2, o3, o4, o5⟩ := Kd.only_calls l1 l2 rfl (by rw [← e]; exact c1)
        rw [calls_sh', calls_sh'] at e
        have em : called ks ++ Str.ofString "-> " ++ f.sh = called ls ++ Str.ofString "-> " ++ g.sh := by rw [← (par_mk (m := called ks ++ Str.ofString "-> " ++ f.sh)).2.2, e, par_mk.2.2]
        have es := split_calls (fun q hq => (p3 q hq).1) p4
        rw [em, split_calls (fun q hq => (o3 q hq).1) o4] at es
        simp only [List.cons.injEq, and_true] at es
        have ef := FK.sh_inj o4 p4 es.2
        have ek : ks = ls := by
          have ec := es.1
          cases ks with
          | nil =>
            cases ls with
            | nil => rfl
            | cons l ls => exact absurd ec called_ne
          | cons k ks =>
            cases ls with
            | nil => exact absurd ec.symm called_ne
            | cons l ls =>
              have ec := congrArg (fun z => cutS z none (some (-1))) ec
              simp only [called_but] at ec
              have e2 := congrArg (fun z => Txt.split z (Str.ofString ", ")) ec
              rw [split_called (by simp) fun q hq => (o3 q hq).1, split_called (by simp) fun q hq => (p3 q hq).1] at e2
              exact (map_sh_inj (fun q hq => (o3 q hq).1) (fun q hq => (p3 q hq).1) e2).symm
        rw [ek, ef]
      · cases K with
        | row K' => exact absurd (brk_mk (m := K'.sh)).1 b1
        | calls ks f => exact absurd (by rw [calls_sh']; exact par_mk.1) c1
        | fl f =>
          cases L with
          | row L' => exact absurd (by rw [e]; exact (brk_mk (m := L'.sh)).1) b1
          | calls ls g => exact absurd (by rw [e, calls_sh']; exact par_mk.1) c1
          | fl g =>
            have : f = g := FK.sh_inj k1 l1 e
            rw [this]
termination_by n => n
decreasing_by omega
theorem Al.two {n : Nat} {x : Str} (hx : Asc x) : Al (n + 1) (.lst [.str x, .bl true, .bl true, .bl false]) := .lst (fun y hy => by
  simp only [List.mem_cons, List.not_mem_nil, or_false] at hy
  rcases hy with rfl | rfl | rfl | rfl
  · exact .str hx.ok
  · exact .bl
  · exact .bl
  · exact .bl) (by simp)
theorem tail_ok {p : Pgm} {μ : Mu} {x : Str} {XX : XD} {x0 x1 x2 x3 x4 x5 x7 x8 x9 x11 : Option DV} {Z : DEnds} (hal : Has p "_law_alike" sd__law_alike_e374)
    (hln : Has p "_law_is_name" sd__law_is_name_ac37) (hlf : Has p "_law_flat_of" sd__law_flat_of_ca67) (hlk : Has p "_law_kind_of" sd__law_kind_of_abb1)
    (hi : Has p "is_name" sd_is_name_9ba6) (hfl : Has p "flat_in" sd_flat_in_f98e) (hci : Has p "calls_in" sd_calls_in_5685) (hki : Has p "kind_in" sd_kind_in_36ed) (hsh : Has p "show_kind" sd_show_kind_641d) (hrd : Has p "read_kind" sd_read_kind_26cf)
    (hL : gvD p.gvs "LETTERS" = .str "abcdefghijklmnopqrstuvwxyz") (hM : gvD p.gvs "MOST_LETTERS" = .int 8) (hC : gvD p.gvs "MOST_CALLED" = .int 3) (hR : gvD p.gvs "MOST_READ_DEEP" = .int 5)
    (hx : Asc x) (hl : x.length ≤ 7000) (h : ∀ μ' y7 y8 y9, Grow μ μ' → Z.nx [x0, x1, x2, x3, x4, x5, some (.str x), y7, y8, y9, none, x11] μ') :
    wSs ⟨fnS p 99, gvD p.gvs⟩ XX ((match sd_law_920e.s with | .cons _ (.cons _ (.cons (.for_ _ _ b) _)) => b | _ => .nil).drop 4) [x0, x1, x2, x3, x4, x5, some (.str x), x7, x8, x9, none, x11] μ Z := by
  unfold sd_law_920e
  simp only [Ss.drop]
  refine st ?_
  walk_at "ws"
  refine lkind_any (k := 90) hln hlf hlk 5 hx (by omega) (by decide) (by decide) (fun K k1 k2 e => ?_) fun hno => ?_
  · refine st ?_
    walk_at "ws"
    refine st ?_
    walk_at "ws"
    refine st ?_
    walk_at "ws"
    refine st ?_
    walk_at "ws"
    refine read_any (k := 89) hi hfl hci hki hsh hrd hL hM hC hR hx hl (fun K' μ' q1 q2 e2 g => ?_) fun μ' hno g => ?_
    · rw [Kd.d_sh 5 q1 q2 k1 k2 (by rw [← e, ← e2])]
      have hA : Al 6 K.d := Kd.al 6 k1 k2 (by decide)
      obtain ⟨xs, ed⟩ : ∃ xs, K.d = .tup xs := by
        cases K with
        | fl f => exact FK.d_tup f
        | row K => exact ⟨_, rfl⟩
        | calls ks f => exact ⟨_, rfl⟩
      rw [ed] at hA ⊢
      refine sn (st ?_)
      walk_at "ws o_isN isNon"
      refine sn (st ?_)
      walk_at "ws o_notN isNon dl_lst"
      refine ⟨okD_nil, okD_nil, ?_⟩
      refine alike_ok (k := 92) hal 6 hA ?_
      walk_at "ws"
      with_reducible refine sn ?_
      with_reducible refine sn ?_
      exact h _ _ _ _ g
    · exact absurd e (hno K k1 k2)
  · refine st ?_
    walk_at "ws"
    refine st ?_
    walk_at "ws"
    refine st ?_
    walk_at "ws"
    refine st ?_
    walk_at "ws"
    refine read_any (k := 89) hi hfl hci hki hsh hrd hL hM hC hR hx hl (fun K' μ' q1 q2 e2 g => ?_) fun μ' _ g => ?_
    · exact absurd e2 (hno K' q1 q2)
    · refine ⟨true, List.lookup_cons_self, ?_⟩
      rw [if_pos rfl]
      refine ⟨by simp, [.str x, .bl true, .bl true, .bl false], by simp only [xds, XE1.d, List.lookup_cons_self]; rfl, ?_⟩
      show wSs _ _ _ [x0, x1, x2, x3, x4, x5, some (.str x), some .non, some .non, some (.lst [.str x, .bl true, .bl true, .bl false]), none, x11] μ' _
      have hA : Al 6 (.lst [.str x, .bl true, .bl true, .bl false]) := Al.two hx
      refine st ?_
      walk_at "ws o_isN isNon"
      refine alike_ok (k := 92) hal 6 hA ?_
      walk_at "ws"
      refine sn (st ?_)
      walk_at "ws o_notN isNon"
      with_reducible refine sn ?_
      with_reducible refine sn ?_
      exact h _ _ _ _ g
theorem atI_mem {α : Type} {L : List α} {v : Int} (h0 : 0 ≤ v) (h1 : v < (L.length : Int)) : ∃ x ∈ L, atI L v = some x := by
  obtain ⟨m, rfl⟩ := Int.eq_ofNat_of_zero_le h0
  have hm : m < L.length := by omega
  exact ⟨L[m], List.getElem_mem hm, by rw [atI_lit, List.getElem?_eq_getElem hm]⟩
theorem odd_ok {p : Pgm} {k n : Nat} {μ : Mu} {r g : Addr} {P : DV → Mu → Prop} {X : XP} (hd : Has p "_law_draw" sd__law_draw_d94d) (hq : Has p "_law_odd" sd__law_odd_e3e3) (D : Tray n μ r g) (hn : n < 2 ^ 59)
    (h : ∀ y μ', Asc y → y.length ≤ 60 → Tray (n + 1) μ' r g → P (.str y) μ') : fnS p (k + 2) "_law_odd" [.ref r] μ P X := by
  refine fn_in hq rfl ?_
  show wSs ⟨fnS p (k + 1), gvD p.gvs⟩ _ sd__law_odd_e3e3.s [some (.ref r), none] μ _
  unfold sd__law_odd_e3e3
  refine st ?_
  walk_at "ws"
  refine st ?_
  walk_at "ws"
  refine ⟨line_100 (by decide), ?_⟩
  refine st ?_
  walk_at "ws"
  refine ⟨line_100 (by decide), ?_⟩
  refine st ?_
  walk_at "ws"
  refine ⟨line_100 (by decide), ?_⟩
  refine st ?_
  walk_at "ws"
  refine ⟨line_100 (by decide), ?_⟩
  refine st ?_
  walk_at "ws"
  refine ⟨line_100 (by decide), ?_⟩
  refine st ?_
  walk_at "ws"
  refine draw_ok hd D (by decide) (by decide) (by omega) fun v μ1 v0 v1 D1 o1 => ?_
  rw [o_ixL]
  obtain ⟨d, hd2, ed⟩ := atI_mem (L := [DV.str (Str.ofString ""), DV.str (Str.ofString " "), DV.str (Str.ofString "num "),
            DV.str (Str.ofString " num"), DV.str (Str.ofString "[num"), DV.str (Str.ofString "num]"),
            DV.str (Str.ofString "[]"), DV.str (Str.ofString "[ num]"), DV.str (Str.ofString "()"),
            DV.str (Str.ofString "(num)"), DV.str (Str.ofString "(->)"), DV.str (Str.ofString "(-> )"),
            DV.str (Str.ofString "( -> num)"), DV.str (Str.ofString "(-> num"), DV.str (Str.ofString "(num -> num)"),
            DV.str (Str.ofString "(num-> num)"), DV.str (Str.ofString "(num ->num)"),
            DV.str (Str.ofString "(num, -> num)"), DV.str (Str.ofString "(num,num -> num)"),
            DV.str (Str.ofString "(num  -> num)"), DV.str (Str.ofString "(num -> num -> num)"),
            DV.str (Str.ofString "(num, num, num, num -> a)"), DV.str (Str.ofString "((-> num) -> num)"),
            DV.str (Str.ofString "(-> (-> num))"), DV.str (Str.ofString "[(-> [num])]"),
            DV.str (Str.ofString "[[[[num]]]]"), DV.str (Str.ofString "[[[[[num]]]]]"),
            DV.str (Str.ofString "[[[(-> num)]]]"), DV.str (Str.ofString "[[[[(-> num)]]]]"),
            DV.str (Str.ofString "[[(-> [[num]])]]")]) v0 v1
  refine ⟨d, ed, ?_⟩
  obtain ⟨y, rfl, y1, y2⟩ : ∃ y, d = .str y ∧ Asc y ∧ y.length ≤ 60 := by
    clear ed
    revert d
    simp only [List.mem_cons, List.not_mem_nil, or_false, forall_eq_or_imp, forall_eq]
    repeat' (first | refine ⟨⟨_, rfl, .lit (by decide), by rw [lit_length]; decide⟩, ?_⟩ | exact ⟨_, rfl, .lit (by decide), by rw [lit_length]; decide⟩)
  exact h _ _ y1 y2 D1
theorem law_main {p : Pgm} {ns : List Int} (ht : Has p "_law_tray" sd__law_tray_2e3b) (hd : Has p "_law_draw" sd__law_draw_d94d) (hn : Has p "_law_name" sd__law_name_f722) (hns : Has p "_law_names" sd__law_names_a1c3) (hf : Has p "_law_flat_kind" sd__law_flat_kind_2ebf) (hk : Has p "_law_kind" sd__law_kind_02d3)
    (hal : Has p "_law_alike" sd__law_alike_e374) (hls : Has p "_law_shown" sd__law_shown_850e)
    (hsg : Has p "_law_sign" sd__law_sign_ce7f) (hss : Has p "_law_sign_spoilt" sd__law_sign_spoilt_60ba) (hsp : Has p "_law_spoilt" sd__law_spoilt_8584) (hod : Has p "_law_odd" sd__law_odd_e3e3)
    (hln : Has p "_law_is_name" sd__law_is_name_ac37) (hlf : Has p "_law_flat_of" sd__law_flat_of_ca67) (hlk : Has p "_law_kind_of" sd__law_kind_of_abb1)
    (hi : Has p "is_name" sd_is_name_9ba6) (hfl : Has p "flat_in" sd_flat_in_f98e) (hci : Has p "calls_in" sd_calls_in_5685) (hki : Has p "kind_in" sd_kind_in_36ed) (hsh : Has p "show_kind" sd_show_kind_641d) (hrd : Has p "read_kind" sd_read_kind_26cf)
    (hL : gvD p.gvs "LETTERS" = .str "abcdefghijklmnopqrstuvwxyz") (hM : gvD p.gvs "MOST_LETTERS" = .int 8) (hC : gvD p.gvs "MOST_CALLED" = .int 3) (hR : gvD p.gvs "MOST_READ_DEEP" = .int 5)
    (hq : Has p "law" sd_law_920e) (hl : ns.length ≤ 63) : fnS p 100 "law" [.rol (ns.map DV.int)] (fun _ => none) (fun d _ => d = .bl true) fun _ _ _ => False := by
  refine fn_in hq rfl ?_
  show wSs ⟨fnS p 99, gvD p.gvs⟩ _ sd_law_920e.s [some (.rol (ns.map DV.int)), none, none, none, none, none, none, none, none, none, none, none] _ _
  unfold sd_law_920e
  refine st ?_
  walk_at "ws"
  refine tray_ok ht hl fun r g μ1 D1 _ _ o1 => ?_
  refine st ?_
  walk_at "ws"
  refine draw_ok hd D1 (by decide) (by decide) (by decide) fun m μ2 m0 m1 D2 o2 => ?_
  obtain ⟨mm, rfl⟩ := Int.eq_ofNat_of_zero_le m0
  refine names_ok (used := []) hd hn hns D2 (by omega) (by simp) (by simp; omega) fun used μ3 hu _ _ hlen D3 o3 => ?_
  have e16 : cutD (ns.map DV.int) none (some 16) = (ns.take 16).map DV.int := cut_take (i := 16)
  refine st ?_
  walk_at "ws e16 List.length_map"
  have htk : (ns.take 16).length ≤ 16 := by rw [List.length_take]; omega
  refine ⟨by constructor <;> omega, ?_⟩
  refine forF_by (fun rest γ μ' => ∃ (x3 x4 x5 x6 x7 x8 x9 x11 : Option DV), γ = [some (.rol (ns.map DV.int)), some (.ref r), some (.lst (used.map DV.str)), x3, x4, x5, x6, x7, x8, x9, none, x11] ∧ rest.length ≤ 19 ∧ Tray (200 + 100 * (20 - rest.length)) μ' r g) (fun _ _ _ _ => trivial) ?_ ?_ _
    ⟨none, none, none, none, none, none, none, none, rfl, by rw [rngD_length]; omega, D3.mono (by omega)⟩
  · rintro d ds γ μ' N ⟨x3, x4, x5, x6, x7, x8, x9, x11, rfl, hlen2, T⟩ nxt
    rw [List.length_cons] at hlen2 T
    have lt : ds.length ≤ 18 := by omega
    refine st ?_
    walk_at "ws"
    refine draw_ok hd T (by decide) (by decide) (by omega) fun v μ4 v0 v1 D4 o4 => ?_
    obtain ⟨vv, rfl⟩ := Int.eq_ofNat_of_zero_le v0
    refine st ?_
    walk_at "ws"
    refine draw_ok hd D4 (by decide) (by decide) (by omega) fun w μ5 w0 w1 D5 o5 => ?_
    refine st ?_
    walk_at "ws"
    refine odd_ok hd hod D5 (by omega) fun y μ6 hy hyl D6 => ?_
    refine st ?_
    walk_at "ws"
    by_cases hw : w < 7
    · rw [if_pos hw]
      refine st ?_
      walk_at "ws"
      refine draw_ok hd D6 (by decide) (by decide) (by omega) fun u μ7 u0 u1 D7 o7 => ?_
      obtain ⟨dd, rfl⟩ := Int.eq_ofNat_of_zero_le u0
      rw [o_addI, show (1 : Int) + (dd : Int) = ((dd + 1 : Nat) : Int) by omega]
      have hdd : dd ≤ 4 := by omega
      refine lvS (show (96 - dd) + dd + 3 = 99 by omega) (kind_ok hd hf hk hu (by omega) dd _ D7 (by omega) fun K μ8 hK0 hLe0 D8 o8 => ?_)
      have hK : K.ok Nm := Kd.ok_mono hu hK0
      have hLe : K.Le 5 := Kd.Le.mono (by omega) hLe0
      have hdp2 := hLe.dep_le
      have hsl := Kd.sh_len hK hLe
      refine lvS (show (99 - K.dep) + K.dep = 99 by omega) (lshKb_ok hls K (n := 5) hK hLe (by decide) ?_)
      refine st ?_
      walk_at "ws"
      refine ⟨by constructor <;> omega, ?_⟩
      refine forF_by (fun rest γ μ' => ∃ (x : Str) (y11 : Option DV), γ = [some (.rol (ns.map DV.int)), some (.ref r), some (.lst (used.map DV.str)), some d, some (.int (vv : Int)), some (.int w), some (.str x), x7, x8, x9, none, y11] ∧ rest.length ≤ 3 ∧ Asc x ∧ (x.length ≤ 90 ∨ rest.length ≤ 2 ∧ x.length ≤ 880 ∨ rest.length ≤ 1 ∧ x.length ≤ 2460 ∨ rest.length = 0 ∧ x.length ≤ 5620) ∧ Tray (200 + 100 * (20 - (ds.length + 1)) + 60 + 5 * (3 - rest.length)) μ' r g) (fun _ _ _ _ => trivial) ?_ ?_ _
        ⟨K.sh, x11, rfl, by rw [rngD_length]; omega, Kd.sh_asc hK, .inl (by omega), D8.mono (by omega)⟩
      · rintro e es γ μ9 N2 ⟨x, y11, rfl, hr3, hx, hxl, T9⟩ nxt2
        rw [List.length_cons] at hr3 hxl T9
        refine st ?_
        walk_at "ws"
        refine spoilt_ok (k := 95) hd hsg hss hsp T9 (by omega) hx (by omega) fun z μ10 hz hzl T10 => ?_
        with_reducible refine sn ?_
        exact nxt2 _ _ ⟨z, _, rfl, by omega, hz, by omega, T10.mono (by omega)⟩
      · rintro γ μ9 ⟨x, y11, rfl, hr3, hx, hxl, T9⟩
        with_reducible refine sn ?_
        show wSs _ _ _ _ _ _
        refine tail_ok hal hln hlf hlk hi hfl hci hki hsh hrd hL hM hC hR hx (by omega) fun μ7 y7 y8 y9 g7 => ?_
        exact nxt _ _ ⟨_, _, _, _, _, _, _, _, rfl, by omega, (T9.grow g7).mono (by omega)⟩
    · rw [if_neg hw]
      refine sn ?_
      show wSs _ _ _ _ _ _
      refine tail_ok hal hln hlf hlk hi hfl hci hki hsh hrd hL hM hC hR hy (by omega) fun μ7 y7 y8 y9 g7 => ?_
      exact nxt _ _ ⟨_, _, _, _, _, _, _, _, rfl, by omega, (D6.grow g7).mono (by omega)⟩
  · rintro γ μ' ⟨x3, x4, x5, x6, x7, x8, x9, x11, rfl, _, T⟩
    walk_at "wgo"
end Sr

set_option Elab.async false
set_option linter.all false
set_option maxRecDepth 100000
set_option autoImplicit false
namespace Sr
open PySem PySem.Spec PyProof.Rows L2
def pg : Pgm := ⟨[("is_name", sd_is_name_9ba6), ("show_kind", sd_show_kind_641d), ("flat_in", sd_flat_in_f98e), ("calls_in", sd_calls_in_5685), ("kind_in", sd_kind_in_36ed), ("read_kind", sd_read_kind_26cf), ("_law_tray", sd__law_tray_2e3b), ("_law_draw", sd__law_draw_d94d), ("_law_alike", sd__law_alike_e374), ("_law_name", sd__law_name_f722), ("_law_names", sd__law_names_a1c3), ("_law_flat_kind", sd__law_flat_kind_2ebf), ("_law_kind", sd__law_kind_02d3), ("_law_shown", sd__law_shown_850e), ("_law_sign", sd__law_sign_ce7f), ("_law_sign_spoilt", sd__law_sign_spoilt_60ba), ("_law_is_name", sd__law_is_name_ac37), ("_law_flat_of", sd__law_flat_of_ca67), ("_law_kind_of", sd__law_kind_of_abb1), ("_law_spoilt", sd__law_spoilt_8584), ("_law_odd", sd__law_odd_e3e3), ("law", sd_law_920e)],
  [("LETTERS", .str "abcdefghijklmnopqrstuvwxyz"), ("MOST_LETTERS", .int 8), ("MOST_CALLED", .int 3), ("MOST_READ_DEEP", .int 5)]⟩
theorem law_ok : ∀ ns : List Int, ns.length ≤ 63 → (∀ z ∈ ns, Builtin.Int.intBits z ≤ 1048576) → fnS pg 100 "law" [.rol (ns.map DV.int)] (fun _ => none) (fun d _ => d = .bl true) fun _ _ _ => False := by
  intro ns hl hb
  apply law_main <;> first | assumption | rfl | (constructor <;> rfl) | (repeat (first | rfl | constructor)) | decide +kernel
end Sr

set_option Elab.async false
set_option linter.all false
set_option maxRecDepth 100000
set_option autoImplicit false
set_option maxHeartbeats 0
namespace Sr
open PySem PySem.Spec PyProof.Rows L2
def topS (i : Nat) : Stmt := PySem.Challenge.pw_stillruns_k61_texts_of_no_kind.main.body.getD i (.Pass ⟨0, 0, 0, 0⟩)
def mthS (i j : Nat) : Stmt := match topS i with
  | .ClassDef _ _ _ b _ _ _ _ _ _ _ => b.getD j (.Pass ⟨0, 0, 0, 0⟩)
  | s => s
def pJ : Lk where
  fns := [("is_name", 1), ("show_kind", 1), ("flat_in", 2), ("calls_in", 2), ("kind_in", 1), ("read_kind", 1), ("_law_tray", 1), ("_law_draw", 2), ("_law_alike", 2), ("_law_name", 2), ("_law_names", 3), ("_law_flat_kind", 3), ("_law_kind", 3), ("_law_shown", 1), ("_law_sign", 1), ("_law_sign_spoilt", 2), ("_law_is_name", 1), ("_law_flat_of", 2), ("_law_kind_of", 2), ("_law_spoilt", 2), ("_law_odd", 1), ("law", 1)]
  kfs := []
  blt := ["all", "bool", "int", "isinstance", "len", "list", "max", "min", "range", "str", "tuple"]
  clsf := []
  mths := []
  mks := []
  mkks := []
  own := []
  kwo := []
  exs := [("NoText", ["what"])]
  exm := [("NoText", "NoText", true)]
  isa := [("NoText", .own "StillError", true), ("NoText", .blt "ValueError", true), ("NoText", .own "Breaks", false), ("NoText", .own "Holds", false), ("NoText", .own "NoBridge", false), ("NoText", .own "NoEdition", false), ("NoText", .own "NoKind", false), ("NoText", .own "NoName", false), ("NoText", .own "NoRow", false), ("NoText", .own "TooGreat", false)]
def xr_NoText : He.DefD := ⟨("NoText", some "__init__"), "__init__", "NoText.__init__", defArgs (mthS 7 0), defBody (mthS 7 0), defScope (mthS 7 0), [], []⟩
def r_is_name : RowE := ⟨"is_name", "is_name", sd_is_name_9ba6, defArgs (topS 15), defBody (topS 15), defScope (topS 15), []⟩
theorem g_is_name : r_is_name.Good pg pJ :=
  ⟨⟨rfl, rfl, rfl, by decide +kernel, rfl, by decide +kernel, by decide +kernel⟩, by decide +kernel, fun _ _ _ _ _ _ _ us hl => match us, hl with | [_], _ => rfl,
  trivial,
  trivial,
  trivial⟩
def r_show_kind : RowE := ⟨"show_kind", "show_kind", sd_show_kind_641d, defArgs (topS 17), defBody (topS 17), defScope (topS 17), []⟩
theorem g_show_kind : r_show_kind.Good pg pJ :=
  ⟨⟨rfl, rfl, rfl, by decide +kernel, rfl, by decide +kernel, by decide +kernel⟩, by decide +kernel, fun _ _ _ _ _ _ _ us hl => match us, hl with | [_], _ => rfl,
  trivial,
  trivial,
  trivial⟩
def r_flat_in : RowE := ⟨"flat_in", "flat_in", sd_flat_in_f98e, defArgs (topS 20), defBody (topS 20), defScope (topS 20), []⟩
theorem g_flat_in : r_flat_in.Good pg pJ :=
  ⟨⟨rfl, rfl, rfl, by decide +kernel, rfl, by decide +kernel, by decide +kernel⟩, by decide +kernel, fun _ _ _ _ _ _ _ us hl => match us, hl with | [_, _], _ => rfl,
  trivial,
  trivial,
  trivial⟩
def r_calls_in : RowE := ⟨"calls_in", "calls_in", sd_calls_in_5685, defArgs (topS 21), defBody (topS 21), defScope (topS 21), []⟩
theorem g_calls_in : r_calls_in.Good pg pJ :=
  ⟨⟨rfl, rfl, rfl, by decide +kernel, rfl, by decide +kernel, by decide +kernel⟩, by decide +kernel, fun _ _ _ _ _ _ _ us hl => match us, hl with | [_, _], _ => rfl,
  trivial,
  trivial,
  trivial⟩
def r_kind_in : RowE := ⟨"kind_in", "kind_in", sd_kind_in_36ed, defArgs (topS 22), defBody (topS 22), defScope (topS 22), []⟩
theorem g_kind_in : r_kind_in.Good pg pJ :=
  ⟨⟨rfl, rfl, rfl, by decide +kernel, rfl, by decide +kernel, by decide +kernel⟩, by decide +kernel, fun _ _ _ _ _ _ _ us hl => match us, hl with | [_], _ => rfl,
  trivial,
  trivial,
  trivial⟩
def r_read_kind : RowE := ⟨"read_kind", "read_kind", sd_read_kind_26cf, defArgs (topS 23), defBody (topS 23), defScope (topS 23), []⟩
theorem g_read_kind : r_read_kind.Good pg pJ :=
  ⟨⟨rfl, rfl, rfl, by decide +kernel, rfl, by decide +kernel, by decide +kernel⟩, by decide +kernel, fun _ _ _ _ _ _ _ us hl => match us, hl with | [_], _ => rfl,
  trivial,
  trivial,
  trivial⟩
def r__law_tray : RowE := ⟨"_law_tray", "_law_tray", sd__law_tray_2e3b, defArgs (topS 25), defBody (topS 25), defScope (topS 25), []⟩
theorem g__law_tray : r__law_tray.Good pg pJ :=
  ⟨⟨rfl, rfl, rfl, by decide +kernel, rfl, by decide +kernel, by decide +kernel⟩, by decide +kernel, fun _ _ _ _ _ _ _ us hl => match us, hl with | [_], _ => rfl,
  trivial,
  trivial,
  trivial⟩
def r__law_draw : RowE := ⟨"_law_draw", "_law_draw", sd__law_draw_d94d, defArgs (topS 26), defBody (topS 26), defScope (topS 26), []⟩
theorem g__law_draw : r__law_draw.Good pg pJ :=
  ⟨⟨rfl, rfl, rfl, by decide +kernel, rfl, by decide +kernel, by decide +kernel⟩, by decide +kernel, fun _ _ _ _ _ _ _ us hl => match us, hl with | [_, _], _ => rfl,
  trivial,
  trivial,
  trivial⟩
def r__law_alike : RowE := ⟨"_law_alike", "_law_alike", sd__law_alike_e374, defArgs (topS 27), defBody (topS 27), defScope (topS 27), []⟩
theorem g__law_alike : r__law_alike.Good pg pJ :=
  ⟨⟨rfl, rfl, rfl, by decide +kernel, rfl, by decide +kernel, by decide +kernel⟩, by decide +kernel, fun _ _ _ _ _ _ _ us hl => match us, hl with | [_, _], _ => rfl,
  trivial,
  trivial,
  trivial⟩
def r__law_name : RowE := ⟨"_law_name", "_law_name", sd__law_name_f722, defArgs (topS 28), defBody (topS 28), defScope (topS 28), []⟩
theorem g__law_name : r__law_name.Good pg pJ :=
  ⟨⟨rfl, rfl, rfl, by decide +kernel, rfl, by decide +kernel, by decide +kernel⟩, by decide +kernel, fun _ _ _ _ _ _ _ us hl => match us, hl with | [_, _], _ => rfl,
  trivial,
  trivial,
  trivial⟩
def r__law_names : RowE := ⟨"_law_names", "_law_names", sd__law_names_a1c3, defArgs (topS 29), defBody (topS 29), defScope (topS 29), []⟩
theorem g__law_names : r__law_names.Good pg pJ :=
  ⟨⟨rfl, rfl, rfl, by decide +kernel, rfl, by decide +kernel, by decide +kernel⟩, by decide +kernel, fun _ _ _ _ _ _ _ us hl => match us, hl with | [_, _, _], _ => rfl,
  trivial,
  trivial,
  trivial⟩
def r__law_flat_kind : RowE := ⟨"_law_flat_kind", "_law_flat_kind", sd__law_flat_kind_2ebf, defArgs (topS 30), defBody (topS 30), defScope (topS 30), []⟩
theorem g__law_flat_kind : r__law_flat_kind.Good pg pJ :=
  ⟨⟨rfl, rfl, rfl, by decide +kernel, rfl, by decide +kernel, by decide +kernel⟩, by decide +kernel, fun _ _ _ _ _ _ _ us hl => match us, hl with | [_, _, _], _ => rfl,
  trivial,
  trivial,
  trivial⟩
def r__law_kind : RowE := ⟨"_law_kind", "_law_kind", sd__law_kind_02d3, defArgs (topS 31), defBody (topS 31), defScope (topS 31), []⟩
theorem g__law_kind : r__law_kind.Good pg pJ :=
  ⟨⟨rfl, rfl, rfl, by decide +kernel, rfl, by decide +kernel, by decide +kernel⟩, by decide +kernel, fun _ _ _ _ _ _ _ us hl => match us, hl with | [_, _, _], _ => rfl,
  trivial,
  trivial,
  trivial⟩
def r__law_shown : RowE := ⟨"_law_shown", "_law_shown", sd__law_shown_850e, defArgs (topS 32), defBody (topS 32), defScope (topS 32), []⟩
theorem g__law_shown : r__law_shown.Good pg pJ :=
  ⟨⟨rfl, rfl, rfl, by decide +kernel, rfl, by decide +kernel, by decide +kernel⟩, by decide +kernel, fun _ _ _ _ _ _ _ us hl => match us, hl with | [_], _ => rfl,
  trivial,
  trivial,
  trivial⟩
def r__law_sign : RowE := ⟨"_law_sign", "_law_sign", sd__law_sign_ce7f, defArgs (topS 33), defBody (topS 33), defScope (topS 33), []⟩
theorem g__law_sign : r__law_sign.Good pg pJ :=
  ⟨⟨rfl, rfl, rfl, by decide +kernel, rfl, by decide +kernel, by decide +kernel⟩, by decide +kernel, fun _ _ _ _ _ _ _ us hl => match us, hl with | [_], _ => rfl,
  trivial,
  trivial,
  trivial⟩
def r__law_sign_spoilt : RowE := ⟨"_law_sign_spoilt", "_law_sign_spoilt", sd__law_sign_spoilt_60ba, defArgs (topS 34), defBody (topS 34), defScope (topS 34), []⟩
theorem g__law_sign_spoilt : r__law_sign_spoilt.Good pg pJ :=
  ⟨⟨rfl, rfl, rfl, by decide +kernel, rfl, by decide +kernel, by decide +kernel⟩, by decide +kernel, fun _ _ _ _ _ _ _ us hl => match us, hl with | [_, _], _ => rfl,
  trivial,
  trivial,
  trivial⟩
def r__law_is_name : RowE := ⟨"_law_is_name", "_law_is_name", sd__law_is_name_ac37, defArgs (topS 35), defBody (topS 35), defScope (topS 35), []⟩
theorem g__law_is_name : r__law_is_name.Good pg pJ :=
  ⟨⟨rfl, rfl, rfl, by decide +kernel, rfl, by decide +kernel, by decide +kernel⟩, by decide +kernel, fun _ _ _ _ _ _ _ us hl => match us, hl with | [_], _ => rfl,
  trivial,
  trivial,
  trivial⟩
def r__law_flat_of : RowE := ⟨"_law_flat_of", "_law_flat_of", sd__law_flat_of_ca67, defArgs (topS 36), defBody (topS 36), defScope (topS 36), []⟩
theorem g__law_flat_of : r__law_flat_of.Good pg pJ :=
  ⟨⟨rfl, rfl, rfl, by decide +kernel, rfl, by decide +kernel, by decide +kernel⟩, by decide +kernel, fun _ _ _ _ _ _ _ us hl => match us, hl with | [_, _], _ => rfl,
  trivial,
  trivial,
  trivial⟩
def r__law_kind_of : RowE := ⟨"_law_kind_of", "_law_kind_of", sd__law_kind_of_abb1, defArgs (topS 37), defBody (topS 37), defScope (topS 37), []⟩
theorem g__law_kind_of : r__law_kind_of.Good pg pJ :=
  ⟨⟨rfl, rfl, rfl, by decide +kernel, rfl, by decide +kernel, by decide +kernel⟩, by decide +kernel, fun _ _ _ _ _ _ _ us hl => match us, hl with | [_, _], _ => rfl,
  trivial,
  trivial,
  trivial⟩
def r__law_spoilt : RowE := ⟨"_law_spoilt", "_law_spoilt", sd__law_spoilt_8584, defArgs (topS 38), defBody (topS 38), defScope (topS 38), []⟩
theorem g__law_spoilt : r__law_spoilt.Good pg pJ :=
  ⟨⟨rfl, rfl, rfl, by decide +kernel, rfl, by decide +kernel, by decide +kernel⟩, by decide +kernel, fun _ _ _ _ _ _ _ us hl => match us, hl with | [_, _], _ => rfl,
  trivial,
  trivial,
  trivial⟩
def r__law_odd : RowE := ⟨"_law_odd", "_law_odd", sd__law_odd_e3e3, defArgs (topS 39), defBody (topS 39), defScope (topS 39), []⟩
theorem g__law_odd : r__law_odd.Good pg pJ :=
  ⟨⟨rfl, rfl, rfl, by decide +kernel, rfl, by decide +kernel, by decide +kernel⟩, by decide +kernel, fun _ _ _ _ _ _ _ us hl => match us, hl with | [_], _ => rfl,
  trivial,
  trivial,
  trivial⟩
def r_law : RowE := ⟨"law", "law", sd_law_920e, defArgs (topS 40), defBody (topS 40), defScope (topS 40), []⟩
theorem g_law : r_law.Good pg pJ :=
  ⟨⟨rfl, rfl, rfl, by decide +kernel, rfl, by decide +kernel, by decide +kernel⟩, by decide +kernel, fun _ _ _ _ _ _ _ us hl => match us, hl with | [_], _ => rfl,
  trivial,
  trivial,
  trivial⟩
def prow : List RowE := [r_is_name, r_show_kind, r_flat_in, r_calls_in, r_kind_in, r_read_kind, r__law_tray, r__law_draw, r__law_alike, r__law_name, r__law_names, r__law_flat_kind, r__law_kind, r__law_shown, r__law_sign, r__law_sign_spoilt, r__law_is_name, r__law_flat_of, r__law_kind_of, r__law_spoilt, r__law_odd, r_law]
theorem prow_ok : AllG pg pJ prow := .cons g_is_name (.cons g_show_kind (.cons g_flat_in (.cons g_calls_in (.cons g_kind_in (.cons g_read_kind (.cons g__law_tray (.cons g__law_draw (.cons g__law_alike (.cons g__law_name (.cons g__law_names (.cons g__law_flat_kind (.cons g__law_kind (.cons g__law_shown (.cons g__law_sign (.cons g__law_sign_spoilt (.cons g__law_is_name (.cons g__law_flat_of (.cons g__law_kind_of (.cons g__law_spoilt (.cons g__law_odd (.cons g_law (.nil))))))))))))))))))))))
def pmore : List He.Fa := [.str "LETTERS" "abcdefghijklmnopqrstuvwxyz", .int "MOST_LETTERS" 8, .int "MOST_CALLED" 3, .int "MOST_READ_DEEP" 5, .glo "Breaks", .glo "Holds", .glo "NoBridge", .glo "NoEdition", .glo "NoKind", .glo "NoName", .glo "NoRow", .glo "NoText", .glo "StillError", .glo "TooGreat", .free "ValueError", .exm "NoText" "NoText" true]
abbrev pfa : List He.Fa := faOf pJ pmore
abbrev pfn : List He.DefD := prow.map (RowE.at_ pJ) ++ [xr_NoText]
abbrev pR : PySem.W.OpenRow := PySem.W.OpenLaw.row PySem.Challenge.rw_stillruns_k61_texts_of_no_kind
def pts : List He.Tab := []
def pex (K : PySem.W.Frag) : Bool := (xeB K "NoText" ["what"] && (xiB K "NoText" (.own "StillError") true && (xiB K "NoText" (.blt "ValueError") true && (xiB K "NoText" (.own "Breaks") false && (xiB K "NoText" (.own "Holds") false && (xiB K "NoText" (.own "NoBridge") false && (xiB K "NoText" (.own "NoEdition") false && (xiB K "NoText" (.own "NoKind") false && (xiB K "NoText" (.own "NoName") false && (xiB K "NoText" (.own "NoRow") false && (xiB K "NoText" (.own "TooGreat") false && true)))))))))))
abbrev phk : PySem.W.Hook := He.hookX 4 pfa pfn pts [] pex
def pob (s : PySem.W.SharedT) : He.AlX := He.obsX 4 pfa pfn pts [] pex (HandSHeadRun.getT s)
theorem pob_eq (s : PySem.W.SharedT) : pob s = phk.obs s.abs := He.obsX_eq (HandSHeadRun.getT_eq s)
theorem ptb {K : PySem.W.Frag} {w : World} {h : Heap} {mg : Str → Option Value} (X : K.In h) (G : h.Ns mainGlobals mg) {hh : Heap} (c : He.SaysX pfa pfn pts [] pex w hh K) (g : Str) (kvs : List (Str × Option Str)) (hd : pg.gvs.lookup g = some (.tab kvs)) : TbL K w mg g kvs := by
  have hm : (g, DV.tab kvs) ∈ pg.gvs := PySem.mem_of_lookup hd
  simp [pg] at hm
def ploose : List Str := (["StillError", "NoEdition", "TooGreat", "Breaks", "Holds", "NoBridge", "NoText", "NoRow", "NoName", "NoKind", "LETTERS", "MOST_LETTERS"] : List Str) ++ (["MOST_CALLED", "is_name", "show_kind", "MOST_READ_DEEP", "flat_in", "calls_in", "kind_in", "read_kind", "_law_tray", "_law_draw", "_law_alike", "_law_name"] : List Str) ++ (["_law_names", "_law_flat_kind", "_law_kind", "_law_shown", "_law_sign", "_law_sign_spoilt", "_law_is_name", "_law_flat_of", "_law_kind_of", "_law_spoilt", "_law_odd"] : List Str)
theorem prun (w : World) : HandSHeadRun.RunEq pR (PySem.W.view pR.prog [40]) phk pob 8000 ploose w := by
  intro os
  kernel_rfl
theorem pgv {K : PySem.W.Frag} {w : World} {h : Heap} {mg : Str → Option Value} (X : K.In h) (G : h.Ns mainGlobals mg) {hh : Heap} (c : He.SaysX pfa pfn pts [] pex w hh K) (x : Str) (d : DV) (hd : pg.gvs.lookup x = some d) (ht : isTab d = false) : ∃ v u, mg x = some u ∧ RelV v u ∧ ∀ B, Rep K B v d := by
  have hm : (x, d) ∈ pg.gvs := PySem.mem_of_lookup hd
  simp only [pg, List.mem_cons, List.not_mem_nil, or_false, Prod.mk.injEq] at hm
  rcases hm with ⟨rfl, rfl⟩ | ⟨rfl, rfl⟩ | ⟨rfl, rfl⟩ | ⟨rfl, rfl⟩
  · obtain ⟨t, e⟩ := He.str_ok X G (He.SaysD.facts c.t.d (f := .str "LETTERS" "abcdefghijklmnopqrstuvwxyz") (by simp [pfa, faOf, pmore]))
    exact ⟨.str "abcdefghijklmnopqrstuvwxyz", _, e, ⟨t, rfl⟩, fun B => .str _⟩
  · obtain ⟨t, e⟩ := He.int_ok X G (He.SaysD.facts c.t.d (f := .int "MOST_LETTERS" 8) (by simp [pfa, faOf, pmore]))
    exact ⟨.int 8, _, e, ⟨t, rfl⟩, fun B => .int _⟩
  · obtain ⟨t, e⟩ := He.int_ok X G (He.SaysD.facts c.t.d (f := .int "MOST_CALLED" 3) (by simp [pfa, faOf, pmore]))
    exact ⟨.int 3, _, e, ⟨t, rfl⟩, fun B => .int _⟩
  · obtain ⟨t, e⟩ := He.int_ok X G (He.SaysD.facts c.t.d (f := .int "MOST_READ_DEEP" 5) (by simp [pfa, faOf, pmore]))
    exact ⟨.int 5, _, e, ⟨t, rfl⟩, fun B => .int _⟩
theorem pkw {K : PySem.W.Frag} {w : World} {h : Heap} {mg : Str → Option Value} (X : K.In h) (G : h.Ns mainGlobals mg) {hh : Heap} (c : He.SaysX pfa pfn pts [] pex w hh K) : ∀ r ∈ prow, AllL (fun q => q.2.1 = r.x → ∀ B, RepL K B (r.kwd.map fun z => z.2.v K) (q.2.2.2.map (gvD pg.gvs))) pJ.mks := by
  intro r hr
  simp only [prow, List.mem_cons, List.not_mem_nil, or_false] at hr
  rcases hr with rfl | rfl | rfl | rfl | rfl | rfl | rfl | rfl | rfl | rfl | rfl | rfl | rfl | rfl | rfl | rfl | rfl | rfl | rfl | rfl | rfl | rfl
  · exact trivial
  · exact trivial
  · exact trivial
  · exact trivial
  · exact trivial
  · exact trivial
  · exact trivial
  · exact trivial
  · exact trivial
  · exact trivial
  · exact trivial
  · exact trivial
  · exact trivial
  · exact trivial
  · exact trivial
  · exact trivial
  · exact trivial
  · exact trivial
  · exact trivial
  · exact trivial
  · exact trivial
  · exact trivial
theorem pxe {K : PySem.W.Frag} {w : World} {h : Heap} {mg : Str → Option Value} (X : K.In h) (G : h.Ns mainGlobals mg) {hh : Heap} (c : He.SaysX pfa pfn pts [] pex w hh K) : ∀ q ∈ pJ.exs, XeL K mg q := by
  have hx := c.more
  simp only [pex, Bool.and_eq_true] at hx
  intro q hq
  simp only [pJ, List.mem_cons, List.not_mem_nil, or_false] at hq
  rcases hq with rfl
  · obtain ⟨fd, F⟩ := He.SaysD.defs c.t.d (d := xr_NoText) (by simp [pfn, prow])
    have F : FunD K "__init__" "NoText.__init__" (defArgs (mthS 7 0)) (defBody (mthS 7 0)) (defScope (mthS 7 0)) [] [] (He.fAd K ("NoText", some "__init__")) fd := F
    obtain ⟨x1, x2⟩ := xeB_ok hx.1
    exact ⟨He.glo_ok X G (He.SaysD.facts c.t.d (f := .glo "NoText") (by simp [pfa, faOf, pmore])), x1, x2, _, _, ["self", "what"], _, _, _, fd, F, ⟨rfl, rfl, rfl, by decide +kernel, rfl, by decide +kernel, by decide +kernel⟩, rfl, by decide +kernel, F.bindsN (fun _ _ _ _ _ _ us hl => match us, hl with | [_, _], _ => rfl)⟩
theorem pxm {K : PySem.W.Frag} {w : World} {h : Heap} {mg : Str → Option Value} (X : K.In h) (G : h.Ns mainGlobals mg) {hh : Heap} (c : He.SaysX pfa pfn pts [] pex w hh K) : ∀ q ∈ pJ.exm, XmL K mg q := by
  have hx := c.more
  simp only [pex, Bool.and_eq_true] at hx
  intro q hq
  simp only [pJ, List.mem_cons, List.not_mem_nil, or_false] at hq
  rcases hq with rfl
  · exact ⟨He.glo_ok X G (He.SaysD.facts c.t.d (f := .glo "NoText") (by simp [pfa, faOf, pmore])), He.exm_ok (He.SaysD.facts c.t.d (f := .exm "NoText" "NoText" true) (by simp [pfa, faOf, pmore]))⟩
theorem pxi {K : PySem.W.Frag} {w : World} {h : Heap} {mg : Str → Option Value} (X : K.In h) (G : h.Ns mainGlobals mg) {hh : Heap} (c : He.SaysX pfa pfn pts [] pex w hh K) : ∀ q ∈ pJ.isa, XiL K mg q := by
  have hx := c.more
  simp only [pex, Bool.and_eq_true] at hx
  intro q hq
  simp only [pJ, List.mem_cons, List.not_mem_nil, or_false] at hq
  rcases hq with rfl | rfl | rfl | rfl | rfl | rfl | rfl | rfl | rfl | rfl
  · exact ⟨He.glo_ok X G (He.SaysD.facts c.t.d (f := .glo "StillError") (by simp [pfa, faOf, pmore])), of_decide_eq_true hx.2.1⟩
  · exact ⟨⟨He.free_ok X G (He.SaysD.facts c.t.d (f := .free "ValueError") (by simp [pfa, faOf, pmore])), by decide +kernel, by decide⟩, of_decide_eq_true hx.2.2.1⟩
  · exact ⟨He.glo_ok X G (He.SaysD.facts c.t.d (f := .glo "Breaks") (by simp [pfa, faOf, pmore])), of_decide_eq_true hx.2.2.2.1⟩
  · exact ⟨He.glo_ok X G (He.SaysD.facts c.t.d (f := .glo "Holds") (by simp [pfa, faOf, pmore])), of_decide_eq_true hx.2.2.2.2.1⟩
  · exact ⟨He.glo_ok X G (He.SaysD.facts c.t.d (f := .glo "NoBridge") (by simp [pfa, faOf, pmore])), of_decide_eq_true hx.2.2.2.2.2.1⟩
  · exact ⟨He.glo_ok X G (He.SaysD.facts c.t.d (f := .glo "NoEdition") (by simp [pfa, faOf, pmore])), of_decide_eq_true hx.2.2.2.2.2.2.1⟩
  · exact ⟨He.glo_ok X G (He.SaysD.facts c.t.d (f := .glo "NoKind") (by simp [pfa, faOf, pmore])), of_decide_eq_true hx.2.2.2.2.2.2.2.1⟩
  · exact ⟨He.glo_ok X G (He.SaysD.facts c.t.d (f := .glo "NoName") (by simp [pfa, faOf, pmore])), of_decide_eq_true hx.2.2.2.2.2.2.2.2.1⟩
  · exact ⟨He.glo_ok X G (He.SaysD.facts c.t.d (f := .glo "NoRow") (by simp [pfa, faOf, pmore])), of_decide_eq_true hx.2.2.2.2.2.2.2.2.2.1⟩
  · exact ⟨He.glo_ok X G (He.SaysD.facts c.t.d (f := .glo "TooGreat") (by simp [pfa, faOf, pmore])), of_decide_eq_true hx.2.2.2.2.2.2.2.2.2.2.1⟩
end Sr
open PySem PySem.W PySem.Calls PyProof.Rows
theorem PySem.Challenge.cw_stillruns_k61_texts_of_no_kind_holds : PySem.Challenge.rw_stillruns_k61_texts_of_no_kind.Holds := by
  w_on; o_law
  refine HandSHeadRun.head_any (r := OpenLaw.row PySem.Challenge.rw_stillruns_k61_texts_of_no_kind) (q := view (OpenLaw.row PySem.Challenge.rw_stillruns_k61_texts_of_no_kind).prog [40]) (H := Sr.phk) (ob := Sr.pob) (M := 8000) (loose := Sr.ploose) (d := HandSHeadRun.topDef (OpenLaw.row PySem.Challenge.rw_stillruns_k61_texts_of_no_kind).prog 40) (kwd := []) Sr.pob_eq
    (by kernel_rfl) (fun s => by kernel_rfl) Sr.prun (by kernel_rfl) (by kernel_rfl) (by kernel_rfl) (by rfl) (by first | assumption | decide +kernel) (by decide +kernel) ⟨rfl, rfl, rfl, rfl, rfl, by decide +kernel⟩ ?hw ?hc
  case hw => w_witness2
  case hc =>
    refine Sr.end_of (l := PySem.Challenge.rw_stillruns_k61_texts_of_no_kind) (n := 63) (k := 201) (x := "_law_script") rfl (by decide) (by kernel_rfl) ⟨rfl, by decide, by decide⟩ ?F
    intro w mg fa h Y G hmg0
    obtain ⟨K, KX, c0⟩ := Y
    have c := c0.t.d
    have hmg : mg ("law" : PySem.Str) = some (.ref fa) := by
      have e : (HandSHeadRun.topDef (OpenLaw.row PySem.Challenge.rw_stillruns_k61_texts_of_no_kind).prog 40).name = ("law" : PySem.Str) := by kernel_rfl
      rw [← e]
      exact hmg0
    have LK := Sr.linked_of (p := Sr.pg) (J := Sr.pJ) (rows := Sr.prow) rfl Sr.prow_ok (by decide +kernel) KX G (dl := Sr.pfn) (fun r hr => by first | exact List.mem_map.mpr ⟨r, hr, rfl⟩ | exact List.mem_append_left _ (List.mem_map.mpr ⟨r, hr, rfl⟩)) c (Sr.pgv KX G c0) (Sr.pkw KX G c0) (w := w) (Sr.ptb KX G c0) (Sr.pxe KX G c0) (Sr.pxm KX G c0) (Sr.pxi KX G c0)
    obtain ⟨fd2, F2⟩ := He.SaysD.defs c (d := Sr.r_law.at_ Sr.pJ) (by simp [Sr.pfn, Sr.prow])
    have e2 : fa = He.ga K "law" := by
      have := (LK.glo "law" 1 rfl).2.1
      rw [(LK.glo "law" 1 rfl).2.2.1] at this
      cases hmg.symm.trans this
      rfl
    have F2 : L2.FunD K "law" "law" (L2.defArgs (Sr.topS 40)) (L2.defBody (Sr.topS 40)) (L2.defScope (Sr.topS 40)) [] [] fa fd2 := by
      rw [e2]; exact F2
    have b2 := L2.FunD.bindsA (ps := ["_law_script"]) F2 (Sr.g_law.b (by decide +kernel))
    exact ⟨K, fd2, _, KX, fun s v => b2 s [v] rfl, fun H a ns hl hb _ hS => Sr.law_sp hS (Sr.law_ok ns hl hb), fun base _ _ => Sr.link LK 100 "law" Sr.sd_law_920e _ _ _ _ _ fa fd2 rfl Sr.g_law.S Sr.g_law.ck F2⟩

