import PyProof.Rows.All
import PySem.Challenge.RW_sharedways_k10_nets_and_flows
import Wide.All
import OpenK.AllK
import Wide.FinOn
import HandS.ForMost
import HandS.Exc
import HandS.ExcOwn
import HandS.WordsExc
import HandS.Deep
import HandS.IsInst
import HandS.Wide
import HandS.Lambda
import HandS.EndTab
import HandS.Zip
import HandS.Conv
import HandS.SortInts
import HandS.HotCalls
import HandS.ExcCtx
import HandS.ExcIs
import KE.GoesComp
import KE.GoesMore
import PyProof.SumWalk
import HandS.EndOwn
set_option Elab.async false
set_option linter.all false
set_option maxRecDepth 100000
set_option maxHeartbeats 8000000
set_option autoImplicit false
/-! # The data layer: data, what stands for it in a heap, and the frame. -/
namespace Dy
open PySem PySem.Spec PyProof.Rows L2
abbrev St := L2.St

/-- data -/
inductive D where
  | non | bl (b : Bool) | int (i : Int) | str (x : Str)
  | tup (l : List D) | lst (l : List D)
  | scr (ns : List Int)
  | dic (ks : List Key) (l : List D)
  | ins (C : Addr) (ns : List Str) (l : List D)

mutual
inductive Rep (K : PySem.W.Frag) (F : Hp) : D → V → Prop
  | non : Rep K F .non .non
  | bl (b : Bool) : Rep K F (.bl b) (.bl b)
  | int (i : Int) : Rep K F (.int i) (.int i)
  | str (x : Str) : Rep K F (.str x) (.str x)
  | tup {a : Addr} {xs : List V} {l : List D} (h : SqT K F a xs) (r : RepL K F l xs) : Rep K F (.tup l) (.ref a)
  | lst {a : Addr} {xs : List V} {l : List D} (h : F a = some (.lst xs)) (r : RepL K F l xs) : Rep K F (.lst l) (.ref a)
  | scr {a : Addr} {ns : List Int} (h : SqL K F a (ns.map V.int)) : Rep K F (.scr ns) (.ref a)
  | dic {a : Addr} {kvs : List (Key × V)} {ks : List Key} {l : List D} (h : F a = some (.dK kvs)) (e : kvs.map (·.1) = ks) (r : RepL K F l (kvs.map (·.2))) : Rep K F (.dic ks l) (.ref a)
  | ins {a C dx : Addr} {fs : List (Str × V)} {ns : List Str} {l : List D} (h : F a = some (.ins C dx fs)) (e : fs.map (·.1) = ns) (r : RepL K F l (fs.map (·.2))) : Rep K F (.ins C ns l) (.ref a)
inductive RepL (K : PySem.W.Frag) (F : Hp) : List D → List V → Prop
  | nil : RepL K F [] []
  | cons {d : D} {v : V} {l : List D} {xs : List V} (h : Rep K F d v) (r : RepL K F l xs) : RepL K F (d :: l) (v :: xs)
end

theorem Same.rd {F F' : Hp} {a : Addr} {u : HO} (e : Same F F') (h : Rd F a u) : Rd F' a u := by
  rcases h with h | ⟨o, h⟩
  · exact .inl (e _ _ h)
  · exact .inr ⟨o, e _ _ h⟩
theorem Same.sqT {K : PySem.W.Frag} {F F' : Hp} {a : Addr} {xs : List V} (e : Same F F') (h : SqT K F a xs) : SqT K F' a xs := by
  rcases h with h | h
  · exact .inl (Same.rd e h)
  · exact .inr h
section
variable {K : PySem.W.Frag} {F F' H H' : Hp}
mutual
theorem Rep.mono (e : Same F F') : ∀ {d : D} {v : V}, Rep K F d v → Rep K F' d v
  | _, _, .non => .non
  | _, _, .bl b => .bl b
  | _, _, .int i => .int i
  | _, _, .str x => .str x
  | _, _, .tup h r => .tup (Same.sqT e h) (r.mono e)
  | _, _, .lst h r => .lst (e _ _ h) (r.mono e)
  | _, _, .scr h => .scr (e.seq h)
  | _, _, .dic h q r => .dic (e _ _ h) q (r.mono e)
  | _, _, .ins h q r => .ins (e _ _ h) q (r.mono e)
theorem RepL.mono (e : Same F F') : ∀ {l : List D} {xs : List V}, RepL K F l xs → RepL K F' l xs
  | _, _, .nil => .nil
  | _, _, .cons h r => .cons (h.mono e) (r.mono e)
end
theorem RepL.length : ∀ {l : List D} {xs : List V}, RepL K F l xs → l.length = xs.length
  | _, _, .nil => rfl
  | _, _, .cons _ r => by simp [r.length]
theorem RepL.get : ∀ {l : List D} {xs : List V} {i : Nat} {d : D}, RepL K F l xs → l[i]? = some d → ∃ v, xs[i]? = some v ∧ Rep K F d v
  | _, _, _, _, .nil, e => by simp at e
  | _, _, 0, _, .cons h _, e => by simp at e; subst e; exact ⟨_, rfl, h⟩
  | _, _, i + 1, d, .cons _ r, e => by
    obtain ⟨u, h1, h2⟩ := RepL.get (i := i) (d := d) r (by simpa using e)
    exact ⟨u, by simpa using h1, h2⟩
theorem RepL.getV : ∀ {l : List D} {xs : List V} {i : Nat} {v : V}, RepL K F l xs → xs[i]? = some v → ∃ d, l[i]? = some d ∧ Rep K F d v
  | _, _, _, _, .nil, e => by simp at e
  | _, _, 0, _, .cons h _, e => by simp at e; subst e; exact ⟨_, rfl, h⟩
  | _, _, i + 1, d, .cons _ r, e => by
    obtain ⟨u, h1, h2⟩ := RepL.getV (i := i) (v := d) r (by simpa using e)
    exact ⟨u, by simpa using h1, h2⟩
theorem RepL.append : ∀ {l l' : List D} {xs ys : List V}, RepL K F l xs → RepL K F l' ys → RepL K F (l ++ l') (xs ++ ys)
  | _, _, _, _, .nil, s => s
  | _, _, _, _, .cons h r, s => .cons h (r.append s)
theorem RepL.one {d : D} {v : V} (h : Rep K F d v) : RepL K F [d] [v] := .cons h .nil
theorem RepL.take : ∀ {l : List D} {xs : List V} (n : Nat), RepL K F l xs → RepL K F (l.take n) (xs.take n)
  | _, _, 0, _ => by simpa using RepL.nil
  | _, _, _ + 1, .nil => by simpa using RepL.nil
  | _, _, n + 1, .cons h r => by simpa using RepL.cons h (r.take n)
theorem RepL.drop : ∀ {l : List D} {xs : List V} (n : Nat), RepL K F l xs → RepL K F (l.drop n) (xs.drop n)
  | _, _, 0, r => by simpa using r
  | _, _, _ + 1, .nil => by simpa using RepL.nil
  | _, _, n + 1, .cons _ r => by simpa using r.drop n
theorem RepL.set {d : D} {v : V} (h : Rep K F d v) : ∀ {l : List D} {xs : List V} (i : Nat), RepL K F l xs → RepL K F (l.set i d) (xs.set i v)
  | _, _, _, .nil => by simpa using RepL.nil
  | _, _, 0, .cons _ r => by simpa using RepL.cons h r
  | _, _, i + 1, .cons q r => by simpa using RepL.cons q (RepL.set h i r)
theorem RepL.rep {d : D} {v : V} (h : Rep K F d v) : ∀ n : Nat, RepL K F (List.replicate n d) (List.replicate n v)
  | 0 => .nil
  | n + 1 => by simpa [List.replicate_succ] using RepL.cons h (RepL.rep h n)
theorem RepL.flat {l : List D} {xs : List V} (h : RepL K F l xs) : ∀ n : Nat, RepL K F (List.replicate n l).flatten (List.replicate n xs).flatten
  | 0 => .nil
  | n + 1 => by simpa [List.replicate_succ] using h.append (RepL.flat h n)
theorem RepL.dropLast {l : List D} {xs : List V} (h : RepL K F l xs) : RepL K F l.dropLast xs.dropLast := by
  rw [List.dropLast_eq_take, List.dropLast_eq_take, h.length]
  exact h.take _
theorem RepL.eraseIdx : ∀ {l : List D} {xs : List V} (n : Nat), RepL K F l xs → RepL K F (l.eraseIdx n) (xs.eraseIdx n)
  | _, _, _, .nil => by simpa using RepL.nil
  | _, _, 0, .cons _ r => by simpa using r
  | _, _, n + 1, .cons h r => by simpa using RepL.cons h (r.eraseIdx n)
/-- ints, bools as values -/
theorem RepL.ints : ∀ {ns : List Int} {xs : List V}, RepL K F (ns.map D.int) xs → xs = ns.map V.int
  | [], _, h => by cases h; rfl
  | n :: ns, _, h => by
    cases h with
    | cons h r => cases h; rw [RepL.ints (ns := ns) r]; rfl
theorem RepL.bls : ∀ {ns : List Bool} {xs : List V}, RepL K F (ns.map D.bl) xs → xs = ns.map V.bl
  | [], _, h => by cases h; rfl
  | n :: ns, _, h => by
    cases h with
    | cons h r => cases h; rw [RepL.bls (ns := ns) r]; rfl
theorem repL_ints : ∀ (ns : List Int), RepL K F (ns.map D.int) (ns.map V.int)
  | [] => .nil
  | n :: ns => .cons (.int n) (repL_ints ns)

/-! ### the frame -/
def SameT (B H : Hp) : Prop := ∀ b o, B b = some o → H b = some o ∨ ((∃ ps, o = .tbl ps) ∧ ∃ ps, H b = some (.tbl ps))
/-- which table of code objects holds lambdas of which name -/
class Tn where
  ns : List (Addr × Str)
variable [Tn]
def AllT (H : Hp) : Prop := LamX.Tabs Tn.ns H
def NT (F H : Hp) : Prop := (∀ p ps, F p ≠ some (.tbl ps)) ∧ AllT H
/-- objects of a kind that a def may make and change as its own -/
def Ordi : HO → Prop
  | .lst _ => True
  | .tup _ => True
  | .dK _ => True
  | .dT _ => True
  | .ins _ _ _ => True
  | .own _ => True
  | _ => False
structure Ext (F0 B F H : Hp) : Prop where
  ff : Same F0 F
  fh : Same F H
  bh : SameT B H
  fr : ∀ p o, F0 p = none → B p = some o → F p = none
  nt : NT F H
theorem Ext.refl (s : Same F H) (n : NT F H) : Ext F H F H := ⟨Same.refl F, s, fun _ _ h => .inl h, fun _ _ h _ => h, n⟩
theorem SameT.trans {B C D' : Hp} (a : SameT B C) (b : SameT C D') : SameT B D' := fun p o h => by
  rcases a p o h with h | ⟨h1, ps, h2⟩
  · exact b p o h
  · rcases b p _ h2 with h3 | ⟨_, ps', h3⟩
    · exact .inr ⟨h1, ps, h3⟩
    · exact .inr ⟨h1, ps', h3⟩
theorem SameT.some {B H : Hp} (a : SameT B H) {p : Addr} {o : HO} (h : B p = some o) : ∃ o', H p = Option.some o' := by
  rcases a p o h with h | ⟨_, ps, h⟩
  · exact ⟨_, h⟩
  · exact ⟨_, h⟩
theorem SameT.none {B H : Hp} (a : SameT B H) {p : Addr} (h : H p = Option.none) : B p = Option.none := by
  cases q : B p with
  | none => rfl
  | some o =>
    obtain ⟨o', e⟩ := a.some q
    rw [h] at e; cases e
theorem SameT.ordi {B H : Hp} (a : SameT B H) {p : Addr} {o : HO} (h : B p = Option.some o) (n : ∀ ps, o ≠ .tbl ps) : H p = Option.some o := by
  rcases a p o h with h | ⟨⟨ps, h1⟩, _⟩
  · exact h
  · exact absurd h1 (n ps)
theorem Same.t {B H : Hp} (a : Same B H) : SameT B H := fun p o h => .inl (a p o h)
theorem Ext.trans {F0 B F H F' H' : Hp} (a : Ext F0 B F H) (b : Ext F H F' H') : Ext F0 B F' H' where
  ff := a.ff.trans b.ff
  fh := b.fh
  bh := a.bh.trans b.bh
  fr := fun p o h0 hB => by
    obtain ⟨o', e⟩ := a.bh.some hB
    exact b.fr p o' (a.fr p o h0 hB) e
  nt := b.nt
theorem Ordi.ntbl {o : HO} (h : Ordi o) : ∀ ps, o ≠ .tbl ps := fun ps e => by subst e; exact h
theorem AllT.upd {p : Addr} {o : HO} (a : AllT H) (ho : Ordi o) (hp : ∀ u, H p = some u → Ordi u) : AllT (upd H p o) := by
  have ntab : ∀ {b ps}, H b = some (.tbl ps) → b ≠ p := fun {b ps} e z => by
    subst z
    exact (hp _ e).ntbl ps rfl
  intro q hq
  obtain ⟨ps, h1, h2, h3⟩ := a q hq
  refine ⟨ps, by rw [upd_ne (ntab h1)]; exact h1, h2, fun pos cv hc => ?_⟩
  obtain ⟨c, e1, e2⟩ := h3 pos cv hc
  refine ⟨c, e1, ?_⟩
  rw [upd_ne ?_]
  · exact e2
  · intro z
    subst z
    exact (hp _ e2)
theorem Ext.alloc {F0 B F H : Hp} (a : Ext F0 B F H) {p : Addr} {o : HO} (hp : H p = none) (ho : Ordi o) : Ext F0 B (upd F p o) (upd H p o) where
  ff := fun b u e => by rw [upd_ne (ne_of_none (a.fh b u (a.ff b u e)) hp)]; exact a.ff b u e
  fh := fun b u e => by
    by_cases hb : b = p
    · subst hb; rw [upd_same] at e ⊢; exact e
    · rw [upd_ne hb] at e ⊢; exact a.fh b u e
  bh := fun b u e => by
    obtain ⟨o', e'⟩ := a.bh.some e
    rw [upd_ne (ne_of_none e' hp)]
    exact a.bh b u e
  fr := fun q u h0 hB => by
    obtain ⟨o', e'⟩ := a.bh.some hB
    rw [upd_ne (ne_of_none e' hp)]
    exact a.fr q u h0 hB
  nt := ⟨fun q ps e => by
    by_cases hb : q = p
    · subst hb; rw [upd_same] at e; cases e; exact ho.elim
    · rw [upd_ne hb] at e; exact a.nt.1 q ps e, a.nt.2.upd ho fun u e => by rw [hp] at e; cases e⟩
/-- a new object that is not frozen -/
theorem Ext.allocH {F0 B F H : Hp} (a : Ext F0 B F H) {p : Addr} {o : HO} (hp : H p = none) (ho : Ordi o) : Ext F0 B F (upd H p o) where
  ff := a.ff
  fh := fun b u e => by rw [upd_ne (ne_of_none (a.fh b u e) hp)]; exact a.fh b u e
  bh := fun b u e => by
    obtain ⟨o', e'⟩ := a.bh.some e
    rw [upd_ne (ne_of_none e' hp)]
    exact a.bh b u e
  fr := a.fr
  nt := ⟨a.nt.1, a.nt.2.upd ho fun u e => by rw [hp] at e; cases e⟩
/-- an object of one's own is changed -/
theorem Ext.own {F0 B F H : Hp} (a : Ext F0 B F H) {p : Addr} {u o : HO} (hp : H p = some u) (hu : Ordi u) (ho : Ordi o) (hF : F p = none) (hB : B p = none) : Ext F0 B F (upd H p o) where
  ff := a.ff
  fh := fun b u e => by rw [upd_ne (ne_of_none e hF)]; exact a.fh b u e
  bh := fun b u e => by rw [upd_ne (ne_of_none e hB)]; exact a.bh b u e
  fr := a.fr
  nt := ⟨a.nt.1, a.nt.2.upd ho fun u' e => by rw [hp] at e; cases e; exact hu⟩
/-- an object of one's own is frozen -/
theorem Ext.freeze {F0 B F H : Hp} (a : Ext F0 B F H) {p : Addr} {u : HO} (hp : H p = some u) (hu : Ordi u) (hF : F p = none) (hB : B p = none) : Ext F0 B (upd F p u) H where
  ff := fun b w e => by
    have := a.ff b w e
    rw [upd_ne (ne_of_none this hF)]; exact this
  fh := fun b w e => by
    by_cases hb : b = p
    · subst hb; rw [upd_same] at e; cases e; exact hp
    · rw [upd_ne hb] at e; exact a.fh b w e
  bh := a.bh
  fr := fun q w h0 h => by
    rw [upd_ne (ne_of_none h hB)]
    exact a.fr q w h0 h
  nt := ⟨fun q ps e => by
    by_cases hb : q = p
    · subst hb; rw [upd_same] at e; cases e; exact hu.elim
    · rw [upd_ne hb] at e; exact a.nt.1 q ps e, a.nt.2⟩
theorem same_alloc {F H : Hp} (s : Same F H) {p : Addr} {o : HO} (hp : H p = none) : Same F (upd F p o) := fun b u e => by
  rw [upd_ne (ne_of_none (s b u e) hp)]; exact e

/-! ### slots -/
/-- an object of one's own, as data -/
inductive OB where
  | lst (l : List D)
  | dic (ks : List Key) (l : List D)
def ORep (K : PySem.W.Frag) (F : Hp) : OB → HO → Prop
  | .lst l, .lst xs => RepL K F l xs
  | .dic ks l, .dK kvs => kvs.map (·.1) = ks ∧ RepL K F l (kvs.map (·.2))
  | _, _ => False
theorem ORep.ordi {o : OB} {ho : HO} (h : ORep K F o ho) : Ordi ho := by
  cases o <;> cases ho <;> first | exact h.elim | trivial
theorem ORep.mono {o : OB} {ho : HO} (e : Same F F') (h : ORep K F o ho) : ORep K F' o ho := by
  cases o <;> cases ho <;> first | exact h.elim | exact RepL.mono e h | exact ⟨h.1, h.2.mono e⟩
@[simp] def OB.frz : OB → D
  | .lst l => .lst l
  | .dic ks l => .dic ks l
inductive Sl where
  | no | d (x : D) | own (o : OB)
def SlotR (K : PySem.W.Frag) (B F H : Hp) : Sl → Option V → Prop
  | .no, _ => True
  | .d x, o => ∃ v, o = some v ∧ Rep K F x v
  | .own ob, o => ∃ a ho, o = some (.ref a) ∧ H a = some ho ∧ F a = none ∧ B a = none ∧ ORep K F ob ho
structure StR (K : PySem.W.Frag) (F0 B F : Hp) (ρ : List Sl) (σ : St) (H : Hp) : Prop where
  ext : Ext F0 B F H
  len : ρ.length = σ.length
  slot : ∀ (i : Nat) (s : Sl), ρ[i]? = some s → ∃ o, σ[i]? = some o ∧ SlotR K B F H s o
  apart : ∀ (i j : Nat) (o o' : OB), ρ[i]? = some (.own o) → ρ[j]? = some (.own o') → i ≠ j → σ[i]? ≠ σ[j]?
theorem SlotR.step {B : Hp} {s : Sl} {o : Option V} (h : SlotR K B F H s o) (e : Ext F H F' H') : SlotR K B F' H' s o := by
  cases s with
  | no => trivial
  | d x => obtain ⟨v, e1, r⟩ := h; exact ⟨v, e1, r.mono e.ff⟩
  | own ob =>
    obtain ⟨a, ho, e1, h1, h2, h3, r⟩ := h
    exact ⟨a, ho, e1, e.bh.ordi h1 (r.ordi).ntbl, e.fr a ho h2 h1, h3, r.mono e.ff⟩
theorem StR.step {F0 B : Hp} {ρ : List Sl} {σ : St} (h : StR K F0 B F ρ σ H) (e : Ext F H F' H') : StR K F0 B F' ρ σ H' :=
  ⟨h.ext.trans e, h.len, fun i s q => let ⟨o, e1, r⟩ := h.slot i s q; ⟨o, e1, r.step e⟩, h.apart⟩
theorem StR.fh {F0 B : Hp} {ρ : List Sl} {σ : St} (h : StR K F0 B F ρ σ H) : Same F H := h.ext.fh
theorem StR.nt {F0 B : Hp} {ρ : List Sl} {σ : St} (h : StR K F0 B F ρ σ H) : NT F H := h.ext.nt
theorem StR.selfExt {F0 B : Hp} {ρ : List Sl} {σ : St} (h : StR K F0 B F ρ σ H) : Ext F H F H := Ext.refl h.fh h.nt
/-- a slot gets frozen data -/
theorem StR.set {F0 B : Hp} {ρ : List Sl} {σ : St} (h : StR K F0 B F ρ σ H) {x : D} {v : V} (i : Nat) (r : Rep K F x v) : StR K F0 B F (ρ.set i (.d x)) (σ.set i (some v)) H := by
  refine ⟨h.ext, by simpa using h.len, fun j s q => ?_, fun j k o o' q1 q2 n => ?_⟩
  · by_cases hj : i = j
    · subst hj
      by_cases hl : i < ρ.length
      · rw [List.getElem?_set_self hl] at q
        cases q
        exact ⟨some v, by rw [List.getElem?_set_self (by rw [← h.len]; exact hl)], v, rfl, r⟩
      · rw [List.getElem?_eq_none (by simpa using hl)] at q; cases q
    · rw [List.getElem?_set_ne hj] at q ⊢
      exact h.slot j s q
  · have key : ∀ {j : Nat} {o : OB}, (ρ.set i (.d x))[j]? = some (.own o) → j ≠ i ∧ ρ[j]? = some (.own o) := fun {j o} q => by
      by_cases hj : i = j
      · subst hj
        by_cases hl : i < ρ.length
        · rw [List.getElem?_set_self hl] at q; cases q
        · rw [List.getElem?_eq_none (by simpa using hl)] at q; cases q
      · rw [List.getElem?_set_ne hj] at q
        exact ⟨fun e => hj e.symm, q⟩
    obtain ⟨n1, q1⟩ := key q1
    obtain ⟨n2, q2⟩ := key q2
    rw [List.getElem?_set_ne (Ne.symm n1), List.getElem?_set_ne (Ne.symm n2)]
    exact h.apart j k o o' q1 q2 n
/-- a slot is forgotten -/
theorem StR.drop {F0 B : Hp} {ρ : List Sl} {σ : St} (h : StR K F0 B F ρ σ H) (i : Nat) (o : Option V) : StR K F0 B F (ρ.set i .no) (σ.set i o) H := by
  refine ⟨h.ext, by simpa using h.len, fun j s q => ?_, fun j k o1 o2 q1 q2 n => ?_⟩
  · by_cases hj : i = j
    · subst hj
      by_cases hl : i < ρ.length
      · rw [List.getElem?_set_self hl] at q
        cases q
        exact ⟨o, by rw [List.getElem?_set_self (by rw [← h.len]; exact hl)], trivial⟩
      · rw [List.getElem?_eq_none (by simpa using hl)] at q; cases q
    · rw [List.getElem?_set_ne hj] at q ⊢
      exact h.slot j s q
  · have key : ∀ {j : Nat} {o : OB}, (ρ.set i .no)[j]? = some (.own o) → j ≠ i ∧ ρ[j]? = some (.own o) := fun {j o} q => by
      by_cases hj : i = j
      · subst hj
        by_cases hl : i < ρ.length
        · rw [List.getElem?_set_self hl] at q; cases q
        · rw [List.getElem?_eq_none (by simpa using hl)] at q; cases q
      · rw [List.getElem?_set_ne hj] at q
        exact ⟨fun e => hj e.symm, q⟩
    obtain ⟨n1, q1⟩ := key q1
    obtain ⟨n2, q2⟩ := key q2
    rw [List.getElem?_set_ne (Ne.symm n1), List.getElem?_set_ne (Ne.symm n2)]
    exact h.apart j k o1 o2 q1 q2 n
/-- a slot gets a new object of one's own -/
theorem StR.setOwn {F0 B : Hp} {ρ : List Sl} {σ : St} (h : StR K F0 B F ρ σ H) {ob : OB} {ho : HO} {p : Addr} (i : Nat) (hp : H p = none) (r : ORep K F ob ho) : StR K F0 B F (ρ.set i (.own ob)) (σ.set i (some (.ref p))) (upd H p ho) := by
  have hF : F p = none := h.fh.free hp
  have hB : B p = none := h.ext.bh.none hp
  have old : ∀ {s : Sl} {o : Option V}, SlotR K B F H s o → SlotR K B F (upd H p ho) s o := fun {s o} q => by
    cases s with
    | no => trivial
    | d x => exact q
    | own ob' =>
      obtain ⟨a, ho', e1, h1, h2, h3, r⟩ := q
      exact ⟨a, ho', e1, by rw [upd_ne (ne_of_none h1 hp)]; exact h1, h2, h3, r⟩
  have other : ∀ {j : Nat} {o : OB}, ρ[j]? = some (.own o) → σ[j]? ≠ some (some (.ref p)) := fun {j o} q e => by
    obtain ⟨o', e1, a, ho', e2, h1, _⟩ := h.slot j _ q
    rw [e1, e2] at e
    cases e
    rw [hp] at h1; cases h1
  refine ⟨h.ext.allocH hp r.ordi, by simpa using h.len, fun j s q => ?_, fun j k o o' q1 q2 n => ?_⟩
  · by_cases hj : i = j
    · subst hj
      by_cases hl : i < ρ.length
      · rw [List.getElem?_set_self hl] at q
        cases q
        exact ⟨_, by rw [List.getElem?_set_self (by rw [← h.len]; exact hl)], p, ho, rfl, upd_same, hF, hB, r⟩
      · rw [List.getElem?_eq_none (by simpa using hl)] at q; cases q
    · rw [List.getElem?_set_ne hj] at q ⊢
      obtain ⟨o, e, q⟩ := h.slot j s q
      exact ⟨o, e, old q⟩
  · have lt : ∀ {j : Nat} {o : OB}, (ρ.set i (.own ob))[j]? = some (.own o) → j < ρ.length := fun {j o} q => by
      obtain ⟨hl, _⟩ := List.getElem?_eq_some_iff.mp q
      simpa using hl
    have l1 := lt q1
    have l2 := lt q2
    by_cases hj : i = j
    · subst hj
      have hk : i ≠ k := n
      rw [List.getElem?_set_ne hk] at q2 ⊢
      rw [List.getElem?_set_self (by rw [← h.len]; exact l1)]
      exact (other q2).symm
    · rw [List.getElem?_set_ne hj] at q1 ⊢
      by_cases hk : i = k
      · subst hk
        rw [List.getElem?_set_self (by rw [← h.len]; exact l2)]
        exact other q1
      · rw [List.getElem?_set_ne hk] at q2 ⊢
        exact h.apart j k o o' q1 q2 n
/-- an object of one's own is changed in place -/
theorem StR.change {F0 B : Hp} {ρ : List Sl} {σ : St} (h : StR K F0 B F ρ σ H) {i : Nat} {ob ob' : OB} {ho' : HO} {a : Addr} (q : ρ[i]? = some (.own ob)) (e : σ[i]? = some (some (.ref a))) (r' : ORep K F ob' ho') :
    StR K F0 B F (ρ.set i (.own ob')) σ (upd H a ho') := by
  obtain ⟨o, e1, a', ho, e2, h1, h2, h3, r⟩ := h.slot i _ q
  rw [e] at e1
  cases e1
  cases e2
  have others : ∀ {j : Nat} {s : Sl} {o : Option V}, j ≠ i → ρ[j]? = some s → σ[j]? = some o → SlotR K B F H s o → SlotR K B F (upd H a ho') s o := fun {j s o} n q2 e2 w => by
    cases s with
    | no => trivial
    | d x => exact w
    | own ob2 =>
      obtain ⟨a2, ho2, e3, k1, k2, k3, r2⟩ := w
      refine ⟨a2, ho2, e3, ?_, k2, k3, r2⟩
      rw [upd_ne ?_]
      · exact k1
      · intro z
        subst z
        exact h.apart j i _ _ q2 q n (by rw [e2, e, e3])
  refine ⟨h.ext.own h1 r.ordi r'.ordi h2 h3, by simpa using h.len, fun j s w => ?_, fun j k o o' q1 q2 n => ?_⟩
  · by_cases hj : i = j
    · subst hj
      obtain ⟨hl, _⟩ := List.getElem?_eq_some_iff.mp q
      rw [List.getElem?_set_self hl] at w
      cases w
      exact ⟨_, e, a, ho', rfl, upd_same, h2, h3, r'⟩
    · rw [List.getElem?_set_ne hj] at w
      obtain ⟨o, e3, w2⟩ := h.slot j s w
      exact ⟨o, e3, others (fun z => hj z.symm) w e3 w2⟩
  · have back : ∀ {j : Nat} {o : OB}, (ρ.set i (.own ob'))[j]? = some (.own o) → ∃ o2, ρ[j]? = some (.own o2) := fun {j o} w => by
      by_cases hj : i = j
      · subst hj; exact ⟨ob, q⟩
      · rw [List.getElem?_set_ne hj] at w; exact ⟨o, w⟩
    obtain ⟨o1, w1⟩ := back q1
    obtain ⟨o2, w2⟩ := back q2
    exact h.apart j k o1 o2 w1 w2 n
/-- an object of one's own is frozen -/
theorem StR.freeze {F0 B : Hp} {ρ : List Sl} {σ : St} (h : StR K F0 B F ρ σ H) {i : Nat} {ob : OB} (q : ρ[i]? = some (.own ob)) :
    ∃ F', Same F F' ∧ StR K F0 B F' (ρ.set i (.d ob.frz)) σ H := by
  obtain ⟨o, e, a, ho, e2, h1, h2, h3, r⟩ := h.slot i _ q
  subst e2
  have sm : Same F (upd F a ho) := fun b u w => by rw [upd_ne (ne_of_none w h2)]; exact w
  have rf : Rep K (upd F a ho) ob.frz (.ref a) := by
    cases ob with
    | lst l =>
      cases ho with
      | lst xs => exact .lst upd_same (RepL.mono sm r)
      | _ => exact r.elim
    | dic ks l =>
      cases ho with
      | dK kvs => exact .dic upd_same r.1 (r.2.mono sm)
      | _ => exact r.elim
  refine ⟨upd F a ho, sm, h.ext.freeze h1 r.ordi h2 h3, by simpa using h.len, fun j s w => ?_, fun j k o o' q1 q2 n => ?_⟩
  · by_cases hj : i = j
    · subst hj
      obtain ⟨hl, _⟩ := List.getElem?_eq_some_iff.mp q
      rw [List.getElem?_set_self hl] at w
      cases w
      exact ⟨_, e, _, rfl, rf⟩
    · rw [List.getElem?_set_ne hj] at w
      obtain ⟨o, e3, w2⟩ := h.slot j s w
      refine ⟨o, e3, ?_⟩
      cases s with
      | no => trivial
      | d x => obtain ⟨v, e4, r4⟩ := w2; exact ⟨v, e4, r4.mono sm⟩
      | own ob2 =>
        obtain ⟨a2, ho2, e4, k1, k2, k3, r2⟩ := w2
        refine ⟨a2, ho2, e4, k1, ?_, k3, r2.mono sm⟩
        rw [upd_ne ?_]
        · exact k2
        · intro z
          subst z
          exact h.apart j i _ _ w q (fun z => hj z.symm) (by rw [e3, e, e4])
  · have back : ∀ {j : Nat} {o : OB}, (ρ.set i (.d ob.frz))[j]? = some (.own o) → ρ[j]? = some (.own o) := fun {j o} w => by
      by_cases hj : i = j
      · subst hj
        obtain ⟨hl, _⟩ := List.getElem?_eq_some_iff.mp q
        rw [List.getElem?_set_self hl] at w; cases w
      · rw [List.getElem?_set_ne hj] at w; exact w
    exact h.apart j k _ _ (back q1) (back q2) n
/-- reading a slot -/
theorem StR.var {F0 B : Hp} {ρ : List Sl} {σ : St} (h : StR K F0 B F ρ σ H) {i : Nat} {x : D} (q : ρ[i]? = some (.d x)) : ∃ v, σ[i]? = some (some v) ∧ Rep K F x v := by
  obtain ⟨o, e, v, e2, r⟩ := h.slot i _ q
  subst e2
  exact ⟨v, e, r⟩
end
end Dy

/-! # The data layer: expressions. -/
namespace Dy
variable [Tn]
open PySem PySem.Spec PyProof.Rows L2

/-! ### weaker readings -/
section
variable {X : Cx}
theorem peImp {e : Expr} {t u : TE} (h : PE X e t) (w : ∀ σ H Q, u σ H Q → t σ H Q) : PE X e u := ⟨fun pins s σ H Q I q => h.run pins s σ H Q I (w _ _ _ q)⟩
theorem ptImp {e : Expr} {t u : TT} (h : PT X e t) (w : ∀ σ H Q, u σ H Q → t σ H Q) : PT X e u := ⟨fun pins s σ H Q I q => h.run pins s σ H Q I (w _ _ _ q)⟩
theorem pwImp {e : Expr} {t u : TT} (h : PW X e t) (w : ∀ σ H Q, u σ H Q → t σ H Q) : PW X e u := ⟨fun wh pins s σ H Q I q => h.run wh pins s σ H Q I (w _ _ _ q)⟩
theorem paImp {e : List Expr} {t u : TA} (h : PA X e t) (w : ∀ σ H Q, u σ H Q → t σ H Q) : PA X e u := ⟨fun pos pins s σ H Q I q => h.run pos pins s σ H Q I (w _ _ _ q)⟩
theorem psImp {e : Stmt} {t u : TS} (h : PS X e t) (w : ∀ D σ H, u D σ H → t D σ H) : PS X e u := ⟨fun pins s σ H D I q => h.run pins s σ H D I (w _ _ _ q)⟩
theorem pssImp {e : List Stmt} {t u : TS} (h : PSs X e t) (w : ∀ D σ H, u D σ H → t D σ H) : PSs X e u := ⟨fun pins s σ H D I q => h.run pins s σ H D I (w _ _ _ q)⟩
theorem oprImp {f : Value → Value → Sem Value} {r u : R2} (h : OpR X f r) (w : ∀ x y H Q, u x y H Q → r x y H Q) : OpR X f u := fun pins s σ H x y v v' Q I a b q => h pins s σ H x y v v' Q I a b (w _ _ _ _ q)
theorem unrImp {f : Value → Sem Value} {r u : V → Hp → VK → Prop} (h : UnR X f r) (w : ∀ x H Q, u x H Q → r x H Q) : UnR X f u := fun pins s σ H x v Q I a q => h pins s σ H x v Q I a (w _ _ _ q)
theorem callImp {f : Value} {r u : List V → Hp → VK → Prop} (h : CallR X f r) (w : ∀ x H Q, u x H Q → r x H Q) : CallR X f u := fun pins s σ H xs us Q I a q => h pins s σ H xs us Q I a (w _ _ _ q)
theorem ixImp {r u : R2} (h : IxR X r) (w : ∀ x y H Q, u x y H Q → r x y H Q) : IxR X u := fun ve se pins s σ H x y v v' Q I a b q z => h ve se pins s σ H x y v v' Q I a b (w _ _ _ _ q) z
theorem slImp {r u : V → Option Int → Option Int → Hp → VK → Prop} (h : SlR X r) (w : ∀ x a b H Q, u x a b H Q → r x a b H Q) : SlR X u := fun pins s σ H x v vl vu lo hi sl Q I a b c d q => h pins s σ H x v vl vu lo hi sl Q I a b c d (w _ _ _ _ _ q)
end

/-! ### readings over data -/
abbrev DE := List Sl → (D → Prop) → Prop
abbrev DT := List Sl → (Bool → Prop) → Prop
abbrev DA := List Sl → (List D → Prop) → Prop
section
variable (K : PySem.W.Frag)
/-- what is wanted of data at a value -/
def Fin (F H : Hp) (P : D → Prop) (Q : VK) : Prop := ∀ d, P d → ∀ v F' H', Ext F H F' H' → Rep K F' d v → Q v H'
def tE (f : DE) : TE := fun σ H Q => ∃ (F0 B F : Hp) (ρ : List Sl) (P : D → Prop), StR K F0 B F ρ σ H ∧ f ρ P ∧ Fin K F H P Q
def tT (f : DT) : TT := fun σ H Q => ∃ (F0 B F : Hp) (ρ : List Sl) (P : Bool → Prop), StR K F0 B F ρ σ H ∧ f ρ P ∧ ∀ b, P b → ∀ F' H', Ext F H F' H' → Q b H'
def tA (f : DA) : TA := fun σ H Q => ∃ (F0 B F : Hp) (ρ : List Sl) (P : List D → Prop), StR K F0 B F ρ σ H ∧ f ρ P ∧ ∀ ds, P ds → ∀ vs F' H', Ext F H F' H' → RepL K F' ds vs → Q vs H'
def r1D (h : D → (D → Prop) → Prop) : V → Hp → VK → Prop := fun vx H Q => ∃ (F : Hp) (dx : D) (P : D → Prop), Same F H ∧ NT F H ∧ Rep K F dx vx ∧ h dx P ∧ Fin K F H P Q
def r2D (h : D → D → (D → Prop) → Prop) : R2 := fun vx vy H Q => ∃ (F : Hp) (dx dy : D) (P : D → Prop), Same F H ∧ NT F H ∧ Rep K F dx vx ∧ Rep K F dy vy ∧ h dx dy P ∧ Fin K F H P Q
def rAD (h : List D → (D → Prop) → Prop) : List V → Hp → VK → Prop := fun vs H Q => ∃ (F : Hp) (ds : List D) (P : D → Prop), Same F H ∧ NT F H ∧ RepL K F ds vs ∧ h ds P ∧ Fin K F H P Q
end
abbrev ED (X : Cx) (e : Expr) (f : DE) : Prop := PE X e (tE X.K f)
abbrev TD (X : Cx) (e : Expr) (f : DT) : Prop := PT X e (tT X.K f)
abbrev WD (X : Cx) (e : Expr) (f : DT) : Prop := PW X e (tT X.K f)
abbrev AD (X : Cx) (es : List Expr) (f : DA) : Prop := PA X es (tA X.K f)
section
variable {K : PySem.W.Frag} {F H F' H' : Hp} {P : D → Prop} {Q : VK}
theorem Fin.at (h : Fin K F H P Q) (s : Same F H) (n : NT F H) {d : D} {v : V} (p : P d) (r : Rep K F d v) : Q v H := h d p v F H (Ext.refl s n) r
theorem Fin.new (h : Fin K F H P Q) (s : Same F H) (n : NT F H) {d : D} {p : Addr} {o : HO} (q : P d) (hp : H p = none) (ho : Ordi o) (r : Rep K (upd F p o) d (.ref p)) : Q (.ref p) (upd H p o) :=
  h d q (.ref p) (upd F p o) (upd H p o) ((Ext.refl s n).alloc hp ho) r
theorem Fin.later (h : Fin K F H P Q) (e : Ext F H F' H') : Fin K F' H' P Q := fun d p v F2 H2 e2 r => h d p v F2 H2 (e.trans e2) r
end

/-! ### names, constants -/
@[simp] def dVar (i : Nat) : DE := fun ρ P => ∃ x, ρ[i]? = some (.d x) ∧ P x
@[simp] def dC (x : D) : DE := fun _ P => P x
section
variable {X : Cx} {e a b : Expr} {f g : DE} {pos : Pos}
theorem toVar (i : Nat) : ∀ σ H Q, tE X.K (dVar i) σ H Q → tVar i σ H Q := fun σ H Q ⟨F0, B, F, ρ, P, S, ⟨x, e, p⟩, fin⟩ => by
  obtain ⟨v, e1, r⟩ := S.var e
  exact ⟨v, e1, fin.at S.fh S.nt p r⟩
theorem ed_var (i : Nat) {x : Str} (hN : X.N[i]? = some x := by rfl) (hv : Vis X.env.scope x := by first | exact Or.inl rfl | exact Or.inr (Or.inl rfl) | exact Or.inr (Or.inr rfl)) (hd : (x == ("__debug__" : Str)) = false := by decide)
    (hcd : (x == ("__classdict__" : Str)) = false := by decide) : ED X (.Name x pos) (dVar i) := peImp (pe_var hN hv hd hcd) (toVar i)
theorem toC {x : D} {v : V} (r : ∀ F, Rep X.K F x v) : ∀ σ H Q, tE X.K (dC x) σ H Q → tC v σ H Q := fun σ H Q ⟨F0, B, F, ρ, P, S, p, fin⟩ => fin.at S.fh S.nt p (r F)
theorem ed_int {i j} : ED X (.Constant (.int i) j pos) (dC (.int i)) := peImp pe_int (toC fun _ => .int i)
theorem ed_bl {b j} : ED X (.Constant (.bool b) j pos) (dC (.bl b)) := peImp pe_bl (toC fun _ => .bl b)
theorem ed_non {j} : ED X (.Constant .none j pos) (dC .non) := peImp pe_non (toC fun _ => .non)
theorem ed_str {x j} : ED X (.Constant (.str x) j pos) (dC (.str x)) := peImp pe_str (toC fun _ => .str x)
/-- a constant of the module -/
structure Gc (K : PySem.W.Frag) (mg : Str → Option Value) (x : Str) (d : D) : Prop where
  ex : ∃ (u : Value) (v : V), mg x = some u ∧ RelV v u ∧ ∀ F, Rep K F d v
theorem ed_glob {x : Str} {d : D} (g : Gc X.K X.mg x d) (hg : Gl X x := by rfl) (hd : (x == ("__debug__" : Str)) = false := by decide) : ED X (.Name x pos) (dC d) := by
  obtain ⟨u, v, hm, r, q⟩ := g.ex
  exact peImp (pe_glob hg hm r hd) (toC q)

/-! ### operators -/
@[simp] def dOp (h : D → D → (D → Prop) → Prop) (f g : DE) : DE := fun ρ P => f ρ fun x => g ρ fun y => h x y P
theorem toOp {h : D → D → (D → Prop) → Prop} : ∀ σ H Q, tE X.K (dOp h f g) σ H Q → tOp (r2D X.K h) (tE X.K f) (tE X.K g) σ H Q := fun σ H Q ⟨F0, B, F, ρ, P, S, q, fin⟩ =>
  ⟨F0, B, F, ρ, _, S, q, fun x hx vx F1 H1 E1 r1 => ⟨F0, B, F1, ρ, _, S.step E1, hx, fun y hy vy F2 H2 E2 r2 => ⟨F2, x, y, P, E2.fh, E2.nt, r1.mono E2.ff, r2, hy, (fin.later E1).later E2⟩⟩⟩
theorem ed_op {op : Operator} {h : D → D → (D → Prop) → Prop} (ho : OpR X (binaryOp op) (r2D X.K h)) (ha : ED X a f) (hb : ED X b g) : ED X (.BinOp a op b pos) (dOp h f g) := peImp (pe_op ho ha hb) toOp
theorem ed_cmp {op : CmpOp} {h : D → D → (D → Prop) → Prop} (ho : OpR X (compareOp op) (r2D X.K h)) (ha : ED X a f) (hb : ED X b g) (hm : behindInMarks op b = false) : ED X (.Compare a [op] [b] pos) (dOp h f g) := peImp (pe_cmpR ho ha hb hm) toOp
/-- a test by its value -/
def dTest (f : DE) : DT := fun ρ P => f ρ fun x => ∃ k, x = .bl k ∧ P k
theorem toTest : ∀ σ H Q, tT X.K (dTest f) σ H Q → tTest (tE X.K f) σ H Q := fun σ H Q ⟨F0, B, F, ρ, P, S, q, fin⟩ =>
  ⟨F0, B, F, ρ, _, S, q, fun x hx vx F1 H1 E1 r1 => by
    obtain ⟨k, e, p⟩ := hx
    subst e
    cases r1
    exact ⟨k, rfl, fin k p F1 H1 E1⟩⟩
theorem tTest_imp {t u : TE} (w : ∀ σ H Q, u σ H Q → t σ H Q) : ∀ σ H Q, tTest u σ H Q → tTest t σ H Q := fun σ H Q q => w _ _ _ q
theorem td_cmp {op : CmpOp} {h : D → D → (D → Prop) → Prop} (ho : OpR X (compareOp op) (r2D X.K h)) (ha : ED X a f) (hb : ED X b g) (hm : behindInMarks op b = false) : TD X (.Compare a [op] [b] pos) (dTest (dOp h f g)) :=
  ptImp (pt_cmpR ho ha hb hm) fun σ H Q q => tTest_imp toOp σ H Q (toTest σ H Q q)
theorem td_val (h : ED X e f) (he : ∀ whole, isTrue e X.env whole = (do let v ← whole; standAt e.pos; holding [v] (truthy v)) := by intro _; rfl) : TD X e (dTest f) :=
  ptImp (pt_val h he) fun σ H Q q => toTest σ H Q q
@[simp] def dAndT (t u : DT) : DT := fun ρ P => t ρ fun c => if c = true then u ρ P else P false
@[simp] def dOrT (t u : DT) : DT := fun ρ P => t ρ fun c => if c = true then P true else u ρ P
@[simp] def dNotT (t : DT) : DT := fun ρ P => t ρ fun c => P (!c)
variable {t u : DT} {rest : List Expr}
theorem wd_and1 (ha : TD X a t) : WD X (.BoolOp .And [a] pos) t := pw_and1 ha
theorem wd_or1 (ha : TD X a t) : WD X (.BoolOp .Or [a] pos) t := pw_or1 ha
theorem wd_and (ha : TD X a t) (hb : WD X (.BoolOp .And (b :: rest) pos) u) : WD X (.BoolOp .And (a :: b :: rest) pos) (dAndT t u) := pwImp (pw_and ha hb) fun σ H Q ⟨F0, B, F, ρ, P, S, q, fin⟩ =>
  ⟨F0, B, F, ρ, _, S, q, fun c hc F1 H1 E1 => by
    cases c with
    | true => exact ⟨F0, B, F1, ρ, P, S.step E1, hc, fun b p F2 H2 E2 => fin b p F2 H2 (E1.trans E2)⟩
    | false => exact fin false hc F1 H1 E1⟩
theorem wd_or (ha : TD X a t) (hb : WD X (.BoolOp .Or (b :: rest) pos) u) : WD X (.BoolOp .Or (a :: b :: rest) pos) (dOrT t u) := pwImp (pw_or ha hb) fun σ H Q ⟨F0, B, F, ρ, P, S, q, fin⟩ =>
  ⟨F0, B, F, ρ, _, S, q, fun c hc F1 H1 E1 => by
    cases c with
    | false => exact ⟨F0, B, F1, ρ, P, S.step E1, hc, fun b p F2 H2 E2 => fin b p F2 H2 (E1.trans E2)⟩
    | true => exact fin true hc F1 H1 E1⟩
theorem td_not (ha : TD X a t) : TD X (.UnaryOp .Not a pos) (dNotT t) := ptImp (pt_not ha) fun σ H Q ⟨F0, B, F, ρ, P, S, q, fin⟩ => ⟨F0, B, F, ρ, _, S, q, fun c hc F1 H1 E1 => fin _ hc F1 H1 E1⟩
/-- and, or, not as values -/
def dAnd (f g : DE) : DE := fun ρ P => f ρ fun x => ∃ c, x = .bl c ∧ if c = true then g ρ P else P (.bl false)
def dOr (f g : DE) : DE := fun ρ P => f ρ fun x => ∃ c, x = .bl c ∧ if c = true then P (.bl true) else g ρ P
def dNot (f : DE) : DE := fun ρ P => f ρ fun x => ∃ c, x = .bl c ∧ P (.bl (!c))
theorem ed_one {op} (h : ED X a f) : ED X (.BoolOp op [a] pos) f := pe_one h
theorem ed_and (ha : ED X a f) (hb : ED X (.BoolOp .And (b :: rest) pos) g) : ED X (.BoolOp .And (a :: b :: rest) pos) (dAnd f g) := peImp (pe_and ha hb) fun σ H Q ⟨F0, B, F, ρ, P, S, q, fin⟩ =>
  ⟨F0, B, F, ρ, _, S, q, fun x hx v F1 H1 E1 r1 => by
    obtain ⟨c, e, hc⟩ := hx
    subst e
    cases r1
    refine ⟨c, rfl, ?_⟩
    cases c with
    | true => exact ⟨F0, B, F1, ρ, P, S.step E1, hc, fin.later E1⟩
    | false => exact fin _ hc _ F1 H1 E1 (.bl false)⟩
theorem ed_or (ha : ED X a f) (hb : ED X (.BoolOp .Or (b :: rest) pos) g) : ED X (.BoolOp .Or (a :: b :: rest) pos) (dOr f g) := peImp (pe_or ha hb) fun σ H Q ⟨F0, B, F, ρ, P, S, q, fin⟩ =>
  ⟨F0, B, F, ρ, _, S, q, fun x hx v F1 H1 E1 r1 => by
    obtain ⟨c, e, hc⟩ := hx
    subst e
    cases r1
    refine ⟨c, rfl, ?_⟩
    cases c with
    | false => exact ⟨F0, B, F1, ρ, P, S.step E1, hc, fin.later E1⟩
    | true => exact fin _ hc _ F1 H1 E1 (.bl true)⟩
theorem ed_not (ha : ED X a f) : ED X (.UnaryOp .Not a pos) (dNot f) := peImp (pe_not ha) fun σ H Q ⟨F0, B, F, ρ, P, S, q, fin⟩ =>
  ⟨F0, B, F, ρ, _, S, q, fun x hx v F1 H1 E1 r1 => by
    obtain ⟨c, e, hc⟩ := hx
    subst e
    cases r1
    exact ⟨c, rfl, fin _ hc _ F1 H1 E1 (.bl _)⟩⟩
@[simp] def dIfE (t : DT) (f g : DE) : DE := fun ρ P => t ρ fun c => if c = true then f ρ P else g ρ P
theorem ed_ifExp {c : Expr} (hc : TD X c t) (ha : ED X a f) (hb : ED X b g) : ED X (.IfExp c a b pos) (dIfE t f g) := peImp (pe_ifExp hc ha hb) fun σ H Q ⟨F0, B, F, ρ, P, S, q, fin⟩ =>
  ⟨F0, B, F, ρ, _, S, q, fun c hc F1 H1 E1 => by
    cases c with
    | true => exact ⟨F0, B, F1, ρ, P, S.step E1, hc, fin.later E1⟩
    | false => exact ⟨F0, B, F1, ρ, P, S.step E1, hc, fin.later E1⟩⟩
@[simp] def dUn (h : D → (D → Prop) → Prop) (f : DE) : DE := fun ρ P => f ρ fun x => h x P
theorem ed_un {op : UnaryOp} {h : D → (D → Prop) → Prop} (ho : UnR X (unaryOp op) (r1D X.K h)) (ha : ED X a f) : ED X (.UnaryOp op a pos) (dUn h f) := peImp (pe_un ho ha) fun σ H Q ⟨F0, B, F, ρ, P, S, q, fin⟩ =>
  ⟨F0, B, F, ρ, _, S, q, fun x hx v F1 H1 E1 r1 => ⟨F1, x, P, E1.fh, E1.nt, r1, hx, fin.later E1⟩⟩
/-- a < b < c -/
def dChain (h h' : D → D → (D → Prop) → Prop) (f g k : DE) : DE := fun ρ P => f ρ fun x => g ρ fun y => h x y fun z => ∃ c, z = .bl c ∧ if c = true then k ρ fun w' => h' y w' P else P (.bl false)
theorem ed_chain {op op' : CmpOp} {h h' : D → D → (D → Prop) → Prop} {c : Expr} {k : DE} (ho : OpR X (compareOp op) (r2D X.K h)) (ho' : OpR X (compareOp op') (r2D X.K h')) (ha : ED X a f) (hb : ED X b g) (hc : ED X c k)
    (hm : lastMarks [op, op'] [b, c] = false := by with_unfolding_all rfl) : ED X (.Compare a [op, op'] [b, c] pos) (dChain h h' f g k) := peImp (pe_chain ho ho' ha hb hc hm) fun σ H Q ⟨F0, B, F, ρ, P, S, q, fin⟩ =>
  ⟨F0, B, F, ρ, _, S, q, fun x hx vx F1 H1 E1 r1 => ⟨F0, B, F1, ρ, _, S.step E1, hx, fun y hy vy F2 H2 E2 r2 => ⟨F2, x, y, _, E2.fh, E2.nt, r1.mono E2.ff, r2, hy, fun z hz vz F3 H3 E3 r3 => by
    obtain ⟨c, e, hc⟩ := hz
    subst e
    cases r3
    refine ⟨c, rfl, ?_⟩
    cases c with
    | true => exact ⟨F0, B, F3, ρ, _, ((S.step E1).step E2).step E3, hc, fun w' hw' vw F4 H4 E4 r4 => ⟨F4, y, w', P, E4.fh, E4.nt, (r2.mono E3.ff).mono E4.ff, r4, hw', ((fin.later E1).later E2).later (E3.trans E4)⟩⟩
    | false => exact fin _ hc _ F3 H3 (E1.trans (E2.trans E3)) (.bl false)⟩⟩⟩
theorem td_chain {op op' : CmpOp} {h h' : D → D → (D → Prop) → Prop} {c : Expr} {k : DE} (ho : OpR X (compareOp op) (r2D X.K h)) (ho' : OpR X (compareOp op') (r2D X.K h')) (ha : ED X a f) (hb : ED X b g) (hc : ED X c k)
    (hm : lastMarks [op, op'] [b, c] = false := by with_unfolding_all rfl) : TD X (.Compare a [op, op'] [b, c] pos) (dTest (dChain h h' f g k)) := ptImp (pt_chain ho ho' ha hb hc hm) fun σ H Q q => by
  obtain ⟨F0, B, F, ρ, P, S, q, fin⟩ := q
  exact ⟨F0, B, F, ρ, _, S, q, fun x hx vx F1 H1 E1 r1 => ⟨F0, B, F1, ρ, _, S.step E1, hx, fun y hy vy F2 H2 E2 r2 => ⟨F2, x, y, _, E2.fh, E2.nt, r1.mono E2.ff, r2, hy, fun z hz vz F3 H3 E3 r3 => by
    obtain ⟨c, e, hc⟩ := hz
    subst e
    cases r3
    refine ⟨c, rfl, ?_⟩
    cases c with
    | true => exact ⟨F0, B, F3, ρ, _, ((S.step E1).step E2).step E3, hc, fun w' hw' vw F4 H4 E4 r4 => ⟨F4, y, w', _, E4.fh, E4.nt, (r2.mono E3.ff).mono E4.ff, r4, hw', fun d hd v F5 H5 E5 r5 => by
        obtain ⟨k, e, p⟩ := hd
        subst e
        cases r5
        exact ⟨k, rfl, fin k p F5 H5 (E1.trans (E2.trans (E3.trans (E4.trans E5))))⟩⟩⟩
    | false =>
      obtain ⟨k, e, p⟩ := hc
      cases e
      exact iteF ⟨false, rfl, fin false p F3 H3 (E1.trans (E2.trans E3))⟩⟩⟩⟩

/-! ### arguments, displays -/
@[simp] def dNil : DA := fun _ P => P []
@[simp] def dCons (f : DE) (g : DA) : DA := fun ρ P => f ρ fun x => g ρ fun xs => P (x :: xs)
variable {es : List Expr} {k : DA}
theorem ad_nil : AD X [] dNil := paImp pa_nil fun σ H Q ⟨F0, B, F, ρ, P, S, q, fin⟩ => fin [] q [] F H S.selfExt .nil
theorem ad_cons (ha : ED X e f) (hr : AD X es k) (hs : starEach (e :: es) X.env = (false, eval e X.env) :: starEach es X.env := by rfl) : AD X (e :: es) (dCons f k) := paImp (pa_cons ha hr hs) fun σ H Q ⟨F0, B, F, ρ, P, S, q, fin⟩ =>
  ⟨F0, B, F, ρ, _, S, q, fun x hx vx F1 H1 E1 r1 => ⟨F0, B, F1, ρ, _, S.step E1, hx, fun xs hxs vs F2 H2 E2 r2 => fin _ hxs _ F2 H2 (E1.trans E2) (.cons (r1.mono E2.ff) r2)⟩⟩
@[simp] def dTup (g : DA) : DE := fun ρ P => g ρ fun xs => xs.length ≤ 1000000 ∧ P (.tup xs)
@[simp] def dLst (g : DA) : DE := fun ρ P => g ρ fun xs => xs.length ≤ 1000000 ∧ P (.lst xs)
theorem smallM {n : Nat} (h : n ≤ 1000000) : n < sizeLine := by rw [sizeLine_eq]; omega
theorem le_line {n : Nat} (h : n ≤ 1000000) : n ≤ sizeLine := Nat.le_of_lt (smallM h)
theorem ed_tup {x1} (h : AD X es k) : ED X (.Tuple es x1 pos) (dTup k) := peImp (pe_tup h) fun σ H Q ⟨F0, B, F, ρ, P, S, q, fin⟩ =>
  ⟨F0, B, F, ρ, _, S, q, fun xs ⟨hl, hx⟩ vs F1 H1 E1 r1 => ⟨by rw [← r1.length]; exact le_line hl, fun p hp => (fin.later E1).new E1.fh E1.nt hx hp trivial (.tup (SqT.of upd_same) (r1.mono (same_alloc E1.fh hp)))⟩⟩
theorem ed_lst (h : AD X es k) : ED X (.List es pos) (dLst k) := peImp (pe_lst h) fun σ H Q ⟨F0, B, F, ρ, P, S, q, fin⟩ =>
  ⟨F0, B, F, ρ, _, S, q, fun xs ⟨hl, hx⟩ vs F1 H1 E1 r1 => ⟨by rw [← r1.length]; exact le_line hl, fun p hp => (fin.later E1).new E1.fh E1.nt hx hp trivial (.lst upd_same (r1.mono (same_alloc E1.fh hp)))⟩⟩
end
end Dy

/-! # The data layer: operators, built-ins, calls. -/
namespace Dy
variable [Tn]
open PySem PySem.Spec PyProof.Rows L2

/-! ### data as the library's own data, equality -/
mutual
def toPy : D → PyData
  | .non => .none
  | .bl b => .bool b
  | .int i => .int i
  | .str x => .str x
  | .tup l => .tuple (toPyL l)
  | .lst l => .list (toPyL l)
  | .scr ns => .list (ns.map .int)
  | .dic _ _ => .none
  | .ins _ _ _ => .none
def toPyL : List D → List PyData
  | [] => []
  | d :: l => toPy d :: toPyL l
end
theorem toPyL_map : ∀ l : List D, toPyL l = l.map toPy
  | [] => rfl
  | d :: l => by rw [toPyL, toPyL_map l]; rfl
/-- plain data of at most that depth -/
def lay : Nat → D → Bool
  | _, .non => true
  | _, .bl _ => true
  | _, .int _ => true
  | _, .str x => PyData.strOk x
  | n + 1, .tup l => l.all (lay n)
  | n + 1, .lst l => l.all (lay n)
  | _ + 1, .scr _ => true
  | _, _ => false
theorem lay_mono : ∀ {n : Nat} {d : D}, lay n d = true → lay (n + 1) d = true := by
  intro n
  induction n with
  | zero =>
    intro d h
    cases d <;> simp_all [lay]
  | succ n ih =>
    intro d h
    cases d with
    | tup l =>
      simp only [lay] at h ⊢
      exact List.all_eq_true.mpr fun x hx => ih (List.all_eq_true.mp h x hx)
    | lst l =>
      simp only [lay] at h ⊢
      exact List.all_eq_true.mpr fun x hx => ih (List.all_eq_true.mp h x hx)
    | _ => simp_all [lay]
theorem lay_le {m n : Nat} (h : m ≤ n) {d : D} (y : lay m d = true) : lay n d = true := by
  induction h with
  | refl => exact y
  | step _ ih => exact lay_mono ih
theorem lay_ints : ∀ ns : List Int, PyData.canLayAll0 (ns.map .int) = true ∧ PyData.depthAll (ns.map .int) = 0
  | [] => ⟨rfl, rfl⟩
  | n :: ns => by
    obtain ⟨h1, h2⟩ := lay_ints ns
    simp only [List.map_cons, PyData.canLayAll0, PyData.canLay0, PyData.depthAll, PyData.depth, h1, h2]
    exact ⟨rfl, rfl⟩
theorem lay_ok : ∀ (n : Nat) (d : D), lay n d = true → (toPy d).canLay0 = true ∧ (toPy d).depth ≤ n := by
  intro n
  induction n with
  | zero =>
    intro d h
    cases d <;> simp_all [lay, toPy, PyData.canLay0, PyData.depth]
  | succ n ih =>
    have all : ∀ l : List D, l.all (lay n) = true → PyData.canLayAll0 (toPyL l) = true ∧ PyData.depthAll (toPyL l) ≤ n := by
      intro l
      induction l with
      | nil => intro _; simp [toPyL, PyData.canLayAll0, PyData.depthAll]
      | cons d l ihl =>
        intro h
        simp only [List.all_cons, Bool.and_eq_true] at h
        obtain ⟨a1, a2⟩ := ih d h.1
        obtain ⟨b1, b2⟩ := ihl h.2
        simp only [toPyL, PyData.canLayAll0, PyData.depthAll, a1, b1]
        exact ⟨rfl, by omega⟩
    intro d h
    cases d with
    | tup l =>
      obtain ⟨a, b⟩ := all l h
      simp only [toPy, PyData.canLay0, PyData.depth, a]
      exact ⟨trivial, by omega⟩
    | lst l =>
      obtain ⟨a, b⟩ := all l h
      simp only [toPy, PyData.canLay0, PyData.depth, a]
      exact ⟨trivial, by omega⟩
    | scr ns =>
      obtain ⟨a, b⟩ := lay_ints ns
      simp only [toPy, PyData.canLay0, PyData.depth, a, b]
      exact ⟨trivial, by omega⟩
    | non => simp [toPy, PyData.canLay0, PyData.depth]
    | bl b => simp [toPy, PyData.canLay0, PyData.depth]
    | int i => simp [toPy, PyData.canLay0, PyData.depth]
    | str x =>
      have h' : PyData.strOk x = true := h
      simp [toPy, PyData.canLay0, PyData.depth, h']
    | dic _ _ => simp [lay] at h
    | ins _ _ _ => simp [lay] at h
theorem lay_shaped {d : D} (h : lay 60 d = true) : SeqAt.shaped (toPy d) = true := by
  obtain ⟨a, b⟩ := lay_ok 60 d h
  unfold SeqAt.shaped
  rw [a, Bool.true_and]
  exact decide_eq_true (by omega)
section
variable {K : PySem.W.Frag} {F H : Hp}
theorem dpAll_ints : ∀ ns : List Int, DpAll K H (ns.map V.int) (ns.map .int)
  | [] => .nil
  | n :: ns => .cons (.int n) (dpAll_ints ns)
mutual
theorem Rep.dp (s : Same F H) : ∀ {d : D} {v : V} (n : Nat), Rep K F d v → lay n d = true → Dp K H v (toPy d)
  | _, _, _, .non, _ => by rw [toPy]; exact .non
  | _, _, _, .bl b, _ => by rw [toPy]; exact .bl b
  | _, _, _, .int i, _ => by rw [toPy]; exact .int i
  | _, _, _, .str x, _ => by rw [toPy]; exact .str x
  | _, _, n + 1, .tup h r, y => by rw [toPy]; exact .tup (Same.sqT s h) (r.dp s n y)
  | _, _, n + 1, .lst h r, y => by rw [toPy]; exact .lst (SqL.of (s _ _ h)) (r.dp s n y)
  | _, _, n + 1, .scr (ns := ns) h, y => by rw [toPy]; exact .lst (s.seq h) (dpAll_ints ns)
  | _, _, 0, .tup h r, y => by simp [lay] at y
  | _, _, 0, .lst h r, y => by simp [lay] at y
  | _, _, 0, .scr h, y => by simp [lay] at y
  | _, _, n, .dic h q r, y => by simp [lay] at y
  | _, _, n, .ins h q r, y => by simp [lay] at y
theorem RepL.dp (s : Same F H) : ∀ {l : List D} {xs : List V} (n : Nat), RepL K F l xs → l.all (lay n) = true → DpAll K H xs (toPyL l)
  | _, _, _, .nil, _ => by rw [toPyL]; exact .nil
  | d :: l, _, n, .cons h r, y => by
    rw [toPyL]
    have y' : lay n d = true ∧ l.all (lay n) = true := by simpa only [List.all_cons, Bool.and_eq_true] using y
    exact .cons (h.dp s n y'.1) (r.dp s n y'.2)
end
end
def eqv (x y : D) : Bool := PyData.eqv (toPy x) (toPy y)

/-! ### operators -/
@[simp] def addD : D → D → (D → Prop) → Prop
  | .int i, .int j, P => P (.int (i + j))
  | .lst a, .lst b, P => a.length + b.length ≤ 1000000 ∧ P (.lst (a ++ b))
  | _, _, _ => False
@[simp] def subD : D → D → (D → Prop) → Prop
  | .int i, .int j, P => P (.int (i - j))
  | _, _, _ => False
@[simp] def mulD : D → D → (D → Prop) → Prop
  | .int i, .int j, P => IntMulOk i j ∧ P (.int (i * j))
  | .lst l, .int k, P => 0 ≤ k ∧ k ≤ 1000000 ∧ l.length * k.toNat ≤ 1000000 ∧ P (.lst (List.replicate k.toNat l).flatten)
  | _, _, _ => False
@[simp] def fdivD : D → D → (D → Prop) → Prop
  | .int i, .int j, P => CDivW i j ∧ P (.int (i / j))
  | _, _, _ => False
@[simp] def modD : D → D → (D → Prop) → Prop
  | .int i, .int j, P => 0 < j ∧ P (.int (i % j))
  | _, _, _ => False
@[simp] def powD : D → D → (D → Prop) → Prop
  | .int i, .int j, P => CPow i j ∧ P (.int (i ^ j.toNat))
  | _, _, _ => False
@[simp] def negD : D → (D → Prop) → Prop
  | .int i, P => P (.int (-i))
  | _, _ => False
@[simp] def eqD (x y : D) (P : D → Prop) : Prop := lay 60 x = true ∧ lay 60 y = true ∧ P (.bl (eqv x y))
@[simp] def neD (x y : D) (P : D → Prop) : Prop := lay 60 x = true ∧ lay 60 y = true ∧ P (.bl (!eqv x y))
@[simp] def cmpD (p : Int → Int → Bool) : D → D → (D → Prop) → Prop
  | .int i, .int j, P => P (.bl (p i j))
  | _, _, _ => False
@[simp] def ltD : D → D → (D → Prop) → Prop
  | .int i, .int j, P => P (.bl (decide (i < j)))
  | .tup a, .tup b, P => ∃ ns ms : List Int, a = ns.map .int ∧ b = ms.map .int ∧ P (.bl (HT.lexLt ns ms))
  | _, _, _ => False
@[simp] def inD (neg : Bool) (x y : D) (P : D → Prop) : Prop := ∃ (i : Int) (ns : List Int), x = .int i ∧ (y = .lst (ns.map .int) ∨ y = .tup (ns.map .int)) ∧ P (.bl (if neg then !decide (i ∈ ns) else decide (i ∈ ns)))
@[simp] def isND (x y : D) (P : D → Prop) : Prop := y = .non ∧ P (.bl (match x with | .non => true | _ => false))
@[simp] def notND (x y : D) (P : D → Prop) : Prop := y = .non ∧ P (.bl (match x with | .non => false | _ => true))
theorem inV_ints (i : Int) : ∀ ns : List Int, inV (.int i) (ns.map V.int) = decide (i ∈ ns)
  | [] => by simp [inV]
  | n :: ns => by
    have ih := inV_ints i ns
    unfold inV at ih ⊢
    rw [List.map_cons, List.any_cons, ih]
    by_cases h : n = i
    · subst h
      simp [eqV]
    · have h2 : ¬ i = n := fun e => h e.symm
      simp [eqV, h, h2]
theorem flat_ints : ∀ ns : List Int, (ns.map V.int).all flatV = true
  | [] => rfl
  | n :: ns => by rw [List.map_cons, List.all_cons, flat_ints ns]; rfl
section
variable {X : Cx}
theorem oAdd : OpR X (binaryOp .Add) (r2D X.K addD) := oprImp (op_add.or op_cat) fun x y H Q ⟨F, dx, dy, P, s, n, r1, r2, h, fin⟩ => by
  cases r1 with
  | int i =>
    cases r2 with
    | int j => exact .inl ⟨i, j, rfl, rfl, fin.at s n h (.int _)⟩
    | _ => exact h.elim
  | @lst a xs l h1 q1 =>
    cases r2 with
    | @lst b ys l' h2 q2 =>
      obtain ⟨hl, h⟩ := h
      exact .inr ⟨a, b, xs, ys, rfl, rfl, s _ _ h1, s _ _ h2, by rw [← q1.length, ← q2.length]; exact le_line hl, fun p hp => fin.new s n h hp trivial (.lst upd_same ((q1.append q2).mono (same_alloc s hp)))⟩
    | _ => exact h.elim
  | _ => exact h.elim
theorem oSub : OpR X (binaryOp .Sub) (r2D X.K subD) := oprImp op_sub fun x y H Q ⟨F, dx, dy, P, s, n, r1, r2, h, fin⟩ => by
  cases r1 with
  | int i =>
    cases r2 with
    | int j => exact ⟨i, j, rfl, rfl, fin.at s n h (.int _)⟩
    | _ => exact h.elim
  | _ => exact h.elim
theorem op_mulAny : OpR X (binaryOp .Mult) (rI IntMulOk fun i j => .int (i * j)) := opI fun _ _ _ _ _ _ _ hc q => mul_int q hc
theorem oMul : OpR X (binaryOp .Mult) (r2D X.K mulD) := oprImp (op_mulAny.or op_rep) fun x y H Q ⟨F, dx, dy, P, s, n, r1, r2, h, fin⟩ => by
  cases r1 with
  | int i =>
    cases r2 with
    | int j => exact .inl ⟨i, j, rfl, rfl, h.1, fin.at s n h.2 (.int _)⟩
    | _ => exact h.elim
  | @lst a xs l h1 q1 =>
    cases r2 with
    | int k =>
      obtain ⟨h0, h9, hl, h⟩ := h
      exact .inr ⟨a, k, xs, rfl, rfl, s _ _ h1, by omega, by omega, by rw [← q1.length]; exact le_line hl, fun p hp => fin.new s n h hp trivial (.lst upd_same ((q1.flat _).mono (same_alloc s hp)))⟩
    | _ => exact h.elim
  | _ => exact h.elim
theorem oFdiv : OpR X (binaryOp .FloorDiv) (r2D X.K fdivD) := oprImp op_fdivW fun x y H Q ⟨F, dx, dy, P, s, n, r1, r2, h, fin⟩ => by
  cases r1 with
  | int i =>
    cases r2 with
    | int j => exact ⟨i, j, rfl, rfl, h.1, fin.at s n h.2 (.int _)⟩
    | _ => exact h.elim
  | _ => exact h.elim
theorem oMod : OpR X (binaryOp .Mod) (r2D X.K modD) := oprImp op_mod fun x y H Q ⟨F, dx, dy, P, s, n, r1, r2, h, fin⟩ => by
  cases r1 with
  | int i =>
    cases r2 with
    | int j => exact ⟨i, j, rfl, rfl, h.1, fin.at s n h.2 (.int _)⟩
    | _ => exact h.elim
  | _ => exact h.elim
theorem oPow : OpR X (binaryOp .Pow) (r2D X.K powD) := oprImp op_pow fun x y H Q ⟨F, dx, dy, P, s, n, r1, r2, h, fin⟩ => by
  cases r1 with
  | int i =>
    cases r2 with
    | int j => exact ⟨i, j, rfl, rfl, h.1, fin.at s n h.2 (.int _)⟩
    | _ => exact h.elim
  | _ => exact h.elim
theorem uNeg : UnR X (unaryOp .USub) (r1D X.K negD) := unrImp un_neg fun x H Q ⟨F, dx, P, s, n, r1, h, fin⟩ => by
  cases r1 with
  | int i => exact ⟨i, rfl, fin.at s n h (.int _)⟩
  | _ => exact h.elim
theorem oEq (hu : X.A.units + 64 < cLine) : OpR X (compareOp .Eq) (r2D X.K eqD) := oprImp (op_eqD hu) fun x y H Q ⟨F, dx, dy, P, s, n, r1, r2, ⟨h1, h2, h⟩, fin⟩ =>
  ⟨_, _, r1.dp s 60 h1, r2.dp s 60 h2, lay_shaped h1, lay_shaped h2, fin.at s n h (.bl _)⟩
theorem oNe (hu : X.A.units + 64 < cLine) : OpR X (compareOp .NotEq) (r2D X.K neD) := oprImp (op_neD hu) fun x y H Q ⟨F, dx, dy, P, s, n, r1, r2, ⟨h1, h2, h⟩, fin⟩ =>
  ⟨_, _, r1.dp s 60 h1, r2.dp s 60 h2, lay_shaped h1, lay_shaped h2, fin.at s n h (.bl _)⟩
theorem oCmp {f : Value → Value → Sem Value} {p : Int → Int → Bool} (ho : OpR X f (rI0 fun i j => .bl (p i j))) : OpR X f (r2D X.K (cmpD p)) := oprImp ho fun x y H Q ⟨F, dx, dy, P, s, n, r1, r2, h, fin⟩ => by
  cases r1 with
  | int i =>
    cases r2 with
    | int j => exact ⟨i, j, rfl, rfl, fin.at s n h (.bl _)⟩
    | _ => exact h.elim
  | _ => exact h.elim
theorem oLe : OpR X (compareOp .LtE) (r2D X.K (cmpD fun i j => decide (i ≤ j))) := oCmp op_le
theorem oGt : OpR X (compareOp .Gt) (r2D X.K (cmpD fun i j => decide (j < i))) := oCmp op_gt
theorem oGe : OpR X (compareOp .GtE) (r2D X.K (cmpD fun i j => decide (j ≤ i))) := oCmp op_ge
theorem oLt (hu : X.A.units < cLine) : OpR X (compareOp .Lt) (r2D X.K ltD) := oprImp (op_lt.or (op_ltT hu)) fun x y H Q ⟨F, dx, dy, P, s, n, r1, r2, h, fin⟩ => by
  cases r1 with
  | int i =>
    cases r2 with
    | int j => exact .inl ⟨i, j, rfl, rfl, fin.at s n h (.bl _)⟩
    | _ => exact h.elim
  | @tup a xs l h1 q1 =>
    cases r2 with
    | @tup b ys l' h2 q2 =>
      obtain ⟨ns, ms, e1, e2, h⟩ := h
      subst e1 e2
      rw [q1.ints] at h1
      rw [q2.ints] at h2
      exact .inr ⟨a, b, ns, ms, rfl, rfl, Same.sqT s h1, Same.sqT s h2, fin.at s n h (.bl _)⟩
    | _ => exact h.elim
  | _ => exact h.elim
theorem oIn : OpR X (compareOp .In) (r2D X.K (inD false)) := oprImp op_in_seq fun x y H Q ⟨F, dx, dy, P, s, n, r1, r2, ⟨i, ns, e1, e2, h⟩, fin⟩ => by
  subst e1
  cases r1
  rcases e2 with e2 | e2
  · subst e2
    cases r2 with
    | @lst b ys _ h2 q2 =>
      rw [q2.ints] at h2
      refine ⟨b, _, rfl, .inl (SqL.of (s _ _ h2)), rfl, flat_ints ns, ?_⟩
      rw [inV_ints]
      exact fin.at s n h (.bl _)
  · subst e2
    cases r2 with
    | @tup b ys _ h2 q2 =>
      rw [q2.ints] at h2
      refine ⟨b, _, rfl, .inr (Same.sqT s h2), rfl, flat_ints ns, ?_⟩
      rw [inV_ints]
      exact fin.at s n h (.bl _)
theorem oNotIn : OpR X (compareOp .NotIn) (r2D X.K (inD true)) := oprImp op_notIn_seq fun x y H Q ⟨F, dx, dy, P, s, n, r1, r2, ⟨i, ns, e1, e2, h⟩, fin⟩ => by
  subst e1
  cases r1
  rcases e2 with e2 | e2
  · subst e2
    cases r2 with
    | @lst b ys _ h2 q2 =>
      rw [q2.ints] at h2
      refine ⟨b, _, rfl, .inl (SqL.of (s _ _ h2)), rfl, flat_ints ns, ?_⟩
      rw [inV_ints]
      exact fin.at s n h (.bl _)
  · subst e2
    cases r2 with
    | @tup b ys _ h2 q2 =>
      rw [q2.ints] at h2
      refine ⟨b, _, rfl, .inr (Same.sqT s h2), rfl, flat_ints ns, ?_⟩
      rw [inV_ints]
      exact fin.at s n h (.bl _)
theorem oIsN : OpR X (compareOp .Is) (r2D X.K isND) := oprImp op_isN fun x y H Q ⟨F, dx, dy, P, s, n, r1, r2, ⟨e, h⟩, fin⟩ => by
  subst e
  cases r2
  refine ⟨rfl, ?_⟩
  cases r1 <;> exact fin.at s n h (.bl _)
theorem oNotN : OpR X (compareOp .IsNot) (r2D X.K notND) := oprImp op_notN fun x y H Q ⟨F, dx, dy, P, s, n, r1, r2, ⟨e, h⟩, fin⟩ => by
  subst e
  cases r2
  refine ⟨rfl, ?_⟩
  cases r1 <;> exact fin.at s n h (.bl _)

/-! ### subscripts -/
@[simp] def ixD : D → D → (D → Prop) → Prop
  | .lst l, .int i, P => ∃ d, atI l i = some d ∧ P d
  | .tup l, .int i, P => ∃ d, atI l i = some d ∧ P d
  | .scr l, .int i, P => ∃ d, atI l i = some d ∧ P (.int d)
  | _, _, _ => False
theorem RepL.atI {K : PySem.W.Frag} {F : Hp} {l : List D} {xs : List V} {i : Int} {d : D} (r : RepL K F l xs) (h : L2.atI l i = some d) : ∃ v, L2.atI xs i = some v ∧ Rep K F d v := by
  unfold L2.atI at h ⊢
  rw [r.length] at h
  cases e : ixN xs.length i with
  | none => rw [e] at h; cases h
  | some j =>
    rw [e] at h
    obtain ⟨v, h1, h2⟩ := r.get (i := j) (d := d) h
    exact ⟨v, h1, h2⟩
theorem iSeq : IxR X (r2D X.K ixD) := ixImp (ix_list.or ix_tup) fun x y H Q ⟨F, dx, dy, P, s, n, r1, r2, h, fin⟩ => by
  cases r1 with
  | @lst a xs l h1 q1 =>
    cases r2 with
    | int i =>
      obtain ⟨d, hd, h⟩ := h
      obtain ⟨v, hv, rv⟩ := q1.atI hd
      exact .inl ⟨a, xs, i, v, rfl, rfl, SqL.of (s _ _ h1), hv, fin.at s n h rv⟩
    | _ => exact h.elim
  | @tup a xs l h1 q1 =>
    cases r2 with
    | int i =>
      obtain ⟨d, hd, h⟩ := h
      obtain ⟨v, hv, rv⟩ := q1.atI hd
      exact .inr ⟨a, xs, i, v, rfl, rfl, Same.sqT s h1, hv, fin.at s n h rv⟩
    | _ => exact h.elim
  | @scr a ns h1 =>
    cases r2 with
    | int i =>
      obtain ⟨d, hd, h⟩ := h
      refine .inl ⟨a, ns.map V.int, i, .int d, rfl, rfl, s.seq h1, ?_, fin.at s n h (.int d)⟩
      unfold L2.atI at hd ⊢
      rw [List.length_map]
      cases e : ixN ns.length i with
      | none => rw [e] at hd; cases hd
      | some j =>
        rw [e] at hd
        have hd : ns[j]? = some d := hd
        show (ns.map V.int)[j]? = _
        rw [List.getElem?_map, hd]
        rfl
    | _ => exact h.elim
  | _ => exact h.elim
theorem ed_ix {a b : Expr} {f g : DE} {pos : Pos} (ha : ED X a f) (hb : ED X b g) (hs : PlainIx b := by exact fun _ _ => rfl) : ED X (.Subscript a b pos) (dOp ixD f g) := peImp (pe_ix iSeq ha hb hs) toOp
/-- slices -/
abbrev DO := List Sl → (Option Int → Prop) → Prop
def tO (K : PySem.W.Frag) (f : DO) : TO := fun σ H Q => ∃ (F0 B F : Hp) (ρ : List Sl) (P : Option Int → Prop), StR K F0 B F ρ σ H ∧ f ρ P ∧ ∀ b, P b → ∀ F' H', Ext F H F' H' → Q b H'
abbrev OD (X : Cx) (e : Option Expr) (f : DO) : Prop := PO X e (tO X.K f)
theorem poImp {e : Option Expr} {t u : TO} (h : PO X e t) (w : ∀ σ H Q, u σ H Q → t σ H Q) : PO X e u := by
  obtain ⟨run⟩ := h
  constructor
  intros
  rename_i I q
  exact run _ _ _ _ _ I (w _ _ _ q)
@[simp] def dNoPart : DO := fun _ P => P none
@[simp] def dPart (f : DE) : DO := fun ρ P => f ρ fun x => ∃ i, x = .int i ∧ P (some i)
theorem od_none : OD X none dNoPart := poImp po_none fun σ H Q ⟨F0, B, F, ρ, P, S, q, fin⟩ => fin none q F H S.selfExt
theorem od_some {e : Expr} {f : DE} (h : ED X e f) : OD X (some e) (dPart f) := poImp (po_some h) fun σ H Q ⟨F0, B, F, ρ, P, S, q, fin⟩ =>
  ⟨F0, B, F, ρ, _, S, q, fun x ⟨i, e, p⟩ v F1 H1 E1 r1 => by
    subst e
    cases r1
    exact ⟨i, rfl, fin _ p F1 H1 E1⟩⟩
def cutD {α : Type} (xs : List α) (lo hi : Option Int) : List α := (xs.drop (HT.sIx xs.length 0 lo)).take (HT.sIx xs.length xs.length hi - HT.sIx xs.length 0 lo)
@[simp] def slD : D → Option Int → Option Int → (D → Prop) → Prop
  | .lst l, lo, hi, P => P (.lst (cutD l lo hi))
  | .tup l, lo, hi, P => ¬ (HT.sIx l.length 0 lo = 0 ∧ HT.sIx l.length l.length hi = l.length) ∧ P (.tup (cutD l lo hi))
  | _, _, _, _ => False
theorem RepL.cut {K : PySem.W.Frag} {F : Hp} {l : List D} {xs : List V} (r : RepL K F l xs) (lo hi : Option Int) : RepL K F (cutD l lo hi) (cutV xs lo hi) := by
  unfold cutD cutV
  rw [r.length]
  exact (r.drop _).take _
@[simp] def dSl (f : DE) (lo hi : DO) : DE := fun ρ P => f ρ fun x => lo ρ fun a => hi ρ fun b => slD x a b P
theorem ed_slice {e : Expr} {lo hi : Option Expr} {p2 pos : Pos} {f : DE} {tl th : DO} (he : ED X e f) (hl : OD X lo tl) (hu : OD X hi th) : ED X (.Subscript e (.Slice lo hi none p2) pos) (dSl f tl th) :=
  peImp (pe_slice (sl_list.or sl_tup) he hl hu) fun σ H Q ⟨F0, B, F, ρ, P, S, q, fin⟩ =>
    ⟨F0, B, F, ρ, _, S, q, fun x hx vx F1 H1 E1 r1 => ⟨F0, B, F1, ρ, _, S.step E1, hx, fun a ha F2 H2 E2 => ⟨F0, B, F2, ρ, _, (S.step E1).step E2, ha, fun b hb F3 H3 E3 => by
      have r3 := (r1.mono E2.ff).mono E3.ff
      have fin3 := ((fin.later E1).later E2).later E3
      cases r3 with
      | @lst p xs l h1 q1 => exact .inl ⟨p, xs, rfl, SqL.of (E3.fh _ _ h1), fun p hp => fin3.new E3.fh E3.nt hb hp trivial (.lst upd_same ((q1.cut a b).mono (same_alloc E3.fh hp)))⟩
      | @tup p xs l h1 q1 =>
        obtain ⟨nw, hb⟩ := hb
        rw [q1.length] at nw
        exact .inr ⟨p, xs, rfl, Same.sqT E3.fh h1, nw, fun p hp => fin3.new E3.fh E3.nt hb hp trivial (.tup (SqT.of upd_same) ((q1.cut a b).mono (same_alloc E3.fh hp)))⟩
      | _ => exact hb.elim⟩⟩⟩

/-! ### built-ins -/
@[simp] def dCB (h : List D → (D → Prop) → Prop) (k : DA) : DE := fun ρ P => k ρ fun ds => h ds P
theorem toCB {h : List D → (D → Prop) → Prop} {k : DA} : ∀ σ H Q, tE X.K (dCB h k) σ H Q → tCB (rAD X.K h) (tA X.K k) σ H Q := fun σ H Q ⟨F0, B, F, ρ, P, S, q, fin⟩ =>
  ⟨F0, B, F, ρ, _, S, q, fun ds hd vs F1 H1 E1 r1 => ⟨F1, ds, P, E1.fh, E1.nt, r1, hd, fin.later E1⟩⟩
section
variable {x : Str} {p pos : Pos} {e : Expr} {es : List Expr} {k : DA} {id T : String} {h : List D → (D → Prop) → Prop}
theorem ed_callB (hc : CallR X (.builtin id) (rAD X.K h)) (hm : X.mg x = none) (hv : bootBuiltins x = some (.builtin id)) (ha : AD X (e :: es) k) (hg : Gl X x := by rfl) (hn : x ≠ "__name__" := by decide) (hdb : (x == ("__debug__" : Str)) = false := by decide)
    (he : starEach (e :: es) X.env = (false, eval e X.env) :: starEach es X.env := by rfl) (hpl : (backTo pos (starEach es X.env)).any (·.1) = false := by rfl) : ED X (.Call (.Name x p) (e :: es) [] pos) (dCB h k) :=
  peImp (pe_callB hc hg hm hv ha hn hdb he hpl) toCB
theorem ed_callTy (hc : CallR X (.type T) (rAD X.K h)) (hm : X.mg x = none) (hv : bootBuiltins x = some (.type T)) (ha : AD X (e :: es) k) (hg : Gl X x := by rfl) (hn : x ≠ "__name__" := by decide) (hdb : (x == ("__debug__" : Str)) = false := by decide)
    (he : starEach (e :: es) X.env = (false, eval e X.env) :: starEach es X.env := by rfl) (hpl : (backTo pos (starEach es X.env)).any (·.1) = false := by rfl) : ED X (.Call (.Name x p) (e :: es) [] pos) (dCB h k) :=
  peImp (pe_callTy hc hg hm hv ha hn hdb he hpl) toCB
end
@[simp] def lenD : List D → (D → Prop) → Prop
  | [.lst l], P => P (.int l.length)
  | [.tup l], P => P (.int l.length)
  | [.scr l], P => P (.int l.length)
  | _, _ => False
@[simp] def absD : List D → (D → Prop) → Prop
  | [.int i], P => P (.int i.natAbs)
  | _, _ => False
@[simp] def intD : List D → (D → Prop) → Prop
  | [.int i], P => P (.int i)
  | [.bl b], P => P (.int (if b then 1 else 0))
  | _, _ => False
@[simp] def max2D : List D → (D → Prop) → Prop
  | [.int i, .int j], P => P (.int (if j > i then j else i))
  | _, _ => False
@[simp] def min2D : List D → (D → Prop) → Prop
  | [.int i, .int j], P => P (.int (if j < i then j else i))
  | _, _ => False
@[simp] def allD : List D → (D → Prop) → Prop
  | [.lst l], P => ∃ bs : List Bool, l = bs.map .bl ∧ P (.bl (bs.all id))
  | _, _ => False
@[simp] def anyD : List D → (D → Prop) → Prop
  | [.lst l], P => ∃ bs : List Bool, l = bs.map .bl ∧ P (.bl (bs.any id))
  | _, _ => False
@[simp] def sumD : List D → (D → Prop) → Prop
  | [.lst l], P => ∃ ns : List Int, l = ns.map .int ∧ P (.int ns.sum)
  | _, _ => False
@[simp] def minLD : List D → (D → Prop) → Prop
  | [.lst l], P => ∃ ns : List Int, l = ns.map .int ∧ 0 < ns.length ∧ ∀ m, m ∈ ns → (∀ y ∈ ns, m ≤ y) → P (.int m)
  | _, _ => False
theorem cLen : CallR X (.builtin "len") (rAD X.K lenD) := callImp call_len_seq fun xs H Q ⟨F, ds, P, s, n, r, h, fin⟩ => by
  cases r with
  | nil => exact h.elim
  | cons r1 rr =>
    cases rr with
    | cons _ _ => cases r1 <;> exact h.elim
    | nil =>
      cases r1 with
      | @lst a xs l h1 q1 => exact ⟨a, xs, rfl, .inl (SqL.of (s _ _ h1)), by rw [← q1.length]; exact fin.at s n h (.int _)⟩
      | @tup a xs l h1 q1 => exact ⟨a, xs, rfl, .inr (Same.sqT s h1), by rw [← q1.length]; exact fin.at s n h (.int _)⟩
      | @scr a ns h1 => exact ⟨a, _, rfl, .inl (s.seq h1), by rw [List.length_map]; exact fin.at s n h (.int _)⟩
      | _ => exact h.elim
theorem cAbs : CallR X (.builtin "abs") (rAD X.K absD) := callImp call_abs fun xs H Q ⟨F, ds, P, s, n, r, h, fin⟩ => by
  cases r with
  | nil => exact h.elim
  | cons r1 rr =>
    cases rr with
    | cons _ _ => cases r1 <;> exact h.elim
    | nil =>
      cases r1 with
      | int i =>
        refine ⟨i, rfl, ?_⟩
        have e : (if i < 0 then -i else i) = (i.natAbs : Int) := by split <;> omega
        rw [e]
        exact fin.at s n h (.int _)
      | _ => exact h.elim
theorem cInt : CallR X (.type "int") (rAD X.K intD) := callImp call_int1 fun xs H Q ⟨F, ds, P, s, n, r, h, fin⟩ => by
  cases r with
  | nil => exact h.elim
  | cons r1 rr =>
    cases rr with
    | cons _ _ => cases r1 <;> exact h.elim
    | nil =>
      cases r1 with
      | int i => exact .inl ⟨i, rfl, fin.at s n h (.int _)⟩
      | bl b => exact .inr ⟨b, rfl, fin.at s n h (.int _)⟩
      | _ => exact h.elim
theorem cMax2 (hc : X.calm = true) : CallR X (.builtin "max") (rAD X.K max2D) := callImp (call_max2 hc) fun xs H Q ⟨F, ds, P, s, n, r, h, fin⟩ => by
  cases r with
  | nil => exact h.elim
  | cons r1 rr =>
    cases rr with
    | nil => cases r1 <;> exact h.elim
    | cons r2 rr =>
      cases rr with
      | cons _ _ => cases r1 <;> cases r2 <;> exact h.elim
      | nil =>
        cases r1 with
        | int i =>
          cases r2 with
          | int j => exact ⟨i, j, rfl, fin.at s n h (.int _)⟩
          | _ => exact h.elim
        | _ => cases r2 <;> exact h.elim
theorem cMin2 (hc : X.calm = true) : CallR X (.builtin "min") (rAD X.K min2D) := callImp (call_min2 hc) fun xs H Q ⟨F, ds, P, s, n, r, h, fin⟩ => by
  cases r with
  | nil => exact h.elim
  | cons r1 rr =>
    cases rr with
    | nil => cases r1 <;> exact h.elim
    | cons r2 rr =>
      cases rr with
      | cons _ _ => cases r1 <;> cases r2 <;> exact h.elim
      | nil =>
        cases r1 with
        | int i =>
          cases r2 with
          | int j => exact ⟨i, j, rfl, fin.at s n h (.int _)⟩
          | _ => exact h.elim
        | _ => cases r2 <;> exact h.elim
theorem cAll (hc : X.calm = true) : CallR X (.builtin "all") (rAD X.K allD) := callImp (cr_all hc) fun xs H Q ⟨F, ds, P, s, n, r, h, fin⟩ => by
  cases r with
  | nil => exact h.elim
  | cons r1 rr =>
    cases rr with
    | cons _ _ => cases r1 <;> exact h.elim
    | nil =>
      cases r1 with
      | @lst a xs l h1 q1 =>
        obtain ⟨bs, e, h⟩ := h
        subst e
        rw [q1.bls] at h1
        exact ⟨a, bs, rfl, SqL.of (s _ _ h1), fin.at s n h (.bl _)⟩
      | _ => exact h.elim
theorem cAny (hc : X.calm = true) : CallR X (.builtin "any") (rAD X.K anyD) := callImp (cr_any hc) fun xs H Q ⟨F, ds, P, s, n, r, h, fin⟩ => by
  cases r with
  | nil => exact h.elim
  | cons r1 rr =>
    cases rr with
    | cons _ _ => cases r1 <;> exact h.elim
    | nil =>
      cases r1 with
      | @lst a xs l h1 q1 =>
        obtain ⟨bs, e, h⟩ := h
        subst e
        rw [q1.bls] at h1
        exact ⟨a, bs, rfl, SqL.of (s _ _ h1), fin.at s n h (.bl _)⟩
      | _ => exact h.elim
theorem cSum (hc : X.calm = true) : CallR X (.builtin "sum") (rAD X.K sumD) := callImp (cr_sum hc) fun xs H Q ⟨F, ds, P, s, n, r, h, fin⟩ => by
  cases r with
  | nil => exact h.elim
  | cons r1 rr =>
    cases rr with
    | cons _ _ => cases r1 <;> exact h.elim
    | nil =>
      cases r1 with
      | @lst a xs l h1 q1 =>
        obtain ⟨ns, e, h⟩ := h
        subst e
        rw [q1.ints] at h1
        exact ⟨a, ns, rfl, SqL.of (s _ _ h1), fin.at s n h (.int _)⟩
      | _ => exact h.elim
theorem cMinL (hc : X.calm = true) : CallR X (.builtin "min") (rAD X.K minLD) := callImp (cr_min hc) fun xs H Q ⟨F, ds, P, s, n, r, h, fin⟩ => by
  cases r with
  | nil => exact h.elim
  | cons r1 rr =>
    cases rr with
    | cons _ _ => cases r1 <;> exact h.elim
    | nil =>
      cases r1 with
      | @lst a xs l h1 q1 =>
        obtain ⟨ns, e, hl, h⟩ := h
        subst e
        rw [q1.ints] at h1
        exact ⟨a, ns, rfl, SqL.of (s _ _ h1), hl, fun m hm hy => fin.at s n (h m hm hy) (.int _)⟩
      | _ => exact h.elim
/-! isinstance(e, T) -/
@[simp] def tyN : D → String
  | .non => "NoneType"
  | .bl _ => "bool"
  | .int _ => "int"
  | .str _ => "str"
  | .tup _ => "tuple"
  | .lst _ => "list"
  | .scr _ => "list"
  | .dic _ _ => "dict"
  | .ins _ _ _ => "?"
@[simp] def isTy (T : String) (d : D) : Bool := tyN d == T || (T == "int" && tyN d == "bool")
@[simp] def dIsi (T : String) (f : DE) : DE := fun ρ P => f ρ fun d => tyN d ≠ "?" ∧ P (.bl (isTy T d))
theorem Rep.tyX {K : PySem.W.Frag} {F H : Hp} {d : D} {v : V} (s : Same F H) (r : Rep K F d v) (h : tyN d ≠ "?") : TyX K H v (.type (tyN d)) := by
  cases r with
  | non => exact .base .non
  | bl b => exact .base (.bl b)
  | int i => exact .base (.int i)
  | str x => exact .base (.str x)
  | tup g q =>
    rcases Same.sqT s g with (g | ⟨o, g⟩) | ⟨o, its, n, h1, h2, _⟩
    · exact .base (.tup g)
    · exact .fTuple g
    · exact .kTuple h1 h2
  | lst g q => exact .base (.lst (s _ _ g))
  | scr g =>
    rcases s.seq g with (g | ⟨o, g⟩) | ⟨o, its, n, h1, h2, _⟩
    · exact .base (.lst g)
    · exact .base (.frz g)
    · exact .kList h1 h2
  | dic g e q => exact .base (.dK (s _ _ g))
  | ins g e q => exact absurd rfl h
theorem kitB_s : ∀ T ∈ ["int", "bool", "tuple", "list"], ∀ t ∈ ["NoneType", "bool", "int", "str", "tuple", "list", "dict"], kitB t T = some (t == T || (T == "int" && t == "bool")) := by decide +kernel
theorem kitB_all (T : String) (hT : T ∈ ["int", "bool", "tuple", "list"]) (d : D) (h : tyN d ≠ "?") : kitB (tyN d) T = some (isTy T d) := by
  refine kitB_s T hT (tyN d) ?_
  cases d <;> first | exact absurd rfl h | simp [tyN]
theorem ed_isi {T : Str} {Ts : String} {p q pos : Pos} {e : Expr} {f : DE} (he : ED X e f) (hT : Ts ∈ ["int", "bool", "tuple", "list"]) (hmi : X.mg "isinstance" = none) (hmT : X.mg T = none) (hbT : bootBuiltins T = some (.type Ts)) (hgT : Gl X T := by rfl)
    (hgi : Gl X "isinstance" := by rfl) (hnT : T ≠ "__name__" := by decide) (hdT : (T == ("__debug__" : Str)) = false := by decide)
    (he1 : starEach (e :: [.Name T q]) X.env = (false, eval e X.env) :: starEach [.Name T q] X.env := by rfl) (he2 : starEach (Expr.Name T q :: []) X.env = (false, eval (.Name T q) X.env) :: starEach [] X.env := by rfl)
    (hpl : (backTo pos (starEach [.Name T q] X.env)).any (·.1) = false := by rfl) : ED X (.Call (.Name "isinstance" p) [e, .Name T q] [] pos) (dIsi Ts f) :=
  peImp (pe_callB call_isi hgi hmi (by decide +kernel) (pa_cons he (pa_cons (pe_bltn (v := .ty Ts) (u := .type Ts) hgT hmT hbT rfl hnT hdT) pa_nil he2) he1) (by decide) (by decide) he1 hpl) fun σ H Q ⟨F0, B, F, ρ, P, S, q, fin⟩ =>
    ⟨F0, B, F, ρ, _, S, q, fun d ⟨hn, hd⟩ v F1 H1 E1 r1 => ⟨v, .ty Ts, .type (tyN d), .type Ts, isTy Ts d, rfl, .ty Ts, r1.tyX E1.fh hn, kit_ty (kitB_all Ts hT d hn), fin _ hd _ F1 H1 E1 (.bl _)⟩⟩

/-! ### calls of defs -/
abbrev Spc := List D → (D → Prop) → (Addr → Prop) → Prop
/-- a def's promise over data -/
def spD (K : PySem.W.Frag) (φ : Spc) : Sp := fun vs H Q E => ∃ (F : Hp) (ds : List D) (P : D → Prop) (Z : Addr → Prop), Same F H ∧ NT F H ∧ RepL K F ds vs ∧ φ ds P Z ∧ Fin K F H P Q ∧ ∀ c, Z c → ∀ F' H', Ext F H F' H' → E (.ref c) none H'
structure DefD (P : Program) (w : World) (K : PySem.W.Frag) (mg : Str → Option Value) (base : Heap) (CX : CXT) (x : Str) (k : Nat) (φ : Spc) : Prop where
  ex : ∃ (f : Addr) (fd : FuncData) (ps : List Str), FnOk P w K mg base CX k f fd ps (spD K φ) ∧ mg x = some (.ref f) ∧ PySem.W.keepIn K (.ref f) = true ∧ Binds K fd ps []
@[simp] def dCall (φ : Spc) (k : DA) : DE := fun ρ P => k ρ fun ds => φ ds P fun _ => False
section
variable {x : Str} {p pos : Pos} {e : Expr} {es : List Expr} {k : DA} {φ : Spc} {j n : Nat} {CX : CXT}
theorem ed_call (G : DefD X.prog X.w X.K X.mg X.base CX x j φ) (hr : Room n X.A) (hx : Passes CX X E0) (ha : AD X (e :: es) k) (hjn : j ≤ n := by decide) (hg : Gl X x := by rfl) (hdb : (x == ("__debug__" : Str)) = false := by decide)
    (he : starEach (e :: es) X.env = (false, eval e X.env) :: starEach es X.env := by rfl) (hpl : (backTo pos (starEach es X.env)).any (·.1) = false := by rfl) : ED X (.Call (.Name x p) (e :: es) [] pos) (dCall φ k) := by
  obtain ⟨f, fd, ps, F, hm, hk, hb⟩ := G.ex
  refine peImp (pe_call F (hr.mono hjn) hg hm hk hb .nil hx ha hdb he hpl) fun σ H Q ⟨F0, B, F, ρ, P, S, q, fin⟩ => ?_
  exact ⟨F0, B, F, ρ, _, S, q, fun ds hd vs F1 H1 E1 r1 => ⟨F1, ds, P, _, E1.fh, E1.nt, by rw [List.append_nil]; exact r1, hd, fin.later E1, fun c z => z.elim⟩⟩
end
end
end Dy

/-! # The data layer: what is walked, targets, comprehensions, statements, defs. -/
namespace Dy
variable [Tn]
open PySem PySem.Spec PyProof.Rows L2

/-! ### what is walked -/
structure ItOk (K : PySem.W.Frag) (J : It) (F : Hp) (items : List D) : Prop where
  go : ∀ (i : Nat) (H : Hp), i < items.length → Same F H → J.go i H
  stop : ∀ (i : Nat) (H : Hp), items.length ≤ i → Same F H → J.stop i H
  yld : ∀ (i : Nat) (H : Hp) (x : V) (H' : Hp), i < items.length → Same F H → J.yld i H x H' → ∃ d, items[i]? = some d ∧ ∀ F1, Same F F1 → Same F1 H → NT F1 H → ∃ F2, Ext F1 H F2 H' ∧ Rep K F2 d x
def tI (K : PySem.W.Frag) (it : DA) : TI := fun σ H R => ∃ (F0 B F : Hp) (ρ : List Sl) (P : List D → Prop), StR K F0 B F ρ σ H ∧ it ρ P ∧ ∀ items, P items → ∀ F' H', Ext F H F' H' → ∀ J, ItOk K J F' items → R J H'
abbrev ID (X : Cx) (tg iter : Expr) (it : DA) : Prop := PI X tg iter (tI X.K it)
section
variable {X : Cx} {tg e : Expr} {es : List Expr} {f : DE} {k : DA} {p pos tpos : Pos} {K : PySem.W.Frag} {F : Hp}
theorem piImp {tg iter : Expr} {t u : TI} (h : PI X tg iter t) (w : ∀ σ H R, u σ H R → t σ H R) : PI X tg iter u := ⟨fun pins s σ H R I q => h.run pins s σ H R I (w _ _ _ q)⟩
theorem piOr {tg iter : Expr} {t u : TI} (h : PI X tg iter t) (h' : PI X tg iter u) : PI X tg iter (fun σ H R => t σ H R ∨ u σ H R) := ⟨fun pins s σ H R I q => q.elim (h.run pins s σ H R I) (h'.run pins s σ H R I)⟩
theorem itOk_list {a : Addr} {xs : List V} {l : List D} (h : F a = some (.lst xs)) (r : RepL K F l xs) : ItOk K (Itl K a) F l where
  go := fun i H hi s => by
    obtain ⟨v, hv, _⟩ := r.get (List.getElem?_eq_getElem hi)
    exact ⟨xs, v, SqL.of (s _ _ h), hv⟩
  stop := fun i H hi s => ⟨xs, SqL.of (s _ _ h), by rw [← r.length]; exact hi⟩
  yld := fun i H x H' hi s ⟨e, q⟩ => by
    obtain ⟨d, hd, rd⟩ := r.getV (q xs (SqL.of (s _ _ h)))
    rw [e]
    exact ⟨d, hd, fun F1 s1 s2 n => ⟨F1, Ext.refl s2 n, rd.mono s1⟩⟩
theorem itOk_tup {a : Addr} {xs : List V} {l : List D} (h : SqT K F a xs) (r : RepL K F l xs) : ItOk K (Itt K a) F l where
  go := fun i H hi s => by
    obtain ⟨v, hv, _⟩ := r.get (List.getElem?_eq_getElem hi)
    exact ⟨xs, v, Same.sqT s h, hv⟩
  stop := fun i H hi s => ⟨xs, Same.sqT s h, by rw [← r.length]; exact hi⟩
  yld := fun i H x H' hi s ⟨e, q⟩ => by
    obtain ⟨d, hd, rd⟩ := r.getV (q xs (Same.sqT s h))
    rw [e]
    exact ⟨d, hd, fun F1 s1 s2 n => ⟨F1, Ext.refl s2 n, rd.mono s1⟩⟩
theorem itOk_range (lo : Int) (n : Nat) : ItOk K (Itr lo n) F ((List.range n).map fun i => .int (lo + (i : Nat))) where
  go := fun i H hi _ => by
    show i < n
    simpa using hi
  stop := fun i H hi _ => by
    show n ≤ i
    simpa using hi
  yld := fun i H x H' hi _ ⟨e, q⟩ => by
    have hi' : i < n := by simpa using hi
    rw [e, q]
    refine ⟨.int (lo + (i : Nat)), ?_, fun F1 _ s2 n => ⟨F1, Ext.refl s2 n, .int _⟩⟩
    simp [hi']
@[simp] def enumFrom (n : Nat) : List D → List D
  | [] => []
  | d :: l => .tup [.int n, d] :: enumFrom (n + 1) l
theorem enumFrom_length : ∀ (n : Nat) (l : List D), (enumFrom n l).length = l.length
  | _, [] => rfl
  | n, _ :: l => by simp [enumFrom, enumFrom_length (n + 1) l]
theorem enumFrom_get : ∀ (n : Nat) (l : List D) (i : Nat) (d : D), l[i]? = some d → (enumFrom n l)[i]? = some (.tup [.int ((n + i : Nat) : Int), d])
  | _, [], _, _, h => by simp at h
  | n, x :: l, 0, d, h => by
    have e : x = d := by simpa using h
    subst e
    rfl
  | n, x :: l, i + 1, d, h => by
    have e := enumFrom_get (n + 1) l i d (by simpa using h)
    have e2 : n + 1 + i = n + (i + 1) := by omega
    rw [e2] at e
    simpa [enumFrom] using e
theorem itOk_enum {a : Addr} {xs : List V} {l : List D} (h : F a = some (.lst xs)) (r : RepL K F l xs) : ItOk K (Ite K a) F (enumFrom 0 l) where
  go := fun i H hi s => by
    rw [enumFrom_length] at hi
    obtain ⟨v, hv, _⟩ := r.get (List.getElem?_eq_getElem hi)
    exact ⟨xs, v, SqL.of (s _ _ h), hv⟩
  stop := fun i H hi s => ⟨xs, SqL.of (s _ _ h), by rw [enumFrom_length] at hi; rw [← r.length]; exact hi⟩
  yld := fun i H v H' hi s ⟨T, x, e, hT, e', q⟩ => by
    obtain ⟨d, hd, rd⟩ := r.getV (q xs (SqL.of (s _ _ h)))
    rw [e, e']
    refine ⟨_, enumFrom_get 0 l i d hd, fun F1 s1 s2 n => ⟨upd F1 T (.tup [.int (i : Nat), x]), (Ext.refl s2 n).alloc hT trivial, ?_⟩⟩
    rw [Nat.zero_add]
    exact .tup (SqT.of upd_same) (.cons (.int _) (.one ((rd.mono s1).mono (same_alloc s2 hT))))
def zipD (l l' : List D) : List D := List.zipWith (fun x y => .tup [x, y]) l l'
theorem zipD_get {l l' : List D} {i : Nat} {x y : D} (h : l[i]? = some x) (h' : l'[i]? = some y) : (zipD l l')[i]? = some (.tup [x, y]) := by
  unfold zipD
  rw [List.getElem?_zipWith, h, h']
theorem itOk_zip {a b : Addr} {xs ys : List V} {l l' : List D} (h : F a = some (.lst xs)) (r : RepL K F l xs) (h' : F b = some (.lst ys)) (r' : RepL K F l' ys) : ItOk K (Itz K a b) F (zipD l l') where
  go := fun i H hi s => by
    have hi' : i < min l.length l'.length := by simpa [zipD] using hi
    obtain ⟨v, hv, _⟩ := r.get (List.getElem?_eq_getElem (show i < l.length by omega))
    obtain ⟨w, hw, _⟩ := r'.get (List.getElem?_eq_getElem (show i < l'.length by omega))
    exact ⟨xs, ys, v, w, SqL.of (s _ _ h), SqL.of (s _ _ h'), hv, hw⟩
  stop := fun i H hi s => by
    have hi' : min l.length l'.length ≤ i := by simpa [zipD] using hi
    have e1 := r.length
    have e2 := r'.length
    exact ⟨xs, ys, SqL.of (s _ _ h), SqL.of (s _ _ h'), by omega⟩
  yld := fun i H v H' hi s ⟨T, x, y, e, hT, e', q, q'⟩ => by
    obtain ⟨d, hd, rd⟩ := r.getV (q xs (SqL.of (s _ _ h)))
    obtain ⟨d', hd', rd'⟩ := r'.getV (q' ys (SqL.of (s _ _ h')))
    rw [e, e']
    refine ⟨_, zipD_get hd hd', fun F1 s1 s2 n => ⟨upd F1 T (.tup [x, y]), (Ext.refl s2 n).alloc hT trivial, ?_⟩⟩
    exact .tup (SqT.of upd_same) (.cons ((rd.mono s1).mono (same_alloc s2 hT)) (.one ((rd'.mono s1).mono (same_alloc s2 hT))))
theorem itOk_zipT {a b : Addr} {xs ys : List V} {l l' : List D} (h : SqT K F a xs) (r : RepL K F l xs) (h' : SqT K F b ys) (r' : RepL K F l' ys) : ItOk K (RZ.ItzT K a b) F (zipD l l') where
  go := fun i H hi s => by
    have hi' : i < min l.length l'.length := by simpa [zipD] using hi
    obtain ⟨v, hv, _⟩ := r.get (List.getElem?_eq_getElem (show i < l.length by omega))
    obtain ⟨w, hw, _⟩ := r'.get (List.getElem?_eq_getElem (show i < l'.length by omega))
    exact ⟨xs, ys, v, w, Same.sqT s h, Same.sqT s h', hv, hw⟩
  stop := fun i H hi s => by
    have hi' : min l.length l'.length ≤ i := by simpa [zipD] using hi
    have e1 := r.length
    have e2 := r'.length
    exact ⟨xs, ys, Same.sqT s h, Same.sqT s h', by omega⟩
  yld := fun i H v H' hi s ⟨T, x, y, e, hT, e', q, q'⟩ => by
    obtain ⟨d, hd, rd⟩ := r.getV (q xs (Same.sqT s h))
    obtain ⟨d', hd', rd'⟩ := r'.getV (q' ys (Same.sqT s h'))
    rw [e, e']
    refine ⟨_, zipD_get hd hd', fun F1 s1 s2 n => ⟨upd F1 T (.tup [x, y]), (Ext.refl s2 n).alloc hT trivial, ?_⟩⟩
    exact .tup (SqT.of upd_same) (.cons ((rd.mono s1).mono (same_alloc s2 hT)) (.one ((rd'.mono s1).mono (same_alloc s2 hT))))
/-- a list, a tuple -/
@[simp] def dSeq (f : DE) : DA := fun ρ P => (f ρ fun d => ∃ l, d = .lst l ∧ P l) ∨ (f ρ fun d => ∃ l, d = .tup l ∧ P l)
theorem id_seq (h : ED X e f) : ID X tg e (dSeq f) := piImp (piOr (pi_list h) (pi_tup h)) fun σ H R ⟨F0, B, F, ρ, P, S, q, fin⟩ => by
  rcases q with q | q
  · refine .inl ⟨F0, B, F, ρ, _, S, q, fun d ⟨l, e, p⟩ v F1 H1 E1 r1 => ?_⟩
    subst e
    cases r1 with
    | @lst a xs _ h1 q1 => exact ⟨a, rfl, ⟨xs, SqL.of (E1.fh _ _ h1)⟩, fin l p F1 H1 E1 _ (itOk_list h1 q1)⟩
  · refine .inr ⟨F0, B, F, ρ, _, S, q, fun d ⟨l, e, p⟩ v F1 H1 E1 r1 => ?_⟩
    subst e
    cases r1 with
    | @tup a xs _ h1 q1 => exact ⟨a, rfl, ⟨xs, Same.sqT E1.fh h1⟩, fin l p F1 H1 E1 _ (itOk_tup h1 q1)⟩
@[simp] def dRng1 (k : DA) : DA := fun ρ P => k ρ fun ds => ∃ n : Int, ds = [.int n] ∧ -1000000 ≤ n ∧ n ≤ 1000000 ∧ P ((List.range n.toNat).map fun (i : Nat) => .int i)
theorem id_range1 {a : Expr} (ha : AD X [a] k) (hm : X.mg "range" = none) (hg : Gl X "range" := by rfl) (hs : starEach [a] X.env = [(false, eval a X.env)] := by rfl) : ID X tg (.Call (.Name "range" p) [a] [] pos) (dRng1 k) :=
  piImp (pi_range1 hg hm ha hs) fun σ H R ⟨F0, B, F, ρ, P, S, q, fin⟩ => ⟨F0, B, F, ρ, _, S, q, fun ds ⟨n, e, h0, h1, pp⟩ vs F1 H1 E1 r1 => by
    subst e
    cases r1 with
    | cons a b =>
      cases b
      cases a
      refine ⟨n, rfl, by omega, by omega, fin _ pp F1 H1 E1 _ ?_⟩
      have := itOk_range (K := X.K) (F := F1) 0 n.toNat
      simpa using this⟩
@[simp] def dRng2 (k : DA) : DA := fun ρ P => k ρ fun ds => ∃ a b : Int, ds = [.int a, .int b] ∧ -1000000 ≤ a ∧ a ≤ 1000000 ∧ -1000000 ≤ b ∧ b ≤ 1000000 ∧ P ((List.range (b - a).toNat).map fun (i : Nat) => .int (a + i))
theorem id_range2 {a b : Expr} (ha : AD X [a, b] k) (hm : X.mg "range" = none) (hg : Gl X "range" := by rfl) (hs : starEach [a, b] X.env = [(false, eval a X.env), (false, eval b X.env)] := by rfl) (hs2 : starEach [b] X.env = [(false, eval b X.env)] := by rfl) :
    ID X tg (.Call (.Name "range" p) [a, b] [] pos) (dRng2 k) :=
  piImp (pi_range2 hg hm ha hs hs2) fun σ H R ⟨F0, B, F, ρ, P, S, q, fin⟩ => ⟨F0, B, F, ρ, _, S, q, fun ds ⟨a, b, e, h0, h1, h2, h3, pp⟩ vs F1 H1 E1 r1 => by
    subst e
    cases r1 with
    | cons a b =>
      cases b with
      | cons b c =>
        cases c
        cases a
        cases b
        exact ⟨_, _, rfl, ⟨by omega, by omega, by omega, by omega⟩, fin _ pp F1 H1 E1 _ (itOk_range _ _)⟩⟩
@[simp] def dEnum (k : DA) : DA := fun ρ P => k ρ fun ds => ∃ l, ds = [.lst l] ∧ P (enumFrom 0 l)
theorem id_enum {elts : List Expr} {kk : Nat} (ha : AD X [e] k) (hm : X.mg "enumerate" = none) (hg : Gl X "enumerate" := by rfl) (hs : starEach [e] X.env = [(false, eval e X.env)] := by rfl) : ID X (.Tuple elts kk tpos) (.Call (.Name "enumerate" p) [e] [] pos) (dEnum k) :=
  piImp (pi_enum hg hm ha hs) fun σ H R ⟨F0, B, F, ρ, P, S, q, fin⟩ => ⟨F0, B, F, ρ, _, S, q, fun ds ⟨l, e, pp⟩ vs F1 H1 E1 r1 => by
    subst e
    cases r1 with
    | cons a b =>
      cases b
      cases a with
      | @lst a xs _ h1 q1 => exact ⟨a, xs, rfl, SqL.of (E1.fh _ _ h1), fin _ pp F1 H1 E1 _ (itOk_enum h1 q1)⟩⟩
@[simp] def dZip (k : DA) : DA := fun ρ P => k ρ fun ds => ∃ l l', (ds = [.lst l, .lst l'] ∨ ds = [.tup l, .tup l']) ∧ P (zipD l l')
theorem id_zip {e2 : Expr} {elts : List Expr} {kk : Nat} (ha : AD X [e, e2] k) (hm : X.mg "zip" = none) (hg : Gl X "zip" := by rfl) (hs : starEach [e, e2] X.env = (false, eval e X.env) :: starEach [e2] X.env := by rfl) (hpl : (backTo pos (starEach [e2] X.env)).any (·.1) = false := by rfl) :
    ID X (.Tuple elts kk tpos) (.Call (.Name "zip" p) [e, e2] [] pos) (dZip k) :=
  piImp (RZ.pi_zipA hg hm ha hs hpl) fun σ H R ⟨F0, B, F, ρ, P, S, q, fin⟩ => ⟨F0, B, F, ρ, _, S, q, fun ds ⟨l, l', e, pp⟩ vs F1 H1 E1 r1 => by
    rcases e with e | e
    · subst e
      cases r1 with
      | cons a b =>
        cases b with
        | cons b c =>
          cases c
          cases a with
          | @lst a xs _ h1 q1 =>
            cases b with
            | @lst b ys _ h2 q2 => exact ⟨a, b, xs, ys, rfl, .inl ⟨SqL.of (E1.fh _ _ h1), SqL.of (E1.fh _ _ h2), fin _ pp F1 H1 E1 _ (itOk_zip h1 q1 h2 q2)⟩⟩
    · subst e
      cases r1 with
      | cons a b =>
        cases b with
        | cons b c =>
          cases c
          cases a with
          | @tup a xs _ h1 q1 =>
            cases b with
            | @tup b ys _ h2 q2 => exact ⟨a, b, xs, ys, rfl, .inr ⟨Same.sqT E1.fh h1, Same.sqT E1.fh h2, fin _ pp F1 H1 E1 _ (itOk_zipT h1 q1 h2 q2)⟩⟩⟩
end

/-! ### targets -/
abbrev DG := D → List Sl → (List Sl → Prop) → Prop
abbrev DGs := List D → List Sl → (List Sl → Prop) → Prop
/-- only the slots bs are changed -/
def Only (bs : List Nat) (σ σ' : St) : Prop := σ'.length = σ.length ∧ ∀ i, i ∉ bs → σ'[i]? = σ[i]?
theorem Only.refl (bs : List Nat) (σ : St) : Only bs σ σ := ⟨rfl, fun _ _ => rfl⟩
theorem Only.trans {bs cs : List Nat} {σ σ1 σ2 : St} (a : Only bs σ σ1) (b : Only cs σ1 σ2) : Only (bs ++ cs) σ σ2 :=
  ⟨b.1.trans a.1, fun i hi => (b.2 i fun z => hi (List.mem_append_right _ z)).trans (a.2 i fun z => hi (List.mem_append_left _ z))⟩
theorem Only.set (σ : St) (i : Nat) (o : Option V) : Only [i] σ (σ.set i o) := ⟨by simp, fun j hj => by
  rw [List.getElem?_set_ne]
  intro z
  exact hj (by simp [z])⟩
theorem wipe_get {σ : St} : ∀ {vs : List Nat} (i : Nat), (wipe σ vs)[i]? = if i ∈ vs ∧ i < σ.length then some none else σ[i]?
  | [], i => by simp [wipe]
  | v :: vs, i => by
    have ih := wipe_get (σ := σ) (vs := vs) i
    unfold wipe
    by_cases hv : v = i
    · subst hv
      by_cases hl : v < σ.length
      · rw [List.getElem?_set_self (by rw [wipe_length]; exact hl), if_pos ⟨by simp, hl⟩]
      · rw [List.getElem?_eq_none (by simp [wipe_length]; omega), if_neg (fun z => hl z.2), List.getElem?_eq_none (by omega)]
    · rw [List.getElem?_set_ne hv, ih]
      have hv2 : ¬ i = v := fun z => hv z.symm
      simp [hv2]
theorem Only.wipe {vs : List Nat} {σ σ' : St} (h : Only vs (L2.wipe σ vs) σ') : L2.wipe σ' vs = L2.wipe σ vs := by
  apply List.ext_getElem?
  intro i
  have hl : σ'.length = σ.length := by rw [h.1, wipe_length]
  rw [wipe_get, wipe_get, hl]
  by_cases hi : i ∈ vs
  · by_cases hl2 : i < σ.length
    · rw [if_pos ⟨hi, hl2⟩]
      simp [hi, hl2]
    · rw [if_neg (fun z => hl2 z.2), if_neg (fun z => hl2 z.2), List.getElem?_eq_none (by omega), List.getElem?_eq_none (by omega)]
  · rw [if_neg (fun z => hi z.1), if_neg (fun z => hi z.1), h.2 i hi, wipe_get, if_neg (fun z => hi z.1)]
def tG (K : PySem.W.Frag) (bs : List Nat) (g : DG) : TG := fun v σ H Q => ∃ (F0 B F : Hp) (ρ : List Sl) (d : D) (P : List Sl → Prop), StR K F0 B F ρ σ H ∧ Rep K F d v ∧ g d ρ P ∧ ∀ ρ', P ρ' → ∀ σ', StR K F0 B F ρ' σ' H → Only bs σ σ' → Q σ' H
def tGs (K : PySem.W.Frag) (bs : List Nat) (g : DGs) : TGs := fun vs σ H Q => ∃ (F0 B F : Hp) (ρ : List Sl) (ds : List D) (P : List Sl → Prop), StR K F0 B F ρ σ H ∧ RepL K F ds vs ∧ g ds ρ P ∧ ∀ ρ', P ρ' → ∀ σ', StR K F0 B F ρ' σ' H → Only bs σ σ' → Q σ' H
abbrev GD (X : Cx) (tg : Expr) (bs : List Nat) (g : DG) : Prop := PG X tg (tG X.K bs g)
abbrev GsD (X : Cx) (ts : List Expr) (bs : List Nat) (g : DGs) : Prop := PGs X ts (tGs X.K bs g)
section
variable {X : Cx} {pos : Pos}
theorem pgImp {tg : Expr} {t u : TG} (h : PG X tg t) (w : ∀ v σ H Q, u v σ H Q → t v σ H Q) : PG X tg u := ⟨fun pins s σ H v uu Q I r q => h.run pins s σ H v uu Q I r (w _ _ _ _ q)⟩
theorem pgsImp {tg : List Expr} {t u : TGs} (h : PGs X tg t) (w : ∀ v σ H Q, u v σ H Q → t v σ H Q) : PGs X tg u := ⟨fun pins s σ H v uu Q I r q => h.run pins s σ H v uu Q I r (w _ _ _ _ q)⟩
@[simp] def gdName (i : Nat) : DG := fun d ρ P => P (ρ.set i (.d d))
theorem gd_name (i : Nat) {x : Str} (hN : X.N.Nodup) (hi : X.N[i]? = some x := by rfl) (hx : Loc X.env.scope x := by first | exact .inl rfl | exact .inr rfl) (hf : X.fn x = true ∨ X.env.scope.names.lookup x = some .local := by first | exact .inl rfl | exact .inr rfl) : GD X (.Name x pos) [i] (gdName i) :=
  pgImp (pg_name hN hi hx hf) fun v σ H Q ⟨F0, B, F, ρ, d, P, S, r, q, fin⟩ => fin _ q _ (S.set i r) (Only.set σ i _)
@[simp] def gdNil : DGs := fun ds ρ P => ds = [] ∧ P ρ
@[simp] def gdCons (g : DG) (h : DGs) : DGs := fun ds ρ P => ∃ d r, ds = d :: r ∧ g d ρ fun ρ' => h r ρ' P
theorem gsd_nil : GsD X [] [] gdNil := pgsImp pgs_nil fun vs σ H Q ⟨F0, B, F, ρ, ds, P, S, r, ⟨e, q⟩, fin⟩ => by
  subst e
  cases r
  exact ⟨rfl, fin _ q _ S (Only.refl _ _)⟩
theorem gsd_cons {e : Expr} {es : List Expr} {bs cs : List Nat} {g : DG} {h : DGs} (h1 : GD X e bs g) (h2 : GsD X es cs h) (hs : (assignEach (e :: es) X.env).map (·.2) = assign e X.env :: (assignEach es X.env).map (·.2) := by rfl) : GsD X (e :: es) (bs ++ cs) (gdCons g h) :=
  pgsImp (pgs_cons h1 h2 hs) fun vs σ H Q ⟨F0, B, F, ρ, ds, P, S, r, ⟨d, rest, e, q⟩, fin⟩ => by
    subst e
    cases r with
    | @cons _ v _ xs r1 rr => exact ⟨v, xs, rfl, F0, B, F, ρ, d, _, S, r1, q, fun ρ1 q1 σ1 S1 o1 => ⟨F0, B, F, ρ1, rest, _, S1, rr, q1, fun ρ2 q2 σ2 S2 o2 => fin _ q2 _ S2 (o1.trans o2)⟩⟩
@[simp] def gdTup (n : Nat) (h : DGs) : DG := fun d ρ P => ∃ l, d = .tup l ∧ l.length = n ∧ h l ρ P
theorem gd_tup {es : List Expr} {k : Nat} {bs : List Nat} {h : DGs} (n : Nat) (hc : X.calm = true) (hh : GsD X es bs h) (hn : (assignEach es X.env).length = n := by rfl) (hst : (assignEach es X.env).findIdx? (·.1) = none := by rfl) : GD X (.Tuple es k pos) bs (gdTup n h) :=
  pgImp (pg_tup hc hh hn hst) fun v σ H Q ⟨F0, B, F, ρ, d, P, S, r, ⟨l, e, hl, q⟩, fin⟩ => by
    subst e
    cases r with
    | @tup a xs _ h1 q1 => exact ⟨a, xs, rfl, Same.sqT S.fh h1, by rw [← q1.length]; exact hl, F0, B, F, ρ, l, P, S, q1, q, fin⟩
end

/-! ### fresh lists; comprehensions -/
def tLf (K : PySem.W.Frag) (f : DA) : TE := fun σ H Q => ∃ (F0 B F : Hp) (ρ : List Sl) (P : List D → Prop), StR K F0 B F ρ σ H ∧ f ρ P ∧
  ∀ l, P l → ∀ vs F' H' p, Ext F H F' H' → H' p = some (.lst vs) → F' p = none → H p = none → RepL K F' l vs → Q (.ref p) H'
abbrev LD (X : Cx) (e : Expr) (f : DA) : Prop := PE X e (tLf X.K f)
@[simp] def dFz (f : DA) : DE := fun ρ P => f ρ fun l => P (.lst l)
/-- the slots of the block's own names forgotten -/
@[simp] def wipeS (ρ : List Sl) : List Nat → List Sl
  | [] => ρ
  | v :: vs => (wipeS ρ vs).set v .no
/-- the turns of a comprehension: I of the items that are left and of what is made -/
def lcI (g : DG) (tt : DT) (te : DE) (ρ : List Sl) (items : List D) (P : List D → Prop) : Prop :=
  ∃ I : List D → List D → Prop, I items [] ∧ (∀ x xs acc, I (x :: xs) acc → g x ρ fun ρ2 => tt ρ2 fun b => if b = true then te ρ2 fun y => I xs (acc ++ [y]) else I xs acc) ∧ ∀ acc, I [] acc → P acc
@[simp] def dLc (it : DA) (g : DG) (tt : DT) (te : DE) (vs : List Nat) : DA := fun ρ P => it ρ fun items => items.length ≤ 1000000 ∧ lcI g tt te (wipeS ρ vs) items P
@[simp] def dYes : DT := fun _ P => P true
@[simp] def dLstL (k : DA) : DA := fun ρ P => k ρ fun xs => xs.length ≤ 1000000 ∧ P xs
@[simp] def dRepL (f g : DE) : DA := fun ρ P => f ρ fun x => g ρ fun y => ∃ l k, x = .lst l ∧ y = .int k ∧ 0 ≤ k ∧ k ≤ 1000000 ∧ l.length * k.toNat ≤ 1000000 ∧ P (List.replicate k.toNat l).flatten
section
variable {X : Cx} {pos : Pos}
theorem ed_fresh {e : Expr} {f : DA} (h : LD X e f) : ED X e (dFz f) := peImp h fun σ H Q ⟨F0, B, F, ρ, P, S, q, fin⟩ =>
  ⟨F0, B, F, ρ, _, S, q, fun l hl vs F' H' p E h1 h2 h3 r => by
    have sm : Same F' (upd F' p (.lst vs)) := fun b u w => by rw [upd_ne (ne_of_none w h2)]; exact w
    exact fin _ hl (.ref p) (upd F' p (.lst vs)) H' (E.freeze h1 trivial h2 h3) (.lst upd_same (r.mono sm))⟩
theorem ld_lst {es : List Expr} {k : DA} (h : AD X es k) : LD X (.List es pos) (dLstL k) := peImp (pe_lst h) fun σ H Q ⟨F0, B, F, ρ, P, S, q, fin⟩ =>
  ⟨F0, B, F, ρ, _, S, q, fun xs ⟨hl, hx⟩ vs F1 H1 E1 r1 => ⟨by rw [← r1.length]; exact le_line hl, fun p hp => fin xs hx vs F1 (upd H1 p (.lst vs)) p (E1.allocH hp trivial) upd_same (E1.fh.free hp) (E1.bh.none hp) r1⟩⟩
theorem ld_rep {a b : Expr} {f g : DE} (ha : ED X a f) (hb : ED X b g) : LD X (.BinOp a .Mult b pos) (dRepL f g) :=
  peImp (pe_op op_rep ha hb) fun σ H Q ⟨F0, B, F, ρ, P, S, q, fin⟩ =>
    ⟨F0, B, F, ρ, _, S, q, fun x hx vx F1 H1 E1 r1 => ⟨F0, B, F1, ρ, _, S.step E1, hx, fun y ⟨l, k, e1, e2, h0, h9, hl, hp⟩ vy F2 H2 E2 r2 => by
      subst e1 e2
      cases r2
      cases r1 with
      | @lst a xs _ h1 q1 =>
        have E12 := E1.trans E2
        exact ⟨a, k, xs, rfl, rfl, E2.fh _ _ (E2.ff _ _ h1), by omega, by omega, by rw [← q1.length]; exact le_line hl, fun p hp' =>
          fin _ hp _ F2 (upd H2 p _) p (E12.allocH hp' trivial) upd_same (E12.fh.free hp') (E12.bh.none hp') ((q1.mono E2.ff).flat _)⟩⟩⟩
theorem ptsImp {ifs : List Expr} {t u : TT} (h : PTs X ifs t) (w : ∀ σ H Q, u σ H Q → t σ H Q) : PTs X ifs u := by
  obtain ⟨run⟩ := h
  constructor
  intros
  rename_i I q
  exact run _ _ _ _ _ I (w _ _ _ q)
theorem tsd_nil : PTs X [] (tT X.K dYes) := ptsImp pts_nil fun σ H Q ⟨F0, B, F, ρ, P, S, q, fin⟩ => fin true q F H S.selfExt
theorem tsd_one {c : Expr} {t : DT} (h : TD X c t) : PTs X [c] (tT X.K t) := pts_one h
theorem StR.wipe {K : PySem.W.Frag} {F0 B F H : Hp} {ρ : List Sl} {σ : St} (S : StR K F0 B F ρ σ H) : ∀ vs : List Nat, StR K F0 B F (wipeS ρ vs) (L2.wipe σ vs) H
  | [] => S
  | v :: vs => (StR.wipe S vs).drop v none
theorem lc_turns {K : PySem.W.Frag} {g : DG} {tt : DT} {te : DE} {vs : List Nat} {σ : St} {F0 B F1 H1 : Hp} {ρ : List Sl} {items : List D} {J : It} {P : List D → Prop} {Q : Hp → Prop} {Dd : Addr} (S : StR K F0 B F1 ρ σ H1) (hD : H1 Dd = none) (hl : items.length ≤ 1000000) (ok : ItOk K J F1 items)
    (q : lcI g tt te (wipeS ρ vs) items P) (fin : ∀ l, P l → ∀ xs F' H', Ext F1 H1 F' H' → H' Dd = some (.lst xs) → F' Dd = none → RepL K F' l xs → Q H') :
    ∃ W : Nat → Nat → Hp → Prop, (∃ m, W 0 m (upd H1 Dd (.lst []))) ∧ ∀ i m H, W i m H →
      (J.stop i H ∧ Q H) ∨ (J.go i H ∧ ∃ Nx : Hp → Prop, (∀ H', Nx H' → ∃ m', m' < m ∧ W (i + 1) m' H') ∧ ∀ x H', J.yld i H x H' → tG K vs g x (L2.wipe σ vs) H' fun σ2 H2 => L2.wipe σ2 vs = L2.wipe σ vs ∧ tT K tt σ2 H2 fun b H3 =>
        if b = true then tE K te σ2 H3 fun y H4 => ∃ acc, H4 Dd = some (.lst acc) ∧ acc.length < sizeLine ∧ Nx (upd H4 Dd (.lst (acc ++ [y]))) else Nx H3) := by
  obtain ⟨I, q0, qs, qd⟩ := q
  refine ⟨fun i m H => m = items.length - i ∧ i ≤ items.length ∧ ∃ F' acc xs, Ext F1 H1 F' H ∧ H Dd = some (.lst xs) ∧ F' Dd = none ∧ RepL K F' acc xs ∧ acc.length ≤ i ∧ I (items.drop i) acc,
    ⟨items.length, by simp, Nat.zero_le _, F1, [], [], S.selfExt.allocH hD trivial, upd_same, S.fh.free hD, .nil, Nat.le_refl _, by simpa using q0⟩, ?_⟩
  rintro i m H ⟨rfl, hi, F', acc, xs, E, hx, hF, r, hacc, w⟩
  by_cases hlt : i < items.length
  · refine .inr ⟨ok.go i H hlt (E.ff.trans E.fh), fun H2 => ∃ F' acc xs, Ext F1 H1 F' H2 ∧ H2 Dd = some (.lst xs) ∧ F' Dd = none ∧ RepL K F' acc xs ∧ acc.length ≤ i + 1 ∧ I (items.drop (i + 1)) acc,
      fun H' h' => ⟨items.length - (i + 1), by omega, rfl, hlt, h'⟩, fun x H' hy => ?_⟩
    obtain ⟨d, hd, up⟩ := ok.yld i H x H' hlt (E.ff.trans E.fh) hy
    obtain ⟨F2, E2, r2⟩ := up F' E.ff E.fh E.nt
    have hdrop : items.drop i = d :: items.drop (i + 1) := by
      have h3 := List.drop_eq_getElem_cons hlt
      rw [List.getElem?_eq_getElem hlt] at hd
      cases hd
      exact h3
    rw [hdrop] at w
    have S2 : StR K F0 B F2 ρ σ H' := (S.step E).step E2
    have hx2 : H' Dd = some (.lst xs) := E2.bh.ordi hx fun _ z => by cases z
    have hF2 : F2 Dd = none := E2.fr _ _ hF hx
    refine ⟨F0, B, F2, wipeS ρ vs, d, _, S2.wipe vs, r2, qs _ _ _ w, fun ρ2 q2 σ2 S3 on => ⟨on.wipe, F0, B, F2, ρ2, _, S3, q2, fun b hb F3 H3 E3 => ?_⟩⟩
    have hx3 : H3 Dd = some (.lst xs) := E3.bh.ordi hx2 fun _ z => by cases z
    have hF3 : F3 Dd = none := E3.fr _ _ hF2 hx2
    cases b with
    | true =>
      refine iteT ⟨F0, B, F3, ρ2, _, S3.step E3, hb, fun y hy v F4 H4 E4 r4 => ?_⟩
      have hx4 : H4 Dd = some (.lst xs) := E4.bh.ordi hx3 fun _ z => by cases z
      have hF4 : F4 Dd = none := E4.fr _ _ hF3 hx3
      have ra := (((r.mono E2.ff).mono E3.ff).mono E4.ff)
      have EE := E.trans (E2.trans (E3.trans E4))
      refine ⟨xs, hx4, smallM (by rw [← ra.length]; omega), F4, acc ++ [y], xs ++ [v], EE.own hx4 trivial trivial hF4 hD, upd_same, hF4, ra.append (.one r4), ?_, hy⟩
      simp
      exact hacc
    | false => exact iteF ⟨F3, acc, xs, E.trans (E2.trans E3), hx3, hF3, (r.mono E2.ff).mono E3.ff, by omega, hb⟩
  · have e : i = items.length := by omega
    subst e
    rw [List.drop_length] at w
    exact .inl ⟨ok.stop _ H (Nat.le_refl _) (E.ff.trans E.fh), fin acc (qd acc w) xs F' H E hx hF r⟩
theorem toLc {it : DA} {g : DG} {tt : DT} {te : DE} {vs : List Nat} : ∀ σ H Q, tLf X.K (dLc it g tt te vs) σ H Q → tLc (tI X.K it) (tG X.K vs g) (tT X.K tt) (tE X.K te) vs σ H Q := fun σ H Q ⟨F0, B, F, ρ, P, S, q, fin⟩ =>
  ⟨F0, B, F, ρ, _, S, q, fun items ⟨hl, w⟩ F1 H1 E1 J ok Dd hD => lc_turns (S.step E1) hD hl ok w fun l hl xs F' H' E h1 h2 r => fin l hl xs F' H' Dd (E1.trans E) h1 h2 (E1.bh.none hD) r⟩
theorem ld_lc {elt tg iter : Expr} {ifs : List Expr} {scope : Scope} {own : List (Str × Nat)} {it : DA} {g : DG} {tt : DT} {te : DE} (hc : X.calm = true) (hN : X.N.Nodup) (hi : ID X tg iter it) (ok : BlkOk X.N X.env.scope scope own)
    (hg : ∀ (s : Shared) (H : Hp) (C : Addr) (cl : List (Str × Addr)) (fp : List Addr), GD (X.blk s H scope (compEnvC scope cl C X.env) fp) tg (own.map (·.2)) g)
    (ht : ∀ (s : Shared) (H : Hp) (C : Addr) (cl : List (Str × Addr)) (fp : List Addr), PTs (X.blk s H scope (compEnvC scope cl C X.env) fp) ifs (tT X.K tt))
    (he : ∀ (s : Shared) (H : Hp) (C : Addr) (cl : List (Str × Addr)) (fp : List Addr), ED (X.blk s H scope (compEnvC scope cl C X.env) fp) elt te) (hs : ∀ x, foldedSetIterable iter X.env x = pure x := by intro _; rfl) :
    LD X (.ListComp elt [⟨tg, iter, ifs, 0⟩] scope pos) (dLc it g tt te (own.map (·.2))) := peImp (pe_lc hc hN hi ok hg ht he hs) toLc
end

/-! ### statements -/
structure DEnds where
  nx : List Sl → Prop
  rt : D → Prop
  bk : List Sl → Prop := fun _ => False
  ct : List Sl → Prop := fun _ => False
  xx : Addr → Prop := fun _ => False
abbrev DS := DEnds → List Sl → Prop
structure Get (K : PySem.W.Frag) (E : XK) (F0 B F : Hp) (G : DEnds) (T : Ends) : Prop where
  nx : ∀ ρ' F' σ' H', G.nx ρ' → Same F F' → StR K F0 B F' ρ' σ' H' → T.nx σ' H'
  bk : ∀ ρ' F' σ' H', G.bk ρ' → Same F F' → StR K F0 B F' ρ' σ' H' → T.bk σ' H'
  ct : ∀ ρ' F' σ' H', G.ct ρ' → Same F F' → StR K F0 B F' ρ' σ' H' → T.ct σ' H'
  rt : ∀ d v F' H', G.rt d → Ext F0 B F' H' → Rep K F' d v → T.rt v H'
  xx : ∀ c F' H', G.xx c → Ext F0 B F' H' → E (.ref c) none H'
theorem Get.later {K : PySem.W.Frag} {E : XK} {F0 B F F2 : Hp} {G : DEnds} {T : Ends} (g : Get K E F0 B F G T) (s : Same F F2) : Get K E F0 B F2 G T :=
  ⟨fun ρ F' σ H q z => g.nx ρ F' σ H q (s.trans z), fun ρ F' σ H q z => g.bk ρ F' σ H q (s.trans z), fun ρ F' σ H q z => g.ct ρ F' σ H q (s.trans z), g.rt, g.xx⟩
def tS (K : PySem.W.Frag) (E : XK) (g : DS) : TS := fun T σ H => ∃ (F0 B F : Hp) (ρ : List Sl) (G : DEnds), StR K F0 B F ρ σ H ∧ g G ρ ∧ Get K E F0 B F G T
abbrev SD (X : Cx) (E : XK) (st : Stmt) (g : DS) : Prop := PS X st (tS X.K E g)
abbrev SsD (X : Cx) (E : XK) (sts : List Stmt) (g : DS) : Prop := PSs X sts (tS X.K E g)
section
variable {X : Cx} {E : XK} {st : Stmt} {rest : List Stmt} {g h : DS} {pos : Pos} {e : Expr} {f : DE}
@[simp] def dSkip : DS := fun G ρ => G.nx ρ
@[simp] def dSeq2 (g h : DS) : DS := fun G ρ => g { G with nx := h G } ρ
theorem sd_nil : SsD X E [] dSkip := pssImp pss_nil fun T σ H ⟨F0, B, F, ρ, G, S, q, k⟩ => k.nx ρ F σ H q (Same.refl F) S
theorem sd_cons (h1 : SD X E st g) (h2 : SsD X E rest h) : SsD X E (st :: rest) (dSeq2 g h) := pssImp (pss_cons h1 h2) fun T σ H ⟨F0, B, F, ρ, G, S, q, k⟩ =>
  ⟨F0, B, F, ρ, _, S, q, ⟨fun ρ' F' σ' H' q' z S' => ⟨F0, B, F', ρ', G, S', q', k.later z⟩, k.bk, k.ct, k.rt, k.xx⟩⟩
theorem sd_one (h1 : SD X E st g) : SsD X E [st] g := pss_one h1
theorem sd_pass : SD X E (.Pass pos) dSkip := psImp ps_pass fun T σ H ⟨F0, B, F, ρ, G, S, q, k⟩ => k.nx ρ F σ H q (Same.refl F) S
@[simp] def dRet (f : DE) : DS := fun G ρ => f ρ G.rt
theorem sd_ret (he : ED X e f) : SD X E (.Return (some e) pos) (dRet f) := psImp (ps_ret he) fun T σ H ⟨F0, B, F, ρ, G, S, q, k⟩ =>
  ⟨F0, B, F, ρ, _, S, q, fun d hd v F' H' E' r => k.rt d v F' H' hd (S.ext.trans E') r⟩
@[simp] def dSet (i : Nat) (f : DE) : DS := fun G ρ => f ρ fun d => G.nx (ρ.set i (.d d))
theorem sd_set (i : Nat) {x : Str} {pos' : Pos} (hN : X.N.Nodup) (he : ED X e f) (hi : X.N[i]? = some x := by rfl) (hx : Loc X.env.scope x := by first | exact .inl rfl | exact .inr rfl) (hs : swapsWith e (some (.Name x pos')) pos.line X.env = pure false := by rfl)
    (hf : X.fn x = true ∨ X.env.scope.names.lookup x = some .local := by first | exact .inl rfl | exact .inr rfl) : SD X E (.Assign [.Name x pos'] e pos) (dSet i f) := psImp (ps_set hN hi hx he hs hf) fun T σ H ⟨F0, B, F, ρ, G, S, q, k⟩ =>
  ⟨F0, B, F, ρ, _, S, q, fun d hd v F' H' E' r => k.nx _ F' _ H' hd E'.ff ((S.step E').set i r)⟩
/-- a new list of one's own -/
@[simp] def dSetL (i : Nat) (f : DA) : DS := fun G ρ => f ρ fun l => G.nx (ρ.set i (.own (.lst l)))
theorem StR.setNew {K : PySem.W.Frag} {F0 B F F' H H' : Hp} {ρ : List Sl} {σ : St} (S : StR K F0 B F ρ σ H) (i : Nat) {p : Addr} {ob : OB} {ho : HO} (E' : Ext F H F' H') (h1 : H' p = some ho) (h2 : F' p = none) (h3 : H p = none) (r : ORep K F' ob ho) :
    StR K F0 B F' (ρ.set i (.own ob)) (σ.set i (some (.ref p))) H' := by
  have S' := S.step E'
  have hB : B p = none := S.ext.bh.none h3
  have other : ∀ {j : Nat} {o : OB}, ρ[j]? = some (.own o) → σ[j]? ≠ some (some (.ref p)) := fun {j o} q e => by
    obtain ⟨o', e1, a, ho', e2, k1, _⟩ := S.slot j _ q
    rw [e1, e2] at e
    cases e
    rw [h3] at k1; cases k1
  refine ⟨S'.ext, by simpa using S.len, fun j s q => ?_, fun j k o o' q1 q2 n => ?_⟩
  · by_cases hj : i = j
    · subst hj
      by_cases hl : i < ρ.length
      · rw [List.getElem?_set_self hl] at q
        cases q
        exact ⟨_, by rw [List.getElem?_set_self (by rw [← S.len]; exact hl)], p, ho, rfl, h1, h2, hB, r⟩
      · rw [List.getElem?_eq_none (by simpa using hl)] at q; cases q
    · rw [List.getElem?_set_ne hj] at q ⊢
      exact S'.slot j s q
  · have lt : ∀ {j : Nat} {o : OB}, (ρ.set i (.own ob))[j]? = some (.own o) → j < ρ.length := fun {j o} q => by
      obtain ⟨hl, _⟩ := List.getElem?_eq_some_iff.mp q
      simpa using hl
    have l1 := lt q1
    have l2 := lt q2
    by_cases hj : i = j
    · subst hj
      have hk : i ≠ k := n
      rw [List.getElem?_set_ne hk] at q2 ⊢
      rw [List.getElem?_set_self (by rw [← S.len]; exact l1)]
      exact (other q2).symm
    · rw [List.getElem?_set_ne hj] at q1 ⊢
      by_cases hk : i = k
      · subst hk
        rw [List.getElem?_set_self (by rw [← S.len]; exact l2)]
        exact other q1
      · rw [List.getElem?_set_ne hk] at q2 ⊢
        exact S.apart j k o o' q1 q2 n
theorem sd_setL (i : Nat) {x : Str} {pos' : Pos} {f : DA} (hN : X.N.Nodup) (he : LD X e f) (hi : X.N[i]? = some x := by rfl) (hx : Loc X.env.scope x := by first | exact .inl rfl | exact .inr rfl) (hs : swapsWith e (some (.Name x pos')) pos.line X.env = pure false := by rfl)
    (hf : X.fn x = true ∨ X.env.scope.names.lookup x = some .local := by first | exact .inl rfl | exact .inr rfl) : SD X E (.Assign [.Name x pos'] e pos) (dSetL i f) := psImp (ps_set hN hi hx he hs hf) fun T σ H ⟨F0, B, F, ρ, G, S, q, k⟩ =>
  ⟨F0, B, F, ρ, _, S, q, fun l hl vs F' H' p E' h1 h2 h3 r => k.nx _ F' _ H' hl E'.ff (S.setNew i E' h1 h2 h3 (show ORep X.K F' (.lst l) (.lst vs) from r))⟩
/-- name = [..] on one line -/
theorem sd_setLc (i : Nat) {x : Str} {py : Pos} {elt tg iter : Expr} {ifs : List Expr} {scope : Scope} {own : List (Str × Nat)} {spos : Pos} {it : DA} {gg : DG} {tt : DT} {te : DE} (hc : X.calm = true) (hN : X.N.Nodup) (hyl : X.env.scope.names.lookup x = some .local)
    (hsw : swapsWith (.ListComp elt [⟨tg, iter, ifs, 0⟩] scope pos) (some (.Name x py)) spos.line X.env = pure true) (hi : ID X tg iter it) (ok : BlkOk X.N X.env.scope scope own)
    (hg : ∀ (s : Shared) (H : Hp) (C : Addr) (cl : List (Str × Addr)) (fp : List Addr), GD (X.blk s H scope (compEnvC scope cl C X.env) fp) tg (own.map (·.2)) gg)
    (ht : ∀ (s : Shared) (H : Hp) (C : Addr) (cl : List (Str × Addr)) (fp : List Addr), PTs (X.blk s H scope (compEnvC scope cl C X.env) fp) ifs (tT X.K tt))
    (he : ∀ (s : Shared) (H : Hp) (C : Addr) (cl : List (Str × Addr)) (fp : List Addr), ED (X.blk s H scope (compEnvC scope cl C X.env) fp) elt te) (hy : X.N[i]? = some x := by rfl) (hs : ∀ x, foldedSetIterable iter X.env x = pure x := by intro _; rfl) :
    SD X E (.Assign [.Name x py] (.ListComp elt [⟨tg, iter, ifs, 0⟩] scope pos) spos) (dSet i (dFz (dLc it gg tt te (own.map (·.2))))) :=
  psImp (ps_setLc hc hN hy hyl hsw hi ok hg ht he hs) fun T σ H ⟨F0, B, F, ρ, G, S, q, k⟩ =>
    toLc σ H _ ⟨F0, B, F, ρ, _, S, q, fun l hl vs F' H' p E' h1 h2 h3 r => by
      have sm : Same F' (upd F' p (.lst vs)) := fun b u w => by rw [upd_ne (ne_of_none w h2)]; exact w
      have EE := E'.freeze (p := p) h1 trivial h2 h3
      exact k.nx _ _ _ H' hl EE.ff ((S.step EE).set i (.lst upd_same (r.mono sm)))⟩
@[simp] def dUnp (gg : DG) (f : DE) : DS := fun G ρ => f ρ fun d => gg d ρ G.nx
theorem sd_asg {tg : Expr} {bs : List Nat} {gg : DG} (he : ED X e f) (hg : GD X tg bs gg) (hs : swapsWithSole [tg] e pos.line X.env = pure false := by rfl) (hw : swappedStores [tg] e X.env = pure none := by rfl)
    (h1 : (assignEach [tg] X.env).map (·.2) = [assign tg X.env] := by rfl) : SD X E (.Assign [tg] e pos) (dUnp gg f) := psImp (ps_asg he hg hs hw h1) fun T σ H ⟨F0, B, F, ρ, G, S, q, k⟩ =>
  ⟨F0, B, F, ρ, _, S, q, fun d hd v F' H' E' r => ⟨F0, B, F', ρ, d, _, S.step E', r, hd, fun ρ' p σ' S' _ => k.nx ρ' F' σ' H' p E'.ff S'⟩⟩
@[simp] def dPar (i j : Nat) (kk : DA) : DS := fun G ρ => kk ρ fun ds => ∃ a b, ds = [a, b] ∧ G.nx ((ρ.set i (.d a)).set j (.d b))
theorem sd_par (i j : Nat) {x y : Str} {a b : Expr} {kk : DA} {px py pt : Pos} {kt k2 : Nat} {pt2 : Pos} (hc : X.calm = true) (hN : X.N.Nodup) (ha : AD X [a, b] kk) (hi : X.N[i]? = some x := by rfl) (hj : X.N[j]? = some y := by rfl) (hij : i ≠ j := by decide)
    (hx : X.env.scope.names.lookup x = some .local := by rfl) (hy : X.env.scope.names.lookup y = some .local := by rfl)
    (hw : swappedStores [.Tuple [.Name x px, .Name y py] kt pt] (.Tuple [a, b] k2 pt2) X.env = pure (some [x, y]) := by rfl) (hs : swapsWithSole [.Tuple [.Name x px, .Name y py] kt pt] (.Tuple [a, b] k2 pt2) pos.line X.env = pure false := by rfl) :
    SD X E (.Assign [.Tuple [.Name x px, .Name y py] kt pt] (.Tuple [a, b] k2 pt2) pos) (dPar i j kk) := psImp (ps_par hc hN hi hj hij hx hy ha hw hs) fun T σ H ⟨F0, B, F, ρ, G, S, q, k⟩ =>
  ⟨F0, B, F, ρ, _, S, q, fun ds ⟨a, b, e, p⟩ vs F' H' E' r => by
    subst e
    cases r with
    | cons r1 rr =>
      cases rr with
      | cons r2 rr =>
        cases rr
        exact ⟨_, _, rfl, k.nx _ F' _ H' p E'.ff (((S.step E').set i r1).set j r2)⟩⟩
@[simp] def dIf (t : DT) (g h : DS) : DS := fun G ρ => t ρ fun c => if c = true then g G ρ else h G ρ
theorem sd_if {c : Expr} {a b : List Stmt} {t : DT} (hc : TD X c t) (ha : SsD X E a g) (hb : SsD X E b h) : SD X E (.If c a b pos) (dIf t g h) := psImp (ps_if hc ha hb) fun T σ H ⟨F0, B, F, ρ, G, S, q, k⟩ =>
  ⟨F0, B, F, ρ, _, S, q, fun c hc F' H' E' => by
    cases c with
    | true => exact ⟨F0, B, F', ρ, G, S.step E', hc, k.later E'.ff⟩
    | false => exact ⟨F0, B, F', ρ, G, S.step E', hc, k.later E'.ff⟩⟩
/-- the turns of a for: I of the items that are left -/
def forI (gg : DG) (body : DS) (G : DEnds) (items : List D) (ρ : List Sl) : Prop :=
  ∃ I : List D → List Sl → Prop, I items ρ ∧ (∀ x xs ρ, I (x :: xs) ρ → gg x ρ fun ρ2 => body { G with nx := I xs, ct := I xs, bk := G.nx } ρ2) ∧ ∀ ρ, I [] ρ → G.nx ρ
@[simp] def dFor (it : DA) (gg : DG) (body : DS) : DS := fun G ρ => it ρ fun items => forI gg body G items ρ
theorem sd_for {tg iter : Expr} {body : List Stmt} {bs : List Nat} {it : DA} {gg : DG} {tb : DS} (hp : PassesOwn (model X.prog X.w) X.A X.env X.xe) (hc : X.calm = true) (hi : ID X tg iter it) (hg : GD X tg bs gg) (hb : SsD X E body tb)
    (hs : ∀ x, foldedSetIterable iter X.env x = pure x := by intro _; rfl) : SD X E (.For tg iter body [] pos) (dFor it gg tb) := psImp (ps_for hp hc hi hg hb hs) fun T σ H ⟨F0, B, F, ρ, G, S, q, k⟩ =>
  ⟨F0, B, F, ρ, _, S, q, fun items w F1 H1 E1 J ok => by
    obtain ⟨I, w0, ws, wd⟩ := w
    refine ⟨fun i m σ H => m = items.length - i ∧ i ≤ items.length ∧ ∃ F' ρ', StR X.K F0 B F' ρ' σ H ∧ Same F1 F' ∧ I (items.drop i) ρ', ⟨items.length, by simp, Nat.zero_le _, F1, ρ, S.step E1, Same.refl F1, by simpa using w0⟩, ?_⟩
    rintro i m σ' H' ⟨rfl, hi, F', ρ', S', s', w'⟩
    by_cases hlt : i < items.length
    · refine .inr ⟨ok.go i H' hlt (s'.trans S'.fh), fun σ2 H2 => ∃ F2 ρ2, StR X.K F0 B F2 ρ2 σ2 H2 ∧ Same F1 F2 ∧ I (items.drop (i + 1)) ρ2, fun σ2 H2 h2 => ⟨items.length - (i + 1), by omega, rfl, hlt, h2⟩, fun x H2 hy => ?_⟩
      obtain ⟨d, hd, up⟩ := ok.yld i H' x H2 hlt (s'.trans S'.fh) hy
      obtain ⟨F2, E2, r2⟩ := up F' s' S'.fh S'.nt
      have hdrop : items.drop i = d :: items.drop (i + 1) := by
        have h3 := List.drop_eq_getElem_cons hlt
        rw [List.getElem?_eq_getElem hlt] at hd
        cases hd
        exact h3
      rw [hdrop] at w'
      refine ⟨F0, B, F2, ρ', d, _, S'.step E2, r2, ws _ _ _ w', fun ρ3 q3 σ3 S3 _ => ⟨F0, B, F2, ρ3, _, S3, q3, ?_⟩⟩
      exact ⟨fun ρ4 F4 σ4 H4 q4 z S4 => ⟨F4, ρ4, S4, (s'.trans E2.ff).trans z, q4⟩, fun ρ4 F4 σ4 H4 q4 z S4 => k.nx ρ4 F4 σ4 H4 q4 (E1.ff.trans ((s'.trans E2.ff).trans z)) S4,
        fun ρ4 F4 σ4 H4 q4 z S4 => ⟨F4, ρ4, S4, (s'.trans E2.ff).trans z, q4⟩, k.rt, k.xx⟩
    · have e : i = items.length := by omega
      subst e
      rw [List.drop_length] at w'
      exact .inl ⟨ok.stop _ H' (Nat.le_refl _) (s'.trans S'.fh), k.nx ρ' F' σ' H' (wd _ w') (E1.ff.trans s') S'⟩⟩
/-- the turns of a while: I with a measure -/
def dWhile (t : DT) (body : DS) : DS := fun G ρ => ∃ I : Nat → List Sl → Prop, (∃ n, I n ρ) ∧ ∀ n ρ, I n ρ → t ρ fun c => if c = true then body { G with nx := fun ρ' => ∃ m, m < n ∧ I m ρ', ct := fun ρ' => ∃ m, m < n ∧ I m ρ', bk := G.nx } ρ else G.nx ρ
theorem sd_while {c : Expr} {body : List Stmt} {t : DT} {tb : DS} (hp : PassesOwn (model X.prog X.w) X.A X.env X.xe) (hc : TD X c t) (hb : SsD X E body tb) : SD X E (.While c body [] pos) (dWhile t tb) := psImp (ps_while hp hc hb) fun T σ H ⟨F0, B, F, ρ, G, S, ⟨I, ⟨n, q⟩, turn⟩, k⟩ => by
  refine ⟨fun m σ H => ∃ F' ρ', StR X.K F0 B F' ρ' σ H ∧ Same F F' ∧ I m ρ', ⟨n, F, ρ, S, Same.refl F, q⟩, ?_⟩
  rintro m σ' H' ⟨F', ρ', S', s', w⟩
  refine ⟨F0, B, F', ρ', _, S', turn _ _ w, fun b hb F2 H2 E2 => ?_⟩
  cases b with
  | true =>
    refine iteT ⟨fun σ3 H3 => ∃ m', m' < m ∧ ∃ F3 ρ3, StR X.K F0 B F3 ρ3 σ3 H3 ∧ Same F F3 ∧ I m' ρ3, fun σ3 H3 h3 => h3, F0, B, F2, ρ', _, S'.step E2, hb, ?_⟩
    exact ⟨fun ρ4 F4 σ4 H4 ⟨m', hm, q4⟩ z S4 => ⟨m', hm, F4, ρ4, S4, (s'.trans E2.ff).trans z, q4⟩, fun ρ4 F4 σ4 H4 q4 z S4 => k.nx ρ4 F4 σ4 H4 q4 ((s'.trans E2.ff).trans z) S4,
      fun ρ4 F4 σ4 H4 ⟨m', hm, q4⟩ z S4 => ⟨m', hm, F4, ρ4, S4, (s'.trans E2.ff).trans z, q4⟩, k.rt, k.xx⟩
  | false => exact iteF (k.nx ρ' F2 σ' H2 hb (s'.trans E2.ff) (S'.step E2))
/-- a list of one's own grows -/
@[simp] def dApp (i : Nat) (f : DE) : DS := fun G ρ => ∃ l, ρ[i]? = some (.own (.lst l)) ∧ l.length < 1000000 ∧ f ρ fun d => G.nx (ρ.set i (.own (.lst (l ++ [d]))))
theorem StR.ownAt {K : PySem.W.Frag} {F0 B F H : Hp} {ρ : List Sl} {σ : St} (S : StR K F0 B F ρ σ H) {i : Nat} {l : List D} (q : ρ[i]? = some (.own (.lst l))) : ∃ a xs, σ[i]? = some (some (.ref a)) ∧ H a = some (.lst xs) ∧ RepL K F l xs := by
  obtain ⟨o, e, a, ho, e2, h1, h2, h3, r⟩ := S.slot i _ q
  subst e2
  cases ho with
  | lst xs => exact ⟨a, xs, e, h1, r⟩
  | _ => exact r.elim
theorem sd_app (i : Nat) {x : Str} {p1 p2 p3 pos2 : Pos} {a : Expr} (he : ED X a f) (hi : X.N[i]? = some x := by rfl) (hv : Vis X.env.scope x := by first | exact Or.inl rfl | exact Or.inr (Or.inl rfl) | exact Or.inr (Or.inr rfl)) (hd : (x == ("__debug__" : Str)) = false := by decide)
    (hcd : (x == ("__classdict__" : Str)) = false := by decide) (hbase : attributeBase (.Name x p1) "append" X.env (eval (.Name x p1) X.env) = eval (.Name x p1) X.env := by rfl)
    (hfew : ((backTo p3 (starEach [a] X.env)).all (fun x => !x.1) && (backToKw p3 (keywordEach [] X.env)).all (fun x => x.1.isSome) && decide ([a].length + ([] : List Keyword).length + (if ([] : List Keyword).isEmpty then 0 else 1) < 30)) = true := by rfl)
    (hline : (p2.endLine == p3.line) = true := by rfl) (hs : starEach [a] X.env = (false, eval a X.env) :: starEach [] X.env := by rfl) (hplain : (backTo p3 (starEach [] X.env)).any (·.1) = false := by rfl)
    (hsw : swapsWith (.Call (.Attribute (.Name x p1) "append" p2) [a] [] p3) none pos2.line X.env = pure false := by rfl) :
    SD X E (.Expr (.Call (.Attribute (.Name x p1) "append" p2) [a] [] p3) pos2) (dApp i f) :=
  psImp (ps_expr (pe_bm PySem.F.plainAttrs_list PySem.F.slot_list_append PySem.F.type_list_append mt_append (pe_var hi hv hd hcd) (pa_cons he pa_nil hs) hbase hfew hline hs hplain) hsw) fun T σ H ⟨F0, B, F, ρ, G, S, q, k⟩ => by
    obtain ⟨l, ql, hl, w⟩ := q
    obtain ⟨p, xs, h1, h2, h3⟩ := S.ownAt ql
    refine ⟨.ref p, h1, .inl ⟨rfl, xs, SqL.of h2⟩, F0, B, F, ρ, _, S, w, fun d hd v F' H' E' r => ?_⟩
    have S' := S.step E'
    obtain ⟨p', xs', h1', h2', h3'⟩ := S'.ownAt ql
    rw [h1] at h1'
    cases h1'
    refine ⟨p, xs', v, rfl, rfl, h2', by rw [← h3'.length]; exact smallM (by omega), ?_⟩
    exact k.nx _ F' _ _ hd E'.ff (S'.change ql h1 (show ORep X.K F' (.lst (l ++ [d])) (.lst (xs' ++ [v])) from h3'.append (.one r)))
/-- an item of a list of one's own is stored -/
@[simp] def dPut (i : Nat) (fi f : DE) : DS := fun G ρ => f ρ fun d => ∃ l, ρ[i]? = some (.own (.lst l)) ∧ fi ρ fun j => ∃ z m, j = .int z ∧ ixN l.length z = some m ∧ G.nx (ρ.set i (.own (.lst (l.set m d))))
theorem sd_put (i : Nat) {x : Str} {p1 p2 : Pos} {ix a : Expr} {fi : DE} (hc : X.calm = true) (hix : ED X ix fi) (he : ED X a f) (hi : X.N[i]? = some x := by rfl) (hv : Vis X.env.scope x := by first | exact Or.inl rfl | exact Or.inr (Or.inl rfl) | exact Or.inr (Or.inr rfl)) (hd : (x == ("__debug__" : Str)) = false := by decide)
    (hcd : (x == ("__classdict__" : Str)) = false := by decide)
    (ha : ∀ v, assign (.Subscript (.Name x p1) ix p2) X.env v = (do
      let ov ← holding [v] (eval (.Name x p1) X.env)
      let iv ← holding [v, ov] (eval ix X.env)
      standAt p2
      holding [v, ov, iv] (setItem ov iv v)
      release [v, ov, iv] []) := by intro _; rfl)
    (hs : swapsWithSole [.Subscript (.Name x p1) ix p2] a pos.line X.env = pure false := by rfl) (hw : swappedStores [.Subscript (.Name x p1) ix p2] a X.env = pure none := by rfl)
    (h1 : (assignEach [.Subscript (.Name x p1) ix p2] X.env).map (·.2) = [assign (.Subscript (.Name x p1) ix p2) X.env] := by rfl) :
    SD X E (.Assign [.Subscript (.Name x p1) ix p2] a pos) (dPut i fi f) :=
  psImp (ps_asg he (pg_sub (pe_var hi hv hd hcd) hix set_list ha) hs hw h1) fun T σ H ⟨F0, B, F, ρ, G, S, q, k⟩ =>
    ⟨F0, B, F, ρ, _, S, q, fun d hd v F' H' E' r => by
      have S' := S.step E'
      obtain ⟨l, ql, w⟩ := hd
      obtain ⟨p, xs, h1, h2, h3⟩ := S'.ownAt ql
      refine ⟨.ref p, h1, F0, B, F', ρ, _, S', w, fun j hj vj F2 H2 E2 rj => ?_⟩
      obtain ⟨z, m, ej, hm, w2⟩ := hj
      subst ej
      cases rj
      have S2 := S'.step E2
      obtain ⟨p', xs', h1', h2', h3'⟩ := S2.ownAt ql
      rw [h1] at h1'
      cases h1'
      refine ⟨p, xs', z, m, rfl, rfl, h2', by rw [← h3'.length]; exact hm, ?_⟩
      exact k.nx _ F2 _ _ w2 (E'.ff.trans E2.ff) (S2.change ql h1 (show ORep X.K F2 (.lst (l.set m d)) (.lst (xs'.set m v)) from RepL.set (r.mono E2.ff) m h3'))⟩
/-- what is asked of a list of one's own while it stays so -/
@[simp] def dLenOwn (i : Nat) : DE := fun ρ P => ∃ l, ρ[i]? = some (.own (.lst l)) ∧ P (.int l.length)
theorem ed_lenOwn (i : Nat) {x : Str} {p q : Pos} (hm : X.mg "len" = none) (hi : X.N[i]? = some x := by rfl) (hv : Vis X.env.scope x := by first | exact Or.inl rfl | exact Or.inr (Or.inl rfl) | exact Or.inr (Or.inr rfl)) (hd : (x == ("__debug__" : Str)) = false := by decide)
    (hcd : (x == ("__classdict__" : Str)) = false := by decide) (hg : Gl X "len" := by rfl) (hs : starEach [.Name x q] X.env = (false, eval (.Name x q) X.env) :: starEach [] X.env := by rfl) (hpl : (backTo pos (starEach [] X.env)).any (·.1) = false := by rfl) :
    ED X (.Call (.Name "len" p) [.Name x q] [] pos) (dLenOwn i) :=
  peImp (pe_callB call_len_seq hg hm PySem.boot_len (pa_cons (pe_var hi hv hd hcd) pa_nil hs) (by decide) (by decide) hs hpl) fun σ H Q ⟨F0, B, F, ρ, P, S, ⟨l, ql, p⟩, fin⟩ => by
    obtain ⟨a, xs, h1, h2, h3⟩ := S.ownAt ql
    exact ⟨.ref a, h1, a, xs, rfl, .inl (SqL.of h2), by rw [← h3.length]; exact fin.at S.fh S.nt p (.int _)⟩
@[simp] def dIxOwn (i : Nat) (f : DE) : DE := fun ρ P => ∃ l, ρ[i]? = some (.own (.lst l)) ∧ f ρ fun j => ∃ z d, j = .int z ∧ atI l z = some d ∧ P d
theorem ed_ixOwn (i : Nat) {x : Str} {p : Pos} {b : Expr} (hb : ED X b f) (hi : X.N[i]? = some x := by rfl) (hv : Vis X.env.scope x := by first | exact Or.inl rfl | exact Or.inr (Or.inl rfl) | exact Or.inr (Or.inr rfl)) (hd : (x == ("__debug__" : Str)) = false := by decide)
    (hcd : (x == ("__classdict__" : Str)) = false := by decide) (hs : PlainIx b := by exact fun _ _ => rfl) : ED X (.Subscript (.Name x p) b pos) (dIxOwn i f) :=
  peImp (pe_ix ix_list (pe_var hi hv hd hcd) hb hs) fun σ H Q ⟨F0, B, F, ρ, P, S, ⟨l, ql, w⟩, fin⟩ => by
    obtain ⟨a, xs, h1, h2, h3⟩ := S.ownAt ql
    refine ⟨.ref a, h1, F0, B, F, ρ, _, S, w, fun j ⟨z, d, e, hz, p⟩ v F' H' E' r => ?_⟩
    subst e
    cases r
    have S' := S.step E'
    obtain ⟨a', xs', h1', h2', h3'⟩ := S'.ownAt ql
    rw [h1] at h1'
    cases h1'
    obtain ⟨u, hu, ru⟩ := h3'.atI hz
    exact ⟨a, xs', z, u, rfl, rfl, SqL.of h2', hu, (fin.later E').at E'.fh E'.nt p ru⟩
@[simp] def dNeNil (i : Nat) : DE := fun ρ P => ∃ l, ρ[i]? = some (.own (.lst l)) ∧ lay 59 (.lst l) = true ∧ P (.bl (!l.isEmpty))
theorem toNeNil (i : Nat) : ∀ σ H Q, tE X.K (dNeNil i) σ H Q → tOp (rNeD X.K) (tVar i) (tLst tNil) σ H Q := fun σ H Q ⟨F0, B, F, ρ, P, S, ⟨l, ql, y, p⟩, fin⟩ => by
  obtain ⟨a, xs, h1, h2, h3⟩ := S.ownAt ql
  refine ⟨.ref a, h1, Nat.zero_le _, fun q hq => ?_⟩
  have hF : F q = none := S.fh.free hq
  have dp : DpAll X.K (upd H q (.lst [])) xs (toPyL l) := h3.dp (fun b u w => by rw [upd_ne (ne_of_none (S.fh b u w) hq)]; exact S.fh b u w) 58 (by simpa [lay] using y)
  have sh := lay_shaped (d := .lst l) (by
    have := lay_ok 59 _ y
    simp only [lay] at y ⊢
    exact List.all_eq_true.mpr fun x hx => lay_mono (List.all_eq_true.mp y x hx))
  refine ⟨.list (toPyL l), .list [], .lst (SqL.of (by rw [upd_ne (ne_of_none h2 hq)]; exact h2)) dp, .lst (SqL.of upd_same) .nil, by simpa [toPy] using sh, by decide, ?_⟩
  have e : (!PyData.eqv (.list (toPyL l)) (.list [])) = !l.isEmpty := by
    cases l with
    | nil => simp [toPyL, PyData.eqv, PyData.eqvAll]
    | cons d l => simp [toPyL, PyData.eqv, PyData.eqvAll]
  rw [e]
  exact fin _ p _ F _ (S.selfExt.allocH hq trivial) (.bl _)
theorem ed_neNil (i : Nat) {x : Str} {p p2 : Pos} (hu : X.A.units + 64 < cLine) (hi : X.N[i]? = some x := by rfl) (hv : Vis X.env.scope x := by first | exact Or.inl rfl | exact Or.inr (Or.inl rfl) | exact Or.inr (Or.inr rfl)) (hd : (x == ("__debug__" : Str)) = false := by decide)
    (hcd : (x == ("__classdict__" : Str)) = false := by decide) : ED X (.Compare (.Name x p) [.NotEq] [.List [] p2] pos) (dNeNil i) := peImp (pe_cmpR (op_neD hu) (pe_var hi hv hd hcd) (pe_lst pa_nil) (nomark _)) (toNeNil i)
theorem td_neNil (i : Nat) {x : Str} {p p2 : Pos} (hu : X.A.units + 64 < cLine) (hi : X.N[i]? = some x := by rfl) (hv : Vis X.env.scope x := by first | exact Or.inl rfl | exact Or.inr (Or.inl rfl) | exact Or.inr (Or.inr rfl)) (hd : (x == ("__debug__" : Str)) = false := by decide)
    (hcd : (x == ("__classdict__" : Str)) = false := by decide) : TD X (.Compare (.Name x p) [.NotEq] [.List [] p2] pos) (dTest (dNeNil i)) :=
  ptImp (pt_cmpR (op_neD hu) (pe_var hi hv hd hcd) (pe_lst pa_nil) (nomark _)) fun σ H Q q => tTest_imp (toNeNil i) σ H Q (toTest σ H Q q)
/-- an object of one's own is given away -/
@[simp] def dFrz (i : Nat) (g : DS) : DS := fun G ρ => ∃ o, ρ[i]? = some (.own o) ∧ g G (ρ.set i (.d o.frz))
theorem sd_frz (i : Nat) {sts : List Stmt} (h : SsD X E sts g) : SsD X E sts (dFrz i g) := pssImp h fun T σ H ⟨F0, B, F, ρ, G, S, ⟨o, q, w⟩, k⟩ => by
  obtain ⟨F', sm, S'⟩ := S.freeze q
  exact ⟨F0, B, F', _, G, S', w, k.later sm⟩
end
end Dy

/-! # The data layer: defs. -/
namespace Dy
variable [Tn]
open PySem PySem.Spec PyProof.Rows L2
@[simp] def startS (N : List Str) (ds : List D) : List Sl := ds.map .d ++ List.replicate (N.length - ds.length) .no
theorem stR_start {K : PySem.W.Frag} {F H : Hp} {ds : List D} {vs : List V} (N : List Str) (s : Same F H) (n : NT F H) (r : RepL K F ds vs) : StR K F H F (startS N ds) (L2.start N vs) H := by
  have hl := r.length
  refine ⟨Ext.refl s n, by simp [startS, L2.start, hl], fun i sl q => ?_, fun i j o o' q _ _ => ?_⟩
  · unfold startS at q
    unfold L2.start
    by_cases hi : i < ds.length
    · rw [List.getElem?_append_left (by simpa using hi), List.getElem?_map, List.getElem?_eq_getElem hi] at q
      obtain ⟨v, hv, rv⟩ := r.get (List.getElem?_eq_getElem hi)
      have q' : Sl.d ds[i] = sl := by simpa using q
      subst q'
      refine ⟨some v, ?_, v, rfl, rv⟩
      rw [List.getElem?_append_left (by simp; omega), List.getElem?_map, hv]
      rfl
    · rw [List.getElem?_append_right (by simp; omega), List.getElem?_replicate] at q
      split at q
      · cases q
        rename_i hlt
        refine ⟨none, ?_, trivial⟩
        rw [List.getElem?_append_right (by simp; omega), List.getElem?_replicate, if_pos (by simp at hlt ⊢; omega)]
      · cases q
  · exfalso
    unfold startS at q
    by_cases hi : i < ds.length
    · rw [List.getElem?_append_left (by simpa using hi), List.getElem?_map, List.getElem?_eq_getElem hi] at q
      cases q
    · rw [List.getElem?_append_right (by simp; omega), List.getElem?_replicate] at q
      split at q <;> cases q
section
variable {P : Program} {w : World} {K : PySem.W.Frag} {mg : Str → Option Value} {base : Heap}
/-- a def that raises nothing -/
theorem fnD {x : Str} {st : Stmt} {f : Addr} {fd : FuncData} {N ps : List Str} {k : Nat} {φ : Spc} (F : Fun K x x st f fd) (S : FnScope N ps (defScope st)) (gm : mg x = some (.ref f)) (hb : Binds K fd ps []) (len : ∀ ds P Z, φ ds P Z → ds.length = ps.length)
    (body : ∀ (cdv : Value) (A : Around) (outer : List Env) (s : Shared) (H : Hp) (E : XK), Room k (A.deeper (envOfC x (defScope st) s.heap.objs.size f cdv)) →
      ∃ g : DS, SsD (cxOf CX0 P w K mg base N x (defScope st) f cdv A outer s H E).nox E0 (defBody st) g ∧ ∀ ds Q Z, φ ds Q Z → g { nx := fun _ => Q .non, rt := Q } (startS N ds)) : DefD P w K mg base CX0 x (k + 1) φ := by
  refine ⟨f, fd, ps, F.ok S (fun vs H Q E ⟨F', ds, P', Z, s, n, r, h, _⟩ => by rw [← r.length]; exact len ds P' Z h) (fun cdv A outer s H vs Q E hr ⟨F', ds, P', Z, sm, n, r, h, fin, _⟩ => ?_), gm, F.kp, hb⟩
  obtain ⟨g, hg, q⟩ := body cdv A outer s H E hr
  exact ⟨_, hg, F', H, F', _, _, stR_start N sm n r, q ds P' Z h, ⟨fun ρ' F2 σ' H' p _ S' => fin .non p .non F2 H' S'.ext .non, fun _ _ _ _ z => z.elim, fun _ _ _ _ z => z.elim, fun d v F2 H' p E' r' => fin d p v F2 H' E' r', fun _ _ _ z => z.elim⟩⟩
/-- a def that may raise -/
theorem fnX {x : Str} {st : Stmt} {f : Addr} {fd : FuncData} {N ps : List Str} {k : Nat} {φ : Spc} (F : Fun K x x st f fd) (S : FnScope N ps (defScope st)) (gm : mg x = some (.ref f)) (hb : Binds K fd ps []) (len : ∀ ds P Z, φ ds P Z → ds.length = ps.length)
    (body : ∀ (cdv : Value) (A : Around) (outer : List Env) (s : Shared) (H : Hp) (E : XK), Room k (A.deeper (envOfC x (defScope st) s.heap.objs.size f cdv)) →
      ∃ g : DS, SsD (cxOf (L2.CX P w) P w K mg base N x (defScope st) f cdv A outer s H E) E (defBody st) g ∧ ∀ ds Q Z, φ ds Q Z → g { nx := fun _ => Q .non, rt := Q, xx := Z } (startS N ds)) : DefD P w K mg base (L2.CX P w) x (k + 1) φ := by
  refine ⟨f, fd, ps, F.okX S (fun vs H Q E ⟨F', ds, P', Z, s, n, r, h, _⟩ => by rw [← r.length]; exact len ds P' Z h) (fun cdv A outer s H vs Q E hr ⟨F', ds, P', Z, sm, n, r, h, fin, finx⟩ => ?_), gm, F.kp, hb⟩
  obtain ⟨g, hg, q⟩ := body cdv A outer s H E hr
  exact ⟨_, hg, F', H, F', _, _, stR_start N sm n r, q ds P' Z h, ⟨fun ρ' F2 σ' H' p _ S' => fin .non p .non F2 H' S'.ext .non, fun _ _ _ _ z => z.elim, fun _ _ _ _ z => z.elim, fun d v F2 H' p E' r' => fin d p v F2 H' E' r', fun c F2 H' p E' => finx c p F2 H' E'⟩⟩
/-- a stronger promise holds the weaker one -/
theorem DefD.imp {CX : CXT} {x : Str} {k : Nat} {φ ψ : Spc} (h : DefD P w K mg base CX x k φ) (i : ∀ ds Q Z, ψ ds Q Z → φ ds Q Z) : DefD P w K mg base CX x k ψ := by
  obtain ⟨f, fd, ps, F, a, b, c⟩ := h.ex
  exact ⟨f, fd, ps, F.imp fun vs H Q E ⟨F', ds, P', Z, s, n, r, h, fin⟩ => ⟨F', ds, P', Z, s, n, r, i _ _ _ h, fin⟩, a, b, c⟩
end
section
variable {X : Cx} {E : XK} {pos : Pos}
/-- a call that may raise, as a statement -/
@[simp] def dCallX (φ : Spc) (k : DA) : DS := fun G ρ => k ρ fun ds => φ ds (fun _ => G.nx ρ) G.xx
theorem sd_callX {x : Str} {p pos2 : Pos} {e : Expr} {es : List Expr} {k : DA} {φ : Spc} {j n : Nat} {CX : CXT} (G : DefD X.prog X.w X.K X.mg X.base CX x j φ) (hr : Room n X.A) (hx : Passes CX X E) (ha : AD X (e :: es) k) (hjn : j ≤ n := by decide) (hg : Gl X x := by rfl) (hdb : (x == ("__debug__" : Str)) = false := by decide)
    (he : starEach (e :: es) X.env = (false, eval e X.env) :: starEach es X.env := by rfl) (hpl : (backTo pos (starEach es X.env)).any (·.1) = false := by rfl) (hsw : swapsWith (.Call (.Name x p) (e :: es) [] pos) none pos2.line X.env = pure false := by rfl) :
    SD X E (.Expr (.Call (.Name x p) (e :: es) [] pos) pos2) (dCallX φ k) := by
  obtain ⟨f, fd, ps, F, hm, hk, hb⟩ := G.ex
  refine psImp (ps_expr (pe_call F (hr.mono hjn) hg hm hk hb .nil hx ha hdb he hpl) hsw) fun T σ H ⟨F0, B, F, ρ, G, S, q, k⟩ => ?_
  exact ⟨F0, B, F, ρ, _, S, q, fun ds hd vs F1 H1 E1 r1 => ⟨F1, ds, _, _, E1.fh, E1.nt, by rw [List.append_nil]; exact r1, hd, fun d hd v F2 H2 E2 r2 => k.nx ρ F2 σ H2 hd (E1.ff.trans E2.ff) ((S.step E1).step E2),
    fun c z F2 H2 E2 => k.xx c F2 H2 z (S.ext.trans (E1.trans E2))⟩⟩
/-- raise C('..') -/
@[simp] def dRaise (C : Addr) : DS := fun G _ => G.xx C
theorem sd_raise {C : Addr} {bmB : List Value} {B newId initId : String} {x m : Str} {j : Nat} {p p2 pos2 : Pos} (hc : X.calm = true) (tk : Takes X (fun cls d _ H => E cls d H)) (F : PySem.ExcBaseFacts B newId initId bmB) (q : PySem.W.excIn X.K C bmB newId = true) (gC : X.mg x = some (.ref C)) (kC : PySem.W.keepIn X.K (.ref C) = true) (r : Raises X (.ref C)) (hg : Gl X x := by rfl)
    (hdb : (x == ("__debug__" : Str)) = false := by decide) : SD X E (.Raise (some (.Call (.Name x p) [.Constant (.str m) j p2] [] pos)) none pos2) (dRaise C) :=
  psImp (ps_raise hc tk (pmk_own F q gC kC r hg hdb)) fun T σ H ⟨F0, B, F, ρ, G, S, q, k⟩ => k.xx C F H q S.ext
theorem passC {P : Program} {w : World} {K : PySem.W.Frag} {mg : Str → Option Value} {base : Heap} {N : List Str} {qual : Str} {sc : Scope} {f : Addr} {cd : Value} {A : Around} {outer : List Env} {s : Shared} {H : Hp} {E : XK} :
    Passes (L2.CX P w) (cxOf (L2.CX P w) P w K mg base N qual sc f cd A outer s H E) E := passes_call (takes_of rfl rfl rfl rfl) fun _ _ _ _ h => h
end
end Dy

/-! # Fractions: what the defs compute. -/
namespace Dy
variable [Tn]
open PySem PySem.Spec PyProof.Rows L2
/-! ### readings with truths -/
@[simp] def onBl : D → (Bool → Prop) → Prop
  | .bl b, P => P b
  | _, _ => False
theorem ex_bl (x : D) (P : Bool → Prop) : (∃ k, x = .bl k ∧ P k) = onBl x P := by
  cases x <;> simp
@[simp] theorem dTest_eq (f : DE) (ρ : List Sl) (P : Bool → Prop) : dTest f ρ P = f ρ fun x => onBl x P := by
  unfold dTest
  exact congrArg (f ρ) (funext fun x => ex_bl x P)
@[simp] theorem dAnd_eq (f g : DE) (ρ : List Sl) (P : D → Prop) : dAnd f g ρ P = f ρ fun x => onBl x fun c => if c = true then g ρ P else P (.bl false) := by
  unfold dAnd
  exact congrArg (f ρ) (funext fun x => ex_bl x _)
@[simp] theorem dOr_eq (f g : DE) (ρ : List Sl) (P : D → Prop) : dOr f g ρ P = f ρ fun x => onBl x fun c => if c = true then P (.bl true) else g ρ P := by
  unfold dOr
  exact congrArg (f ρ) (funext fun x => ex_bl x _)
@[simp] theorem dNot_eq (f : DE) (ρ : List Sl) (P : D → Prop) : dNot f ρ P = f ρ fun x => onBl x fun c => P (.bl (!c)) := by
  unfold dNot
  exact congrArg (f ρ) (funext fun x => ex_bl x _)
@[simp] theorem dChain_eq (h h' : D → D → (D → Prop) → Prop) (f g k : DE) (ρ : List Sl) (P : D → Prop) : dChain h h' f g k ρ P = f ρ fun x => g ρ fun y => h x y fun z => onBl z fun c => if c = true then k ρ fun w' => h' y w' P else P (.bl false) := by
  unfold dChain
  exact congrArg (f ρ) (funext fun x => congrArg (g ρ) (funext fun y => congrArg (h x y) (funext fun z => ex_bl z _)))
/-- a fraction as data -/
def fr (q : Rat) : D := .tup [.int q.num, .int q.den]
@[irreducible] def bD : Nat := 2 ^ 4000
@[irreducible] def bN : Nat := 2 ^ 100000
theorem bD_eq : bD = 2 ^ 4000 := by unfold bD; rfl
theorem bN_eq : bN = 2 ^ 100000 := by unfold bN; rfl
/-- small enough to be reckoned with -/
structure Sz (q : Rat) : Prop where
  den : q.den < bD
  num : q.num.natAbs < bN
@[simp] theorem fr_inj (p q : Rat) : fr p = fr q ↔ p = q := by
  constructor
  · intro h
    unfold fr at h
    have h1 := D.tup.inj h
    have h2 : D.int p.num = D.int q.num := (List.cons.inj h1).1
    have h3 : D.int p.den = D.int q.den := (List.cons.inj (List.cons.inj h1).2).1
    exact Rat.ext (D.int.inj h2) (Int.ofNat.inj (D.int.inj h3))
  · intro h; rw [h]
theorem natAbs_lt_pow (a : Nat) : ((a : Int)).natAbs = a := by simp
theorem mulOk {i j : Int} (hi : i.natAbs < bN) (hj : j.natAbs < bN) : IntMulOk i j := by
  rw [bN_eq] at hi hj
  exact (wide_mul hi hj (by decide) (by decide) (by decide)).ok
theorem bD_le_bN : bD ≤ bN := by
  rw [bD_eq, bN_eq]
  exact Nat.pow_le_pow_right (by decide) (by decide)
theorem Sz.denN {q : Rat} (h : Sz q) : ((q.den : Nat) : Int).natAbs < bN := by
  have := h.den
  have := bD_le_bN
  simp
  omega
@[simp] theorem atI0 {α : Type} (a : α) (l : List α) : atI (a :: l) 0 = some a := atI_nat (j := 0) rfl
@[simp] theorem atI1 {α : Type} (a b : α) (l : List α) : atI (a :: b :: l) 1 = some b := atI_nat (j := 1) rfl
@[simp] theorem atI2 {α : Type} (a b c : α) (l : List α) : atI (a :: b :: c :: l) 2 = some c := atI_nat (j := 2) rfl
/-! ### common -/
def sp_common : Spc := fun ds Q _ => ∃ a b : Nat, ds = [.int a, .int b] ∧ Q (.int (Nat.gcd a b : Nat))
theorem len_common : ∀ ds Q Z, sp_common ds Q Z → ds.length = 2 := fun ds Q Z ⟨a, b, e, _⟩ => by rw [e]; rfl
def g_common : DS := (dSeq2 (dWhile (dTest (dOp (cmpD fun i j => decide (j < i)) (dVar 1) (dC (.int 0))))
    (dPar 0 1 (dCons (dVar 1) (dCons (dOp modD (dVar 0) (dVar 1)) dNil))))
    (dRet (dVar 0)))
theorem pure_common : ∀ ds Q Z, sp_common ds Q Z → g_common { nx := fun _ => Q .non, rt := Q } (startS ["one", "other"] ds) := by
  rintro ds Q Z ⟨a, b, rfl, h⟩
  simp only [g_common, dSeq2, dWhile]
  refine ⟨fun n ρ => ∃ x y : Nat, ρ = [.d (.int x), .d (.int y)] ∧ Nat.gcd x y = Nat.gcd a b ∧ y = n, ⟨b, a, b, rfl, rfl, rfl⟩, ?_⟩
  rintro n ρ ⟨x, y, rfl, e, rfl⟩
  by_cases hy : 0 < y
  · simp [hy, and_assoc]
    refine ⟨x % y, Nat.mod_lt _ hy, y, rfl, by simp, ?_⟩
    rw [Nat.gcd_comm, ← Nat.gcd_rec, Nat.gcd_comm]
    exact e
  · have hz : y = 0 := by omega
    subst hz
    have e2 : x = Nat.gcd a b := by simpa using e
    simpa [e2] using h
/-! ### fraction -/
def sp_fraction : Spc := fun ds Q _ => ∃ (n : Int) (d : Nat), ds = [.int n, .int d] ∧ 0 < d ∧ d < 2 ^ 9000 ∧ Q (fr (mkRat n d))
theorem len_fraction : ∀ ds Q Z, sp_fraction ds Q Z → ds.length = 2 := fun ds Q Z ⟨a, b, e, _⟩ => by rw [e]; rfl
def g_fraction : DS := (dSeq2 (dSet 2 (dCall sp_common (dCons (dCB absD (dCons (dVar 0) dNil)) (dCons (dVar 1) dNil))))
    (dRet (dTup (dCons (dOp fdivD (dVar 0) (dVar 2)) (dCons (dOp fdivD (dVar 1) (dVar 2)) dNil)))))
@[simp] theorem sp_common_at (a b : Nat) (Q : D → Prop) (Z : Addr → Prop) : sp_common [.int a, .int b] Q Z ↔ Q (.int (Nat.gcd a b : Nat)) := by
  constructor
  · rintro ⟨x, y, e, h⟩
    have e1 : (a : Int) = x ∧ (b : Int) = y := by simpa using e
    rw [show a = x by omega, show b = y by omega]
    exact h
  · intro h
    exact ⟨a, b, rfl, h⟩
theorem divOk {i : Int} {g d : Nat} (hg : 0 < g) (h : g ≤ d) (hd : d < 2 ^ 9000) : CDivW i (g : Int) := wide_div (by omega) (b := 9000) (by simp; omega) (by decide) (by decide)
theorem fr_mkRat (n : Int) (d : Nat) (hd : 0 < d) : fr (mkRat n d) = .tup [.int (n / (Nat.gcd n.natAbs d : Nat)), .int ((d : Int) / (Nat.gcd n.natAbs d : Nat))] := by
  unfold fr
  have h : d ≠ 0 := by omega
  rw [Rat.num_mkRat, Rat.den_mkRat, if_neg h, if_neg h, Nat.gcd_comm]
  simp
theorem pure_fraction : ∀ ds Q Z, sp_fraction ds Q Z → g_fraction { nx := fun _ => Q .non, rt := Q } (startS ["top", "under", "part"] ds) := by
  rintro ds Q Z ⟨n, d, rfl, hd, hs, h⟩
  have hg : 0 < Nat.gcd n.natAbs d := Nat.gcd_pos_of_pos_right _ hd
  have hl : Nat.gcd n.natAbs d ≤ d := Nat.gcd_le_right _ hd
  rw [fr_mkRat n d hd] at h
  simp [g_fraction]
  exact ⟨divOk hg hl hs, divOk hg hl hs, h⟩
@[simp] theorem sp_fraction_at (n : Int) (d : Nat) (Q : D → Prop) (Z : Addr → Prop) : sp_fraction [.int n, .int d] Q Z ↔ 0 < d ∧ d < 2 ^ 9000 ∧ Q (fr (mkRat n d)) := by
  constructor
  · rintro ⟨x, y, e, h⟩
    have e1 : n = x ∧ (d : Int) = y := by simpa using e
    rw [e1.1, show d = y by omega]
    exact h
  · intro h
    exact ⟨n, d, rfl, h⟩
theorem den_prod {p q : Rat} (hp : p.den < bD) (hq : q.den < bD) : p.den * q.den < 2 ^ 9000 := by
  rw [bD_eq] at hp hq
  have h1 : p.den * q.den < 2 ^ 4000 * 2 ^ 4000 := Nat.mul_lt_mul'' hp hq
  rw [← Nat.pow_add] at h1
  exact Nat.lt_of_lt_of_le h1 (Nat.pow_le_pow_right (by decide) (by decide))
theorem den_pos2 (p q : Rat) : 0 < p.den * q.den := Nat.mul_pos p.den_pos q.den_pos
/-! ### plus, minus, times, is_less -/
def sp_plus : Spc := fun ds Q _ => ∃ p q : Rat, ds = [fr p, fr q] ∧ Sz p ∧ Sz q ∧ Q (fr (p + q))
def sp_minus : Spc := fun ds Q _ => ∃ p q : Rat, ds = [fr p, fr q] ∧ Sz p ∧ Sz q ∧ Q (fr (p - q))
def sp_times : Spc := fun ds Q _ => ∃ p q : Rat, ds = [fr p, fr q] ∧ Sz p ∧ Sz q ∧ Q (fr (p * q))
def sp_is_less : Spc := fun ds Q _ => ∃ p q : Rat, ds = [fr p, fr q] ∧ Sz p ∧ Sz q ∧ Q (.bl (decide (p < q)))
theorem len1 {φ : Spc} (h : ∀ ds Q Z, φ ds Q Z → ∃ x, ds = [x]) : ∀ ds Q Z, φ ds Q Z → ds.length = 1 := fun ds Q Z q => by
  obtain ⟨x, e⟩ := h ds Q Z q
  rw [e]; rfl
theorem len2 {φ : Spc} (h : ∀ ds Q Z, φ ds Q Z → ∃ x y, ds = [x, y]) : ∀ ds Q Z, φ ds Q Z → ds.length = 2 := fun ds Q Z q => by
  obtain ⟨x, y, e⟩ := h ds Q Z q
  rw [e]; rfl
theorem len3 {φ : Spc} (h : ∀ ds Q Z, φ ds Q Z → ∃ x y z, ds = [x, y, z]) : ∀ ds Q Z, φ ds Q Z → ds.length = 3 := fun ds Q Z q => by
  obtain ⟨x, y, z, e⟩ := h ds Q Z q
  rw [e]; rfl
theorem len4 {φ : Spc} (h : ∀ ds Q Z, φ ds Q Z → ∃ x y z u, ds = [x, y, z, u]) : ∀ ds Q Z, φ ds Q Z → ds.length = 4 := fun ds Q Z q => by
  obtain ⟨x, y, z, u, e⟩ := h ds Q Z q
  rw [e]; rfl
theorem len_plus : ∀ ds Q Z, sp_plus ds Q Z → ds.length = 2 := len2 (fun ds Q Z ⟨p, q, e, _⟩ => ⟨_, _, e⟩)
theorem len_minus : ∀ ds Q Z, sp_minus ds Q Z → ds.length = 2 := len2 (fun ds Q Z ⟨p, q, e, _⟩ => ⟨_, _, e⟩)
theorem len_times : ∀ ds Q Z, sp_times ds Q Z → ds.length = 2 := len2 (fun ds Q Z ⟨p, q, e, _⟩ => ⟨_, _, e⟩)
theorem len_is_less : ∀ ds Q Z, sp_is_less ds Q Z → ds.length = 2 := len2 (fun ds Q Z ⟨p, q, e, _⟩ => ⟨_, _, e⟩)
section
variable (p q : Rat) (Q : D → Prop) (Z : Addr → Prop)
@[simp] theorem sp_plus_at : sp_plus [fr p, fr q] Q Z ↔ Sz p ∧ Sz q ∧ Q (fr (p + q)) :=
  ⟨fun ⟨x, y, e, h⟩ => by
    have e1 : p = x ∧ q = y := by simpa using e
    rw [e1.1, e1.2]; exact h, fun h => ⟨p, q, rfl, h⟩⟩
@[simp] theorem sp_minus_at : sp_minus [fr p, fr q] Q Z ↔ Sz p ∧ Sz q ∧ Q (fr (p - q)) :=
  ⟨fun ⟨x, y, e, h⟩ => by
    have e1 : p = x ∧ q = y := by simpa using e
    rw [e1.1, e1.2]; exact h, fun h => ⟨p, q, rfl, h⟩⟩
@[simp] theorem sp_times_at : sp_times [fr p, fr q] Q Z ↔ Sz p ∧ Sz q ∧ Q (fr (p * q)) :=
  ⟨fun ⟨x, y, e, h⟩ => by
    have e1 : p = x ∧ q = y := by simpa using e
    rw [e1.1, e1.2]; exact h, fun h => ⟨p, q, rfl, h⟩⟩
@[simp] theorem sp_is_less_at : sp_is_less [fr p, fr q] Q Z ↔ Sz p ∧ Sz q ∧ Q (.bl (decide (p < q))) :=
  ⟨fun ⟨x, y, e, h⟩ => by
    have e1 : p = x ∧ q = y := by simpa using e
    rw [e1.1, e1.2]; exact h, fun h => ⟨p, q, rfl, h⟩⟩
end
def g_plus : DS := (dRet (dCall sp_fraction (dCons (dOp addD (dOp mulD (dOp ixD (dVar 0) (dC (.int 0))) (dOp ixD (dVar 1) (dC (.int 1)))) (dOp mulD (dOp ixD (dVar 1) (dC (.int 0))) (dOp ixD (dVar 0) (dC (.int 1))))) (dCons (dOp mulD (dOp ixD (dVar 0) (dC (.int 1))) (dOp ixD (dVar 1) (dC (.int 1)))) dNil))))
def g_minus : DS := (dRet (dCall sp_fraction (dCons (dOp subD (dOp mulD (dOp ixD (dVar 0) (dC (.int 0))) (dOp ixD (dVar 1) (dC (.int 1)))) (dOp mulD (dOp ixD (dVar 1) (dC (.int 0))) (dOp ixD (dVar 0) (dC (.int 1))))) (dCons (dOp mulD (dOp ixD (dVar 0) (dC (.int 1))) (dOp ixD (dVar 1) (dC (.int 1)))) dNil))))
def g_times : DS := (dRet (dCall sp_fraction (dCons (dOp mulD (dOp ixD (dVar 0) (dC (.int 0))) (dOp ixD (dVar 1) (dC (.int 0)))) (dCons (dOp mulD (dOp ixD (dVar 0) (dC (.int 1))) (dOp ixD (dVar 1) (dC (.int 1)))) dNil))))
def g_is_less : DS := (dRet (dOp ltD (dOp mulD (dOp ixD (dVar 0) (dC (.int 0))) (dOp ixD (dVar 1) (dC (.int 1)))) (dOp mulD (dOp ixD (dVar 1) (dC (.int 0))) (dOp ixD (dVar 0) (dC (.int 1))))))
theorem cast2 (a b : Nat) : ((a : Int) * (b : Int)) = ((a * b : Nat) : Int) := by simp
theorem pure_plus : ∀ ds Q Z, sp_plus ds Q Z → g_plus { nx := fun _ => Q .non, rt := Q } (startS ["one", "other"] ds) := by
  rintro ds Q Z ⟨p, q, rfl, hp, hq, h⟩
  rw [Rat.add_def'] at h
  simp [g_plus, fr, cast2, -Int.natCast_mul, mulOk hp.num hq.denN, mulOk hq.num hp.denN, mulOk hp.denN hq.denN, den_pos2, den_prod hp.den hq.den]
  exact h
theorem pure_minus : ∀ ds Q Z, sp_minus ds Q Z → g_minus { nx := fun _ => Q .non, rt := Q } (startS ["one", "other"] ds) := by
  rintro ds Q Z ⟨p, q, rfl, hp, hq, h⟩
  rw [Rat.sub_def'] at h
  simp [g_minus, fr, cast2, -Int.natCast_mul, mulOk hp.num hq.denN, mulOk hq.num hp.denN, mulOk hp.denN hq.denN, den_pos2, den_prod hp.den hq.den]
  exact h
theorem pure_times : ∀ ds Q Z, sp_times ds Q Z → g_times { nx := fun _ => Q .non, rt := Q } (startS ["one", "other"] ds) := by
  rintro ds Q Z ⟨p, q, rfl, hp, hq, h⟩
  rw [Rat.mul_def'] at h
  simp [g_times, fr, cast2, -Int.natCast_mul, mulOk hp.num hq.num, mulOk hp.denN hq.denN, den_pos2, den_prod hp.den hq.den]
  exact h
theorem pure_is_less : ∀ ds Q Z, sp_is_less ds Q Z → g_is_less { nx := fun _ => Q .non, rt := Q } (startS ["one", "other"] ds) := by
  rintro ds Q Z ⟨p, q, rfl, hp, hq, h⟩
  simp only [Rat.lt_iff] at h
  simp [g_is_less, fr, mulOk hp.num hq.denN, mulOk hq.num hp.denN]
  exact h
end Dy

/-! # Tools for reading readings. -/
namespace Dy
variable [Tn]
open PySem PySem.Spec PyProof.Rows L2
/-! ### equality -/
@[simp] theorem eqv_int (i j : Int) : eqv (.int i) (.int j) = decide (i = j) := by
  simp [eqv, toPy, PyData.eqv, Bool.beq_eq_decide_eq]
@[simp] theorem eqv_str (x y : Str) : eqv (.str x) (.str y) = (x == y) := by simp [eqv, toPy, PyData.eqv]
@[simp] theorem eqv_bl (a b : Bool) : eqv (.bl a) (.bl b) = (a == b) := by simp [eqv, toPy, PyData.eqv]
@[simp] theorem eqv_bl_str (a : Bool) (y : Str) : eqv (.bl a) (.str y) = false := by simp [eqv, toPy, PyData.eqv]
@[simp] theorem eqv_lst_str (a : List D) (y : Str) : eqv (.lst a) (.str y) = false := by simp [eqv, toPy, PyData.eqv]
@[simp] theorem eqv_str_lst (a : List D) (y : Str) : eqv (.str y) (.lst a) = false := by simp [eqv, toPy, PyData.eqv]
@[simp] theorem eqv_non_str (y : Str) : eqv .non (.str y) = false := by simp [eqv, toPy, PyData.eqv]
theorem eqv_self {d : D} (h : lay 60 d = true) : eqv d d = true := PySem.SeqAt.eqv_refl _ (lay_ok 60 d h).1
theorem eqvL_len : ∀ (a b : List D), PyData.eqvAll (toPyL a) (toPyL b) = (decide (a.length = b.length) && (List.zip a b).all fun p => eqv p.1 p.2)
  | [], [] => by simp [toPyL, PyData.eqvAll]
  | [], _ :: _ => by simp [toPyL, PyData.eqvAll]
  | _ :: _, [] => by simp [toPyL, PyData.eqvAll]
  | x :: a, y :: b => by
    rw [toPyL, toPyL, PyData.eqvAll, eqvL_len a b, List.zip_cons_cons, List.all_cons]
    simp only [eqv, List.length_cons, Nat.add_right_cancel_iff]
    cases decide (a.length = b.length) <;> simp
theorem eqv_lst (a b : List D) : eqv (.lst a) (.lst b) = (decide (a.length = b.length) && (List.zip a b).all fun p => eqv p.1 p.2) := by
  rw [← eqvL_len]; simp [eqv, toPy, PyData.eqv]
theorem eqv_tup (a b : List D) : eqv (.tup a) (.tup b) = (decide (a.length = b.length) && (List.zip a b).all fun p => eqv p.1 p.2) := by
  rw [← eqvL_len]; simp [eqv, toPy, PyData.eqv]
@[simp] theorem eqv_lst_nil (a : List D) : eqv (.lst a) (.lst []) = a.isEmpty := by
  rw [eqv_lst]; cases a <;> simp
@[simp] theorem eqv_fr (p q : Rat) : eqv (fr p) (fr q) = decide (p = q) := by
  unfold fr
  rw [eqv_tup]
  simp
  rw [Bool.eq_iff_iff]
  simp
  constructor
  · rintro ⟨h1, h2⟩
    exact Rat.ext h1 (by omega)
  · rintro rfl
    exact ⟨rfl, rfl⟩
@[simp] theorem eqv_frs (p q : List Rat) : eqv (.lst (p.map fr)) (.lst (q.map fr)) = decide (p = q) := by
  rw [eqv_lst]
  induction p generalizing q with
  | nil => cases q <;> simp
  | cons a p ih =>
    cases q with
    | nil => simp
    | cons b q =>
      have e := ih q
      simp only [List.length_map] at e
      simp only [List.map_cons, List.length_cons, List.zip_cons_cons, List.all_cons, eqv_fr, List.length_map, Nat.add_right_cancel_iff]
      rw [Bool.eq_iff_iff]
      rw [Bool.eq_iff_iff] at e
      simp only [Bool.and_eq_true, decide_eq_true_eq, List.cons.injEq] at e ⊢
      grind
@[simp] theorem lay_int (n : Nat) (i : Int) : lay n (.int i) = true := by cases n <;> rfl
@[simp] theorem lay_bl (n : Nat) (b : Bool) : lay n (.bl b) = true := by cases n <;> rfl
@[simp] theorem lay_non (n : Nat) : lay n .non = true := by cases n <;> rfl
@[simp] theorem lay_str (n : Nat) (x : Str) : lay n (.str x) = PyData.strOk x := by cases n <;> rfl
@[simp] theorem lay_tup (n : Nat) (l : List D) : lay (n + 1) (.tup l) = l.all (lay n) := rfl
@[simp] theorem lay_lst (n : Nat) (l : List D) : lay (n + 1) (.lst l) = l.all (lay n) := rfl
@[simp] theorem lay_scr (n : Nat) (l : List Int) : lay (n + 1) (.scr l) = true := rfl
@[simp] theorem lay_fr (n : Nat) (q : Rat) : lay (n + 1) (fr q) = true := by simp [fr]
/-! ### parts of lists -/
theorem atI_of {α : Type} {l : List α} {n : Nat} {a : α} (h : l[n]? = some a) : atI l (n : Int) = some a := atI_nat h
@[simp] theorem cut_from1 {α : Type} (l : List α) : cutD l (some 1) none = l.drop 1 := by
  unfold cutD
  have e : HT.sIx l.length 0 (some 1) = min 1 l.length := HT.sIx_nat _ _ 1
  rw [HT.sIx_none, e]
  cases l with
  | nil => rfl
  | cons a l =>
    have e2 : min 1 (a :: l).length = 1 := by simp
    rw [e2]
    simp
theorem cut_to {α : Type} (l : List α) (k : Nat) : cutD l none (some (k : Int)) = l.take k := by
  unfold cutD
  rw [HT.sIx_nat, HT.sIx_none]
  simp only [List.drop_zero, Nat.sub_zero]
  by_cases h : k ≤ l.length
  · rw [Nat.min_eq_left h]
  · rw [Nat.min_eq_right (by omega), List.take_of_length_le (Nat.le_refl _), List.take_of_length_le (by omega)]
@[simp] theorem cut_to1 {α : Type} (l : List α) : cutD l none (some 1) = l.take 1 := cut_to l 1
@[simp] theorem cut_to2 {α : Type} (l : List α) : cutD l none (some 2) = l.take 2 := cut_to l 2
theorem notwhole2 {α : Type} {l : List α} (h : l.length = 3) : ¬ (HT.sIx l.length 0 none = 0 ∧ HT.sIx l.length l.length (some 2) = l.length) := by
  have e : HT.sIx l.length l.length (some 2) = min 2 l.length := HT.sIx_nat _ _ 2
  rw [e, h]
  decide
/-! ### comprehensions -/
theorem lc_fm {g : DG} {tt : DT} {te : DE} {ρ : List Sl} {items : List D} {P : List D → Prop} (F : D → Option D) (h : ∀ x ∈ items, ∀ (Q : Option D → Prop), Q (F x) → g x ρ fun ρ2 => tt ρ2 fun b => if b = true then te ρ2 (fun y => Q (some y)) else Q none) (p : P (items.filterMap F)) : lcI g tt te ρ items P := by
  refine ⟨fun rest acc => ∃ done, done ++ rest = items ∧ acc = done.filterMap F, ⟨[], rfl, rfl⟩, ?_, ?_⟩
  · rintro x xs acc ⟨done, e, rfl⟩
    have hx : x ∈ items := by rw [← e]; simp
    have q := h x hx (fun o => ∃ done', done' ++ xs = items ∧ (match o with | some y => done.filterMap F ++ [y] | none => done.filterMap F) = done'.filterMap F) ⟨done ++ [x], by simpa using e, by cases e : F x <;> simp [e]⟩
    exact q
  · rintro acc ⟨done, e, rfl⟩
    rw [List.append_nil] at e
    subst e
    exact p
/-- no condition -/
theorem lc_map {g : DG} {te : DE} {ρ : List Sl} {items : List D} {P : List D → Prop} (F : D → D) (h : ∀ x ∈ items, ∀ (Q : D → Prop), Q (F x) → g x ρ fun ρ2 => te ρ2 Q) (p : P (items.map F)) : lcI g dYes te ρ items P := by
  refine lc_fm (fun x => some (F x)) (fun x hx Q q => ?_) ?_
  · simp only [dYes, if_true]
    exact h x hx (fun y => Q (some y)) q
  · rw [List.filterMap_eq_map']
    exact p
/-- the items stand for things -/
theorem lc_fmE {α : Type} {g : DG} {tt : DT} {te : DE} {ρ : List Sl} {xs : List α} {e : α → D} {P : List D → Prop} (F : α → Option D) (h : ∀ a ∈ xs, ∀ (Q : Option D → Prop), Q (F a) → g (e a) ρ fun ρ2 => tt ρ2 fun b => if b = true then te ρ2 (fun y => Q (some y)) else Q none) (p : P (xs.filterMap F)) : lcI g tt te ρ (xs.map e) P := by
  refine ⟨fun rest acc => ∃ done left, done ++ left = xs ∧ rest = left.map e ∧ acc = done.filterMap F, ⟨[], xs, rfl, rfl, rfl⟩, ?_, ?_⟩
  · rintro x rest acc ⟨done, left, e1, e2, rfl⟩
    cases left with
    | nil => cases e2
    | cons a left =>
      simp only [List.map_cons, List.cons.injEq] at e2
      obtain ⟨rfl, rfl⟩ := e2
      have ha : a ∈ xs := by rw [← e1]; simp
      exact h a ha (fun o => ∃ done' left', done' ++ left' = xs ∧ left.map e = left'.map e ∧ (match o with | some y => done.filterMap F ++ [y] | none => done.filterMap F) = done'.filterMap F) ⟨done ++ [a], left, by simpa using e1, rfl, by cases e3 : F a <;> simp [e3]⟩
  · rintro acc ⟨done, left, e1, e2, rfl⟩
    cases left with
    | cons _ _ => cases e2
    | nil =>
      rw [List.append_nil] at e1
      subst e1
      exact p
theorem lc_mapE {α : Type} {g : DG} {te : DE} {ρ : List Sl} {xs : List α} {e : α → D} {P : List D → Prop} (F : α → D) (h : ∀ a ∈ xs, ∀ (Q : D → Prop), Q (F a) → g (e a) ρ fun ρ2 => te ρ2 Q) (p : P (xs.map F)) : lcI g dYes te ρ (xs.map e) P := by
  refine lc_fmE (fun x => some (F x)) (fun x hx Q q => ?_) ?_
  · simp only [dYes, if_true]
    exact h x hx (fun y => Q (some y)) q
  · rw [List.filterMap_eq_map']
    exact p
theorem zipD_map {α β : Type} (f : α → D) (g : β → D) : ∀ (l : List α) (l' : List β), zipD (l.map f) (l'.map g) = (List.zip l l').map fun x => .tup [f x.1, g x.2]
  | [], _ => by simp [zipD]
  | _ :: _, [] => by simp [zipD]
  | a :: l, b :: l' => by
    have := zipD_map f g l l'
    simp only [zipD, List.map_cons, List.zipWith_cons_cons, List.zip_cons_cons] at this ⊢
    rw [this]
/-- a for over things: I of those done and those left -/
theorem for_E {α : Type} {gg : DG} {body : DS} {G : DEnds} {xs : List α} {e : α → D} {ρ : List Sl} (I : List α → List α → List Sl → Prop) (h0 : I [] xs ρ)
    (h : ∀ (done : List α) (a : α) (left : List α) (ρ : List Sl) (N : List Sl → Prop), done ++ a :: left = xs → I done (a :: left) ρ → (∀ ρ', I (done ++ [a]) left ρ' → N ρ') → gg (e a) ρ fun ρ2 => body { G with nx := N, ct := N, bk := G.nx } ρ2) (hd : ∀ ρ, I xs [] ρ → G.nx ρ) : forI gg body G (xs.map e) ρ := by
  refine ⟨fun rest ρ => ∃ done left, done ++ left = xs ∧ rest = left.map e ∧ I done left ρ, ⟨[], xs, rfl, rfl, h0⟩, ?_, ?_⟩
  · rintro x rest ρ ⟨done, left, e1, e2, i⟩
    cases left with
    | nil => cases e2
    | cons a left =>
      simp only [List.map_cons, List.cons.injEq] at e2
      obtain ⟨rfl, rfl⟩ := e2
      exact h done a left ρ _ e1 i fun ρ' hr => ⟨done ++ [a], left, by simpa using e1, rfl, hr⟩
  · rintro ρ ⟨done, left, e1, e2, i⟩
    cases left with
    | cons _ _ => cases e2
    | nil =>
      rw [List.append_nil] at e1
      subst e1
      exact hd ρ i
/-! ### sizes: fractions on a grid -/
/-- q is k/m with |k| ≤ b -/
def Lat (m b : Nat) (q : Rat) : Prop := 0 < m ∧ ∃ k : Int, q = mkRat k m ∧ k.natAbs ≤ b
theorem Lat.sz {m b : Nat} {q : Rat} (h : Lat m b q) (hm : m < bD) (hb : b < bN) : Sz q := by
  obtain ⟨h0, k, rfl, hk⟩ := h
  have hne : m ≠ 0 := by omega
  refine ⟨?_, ?_⟩
  · rw [Rat.den_mkRat, if_neg hne]
    exact Nat.lt_of_le_of_lt (Nat.div_le_self _ _) hm
  · rw [Rat.num_mkRat, if_neg hne]
    refine Nat.lt_of_le_of_lt (Nat.le_trans (Int.natAbs_ediv_le_natAbs _ _) hk) hb
theorem Lat.add {m b c : Nat} {p q : Rat} (h : Lat m b p) (h' : Lat m c q) : Lat m (b + c) (p + q) := by
  obtain ⟨h0, k, rfl, hk⟩ := h
  obtain ⟨_, k', rfl, hk'⟩ := h'
  refine ⟨h0, k + k', ?_, by omega⟩
  rw [Rat.mkRat_add_mkRat _ _ (by omega) (by omega), ← Int.add_mul, Rat.mkRat_mul_right (by omega)]
theorem Lat.neg {m b : Nat} {p : Rat} (h : Lat m b p) : Lat m b (-p) := by
  obtain ⟨h0, k, rfl, hk⟩ := h
  exact ⟨h0, -k, by rw [Rat.neg_mkRat], by omega⟩
theorem Lat.sub {m b c : Nat} {p q : Rat} (h : Lat m b p) (h' : Lat m c q) : Lat m (b + c) (p - q) := by
  rw [Rat.sub_eq_add_neg]
  exact h.add h'.neg
theorem Lat.mono {m b c : Nat} {p : Rat} (h : Lat m b p) (hb : b ≤ c) : Lat m c p := by
  obtain ⟨h0, k, e, hk⟩ := h
  exact ⟨h0, k, e, by omega⟩
theorem Lat.zero {m : Nat} (h : 0 < m) (b : Nat) : Lat m b 0 := ⟨h, 0, by rw [Rat.zero_mkRat], by simp⟩
theorem Lat.sum {m b : Nat} (hm : 0 < m) : ∀ {l : List Rat}, (∀ q ∈ l, Lat m b q) → Lat m (l.length * b) l.sum
  | [], _ => by simpa using Lat.zero hm 0
  | q :: l, h => by
    rw [List.sum_cons, List.length_cons, Nat.add_mul, Nat.one_mul, Nat.add_comm]
    exact (h q (by simp)).add (Lat.sum hm fun x hx => h x (by simp [hx]))
end Dy

/-! # Nets and flows: what the checks say. -/
namespace Dy
variable [Tn]
open PySem PySem.Spec PyProof.Rows L2
@[simp] def c_MOST_PLACES : D := .int 6
@[simp] def c_MOST_WAYS : D := .int 10
@[simp] def c_MOST_WARES : D := .int 3
@[simp] def c_MOST : D := .int 20
@[simp] def c_NOUGHT : D := .tup [.int 0, .int 1]
/-- plain data without the script -/
def pl : Nat → D → Bool
  | _, .non => true
  | _, .bl _ => true
  | _, .int _ => true
  | n + 1, .tup l => l.all (pl n)
  | n + 1, .lst l => l.all (pl n)
  | _, _ => false
theorem pl_lay : ∀ {n : Nat} {d : D}, pl n d = true → lay n d = true
  | _, .non, _ => lay_non _
  | _, .bl _, _ => lay_bl _ _
  | _, .int _, _ => lay_int _ _
  | n + 1, .tup l, h => by
    simp only [pl, lay] at h ⊢
    exact List.all_eq_true.mpr fun x hx => pl_lay (List.all_eq_true.mp h x hx)
  | n + 1, .lst l, h => by
    simp only [pl, lay] at h ⊢
    exact List.all_eq_true.mpr fun x hx => pl_lay (List.all_eq_true.mp h x hx)
  | 0, .tup _, h => by simp [pl] at h
  | 0, .lst _, h => by simp [pl] at h
  | 0, .str _, h => by simp [pl] at h
  | _ + 1, .str _, h => by simp [pl] at h
  | 0, .scr _, h => by simp [pl] at h
  | _ + 1, .scr _, h => by simp [pl] at h
  | 0, .dic _ _, h => by simp [pl] at h
  | _ + 1, .dic _ _, h => by simp [pl] at h
  | 0, .ins _ _ _, h => by simp [pl] at h
  | _ + 1, .ins _ _ _, h => by simp [pl] at h
theorem pl_ty {n : Nat} {d : D} (h : pl n d = true) : tyN d ≠ "?" := by
  cases d with
  | ins a b c => cases n <;> simp [pl] at h
  | _ => simp
@[simp] theorem pl_int (n : Nat) (i : Int) : pl n (.int i) = true := by cases n <;> rfl
@[simp] theorem pl_bl (n : Nat) (i : Bool) : pl n (.bl i) = true := by cases n <;> rfl
@[simp] theorem pl_non (n : Nat) : pl n .non = true := by cases n <;> rfl
@[simp] theorem pl_tup (n : Nat) (l : List D) : pl (n + 1) (.tup l) = l.all (pl n) := rfl
@[simp] theorem pl_lst (n : Nat) (l : List D) : pl (n + 1) (.lst l) = l.all (pl n) := rfl
@[simp] theorem pl_fr (n : Nat) (q : Rat) : pl (n + 1) (fr q) = true := by simp [fr]
/-! ### is_count -/
def cnt (d : D) (l m : Int) : Bool := match d with
  | .int i => decide (l ≤ i ∧ i ≤ m)
  | _ => false
theorem cnt_int (i l m : Int) : cnt (.int i) l m = decide (l ≤ i ∧ i ≤ m) := rfl
theorem cnt_of {d : D} {l m : Int} (h : cnt d l m = true) : ∃ i, d = .int i ∧ l ≤ i ∧ i ≤ m := by
  cases d with
  | int i => exact ⟨i, rfl, by simpa [cnt] using h⟩
  | _ => simp [cnt] at h
def sp_is_count : Spc := fun ds Q _ => ∃ (d : D) (l m : Int), ds = [d, .int l, .int m] ∧ tyN d ≠ "?" ∧ Q (.bl (cnt d l m))
theorem len_is_count : ∀ ds Q Z, sp_is_count ds Q Z → ds.length = 3 := len3 (fun ds Q Z ⟨_, _, _, e, _⟩ => ⟨_, _, _, e⟩)
@[simp] theorem sp_is_count_at (d : D) (l m : Int) (Q : D → Prop) (Z : Addr → Prop) : sp_is_count [d, .int l, .int m] Q Z ↔ tyN d ≠ "?" ∧ Q (.bl (cnt d l m)) := by
  constructor
  · rintro ⟨d', l', m', e, h⟩
    simp at e
    obtain ⟨rfl, rfl, rfl⟩ := e
    exact h
  · intro h
    exact ⟨_, _, _, rfl, h⟩
def g_is_count : DS := (dRet (dAnd (dIsi "int" (dVar 0)) (dAnd (dNot (dIsi "bool" (dVar 0))) (dChain (cmpD fun i j => decide (i ≤ j)) (cmpD fun i j => decide (i ≤ j)) (dVar 1) (dVar 0) (dVar 2)))))
theorem pure_is_count : ∀ ds Q Z, sp_is_count ds Q Z → g_is_count { nx := fun _ => Q .non, rt := Q } (startS ["thing", "least", "most"] ds) := by
  rintro ds Q Z ⟨d, l, m, rfl, ht, h⟩
  cases d with
  | int i =>
    simp [g_is_count, and_assoc]
    rw [cnt_int] at h
    by_cases h1 : l ≤ i
    · simpa [h1] using h
    · simpa [h1] using h
  | ins a b c => exact absurd rfl ht
  | _ => simpa [g_is_count, and_assoc, cnt] using h
/-! ### is_way -/
def wayB (d : D) (n l m : Int) : Bool := match d with
  | .tup [a, b, c] => cnt a 0 (n - 1) && cnt b 0 (n - 1) && !eqv a b && cnt c l m
  | _ => false
def sp_is_way : Spc := fun ds Q _ => ∃ (d : D) (n l m : Int), ds = [d, .int n, .int l, .int m] ∧ pl 50 d = true ∧ Q (.bl (wayB d n l m))
theorem len_is_way : ∀ ds Q Z, sp_is_way ds Q Z → ds.length = 4 := len4 (fun ds Q Z ⟨_, _, _, _, e, _⟩ => ⟨_, _, _, _, e⟩)
@[simp] theorem sp_is_way_at (d : D) (n l m : Int) (Q : D → Prop) (Z : Addr → Prop) : sp_is_way [d, .int n, .int l, .int m] Q Z ↔ pl 50 d = true ∧ Q (.bl (wayB d n l m)) := by
  constructor
  · rintro ⟨d', n', l', m', e, h⟩
    simp at e
    obtain ⟨rfl, rfl, rfl, rfl⟩ := e
    exact h
  · intro h
    exact ⟨_, _, _, _, rfl, h⟩
def g_is_way : DS := (dSeq2 (dIf (dOrT (dNotT (dTest (dIsi "tuple" (dVar 0)))) (dTest (dOp neD (dCB lenD (dCons (dVar 0) dNil)) (dC (.int 3)))))
    (dRet (dC (.bl false)))
    dSkip)
    (dSeq2 (dIf (dOrT (dNotT (dTest (dCB allD (dCons (dFz (dLc (dSeq (dSl (dVar 0) dNoPart (dPart (dC (.int 2))))) (gdName 4) dYes (dCall sp_is_count (dCons (dVar 4) (dCons (dC (.int 0)) (dCons (dOp subD (dVar 1) (dC (.int 1))) dNil)))) [4])) dNil)))) (dTest (dOp eqD (dOp ixD (dVar 0) (dC (.int 0))) (dOp ixD (dVar 0) (dC (.int 1))))))
    (dRet (dC (.bl false)))
    dSkip)
    (dRet (dCall sp_is_count (dCons (dOp ixD (dVar 0) (dC (.int 2))) (dCons (dVar 2) (dCons (dVar 3) dNil)))))))
theorem pure_is_way : ∀ ds Q Z, sp_is_way ds Q Z → g_is_way { nx := fun _ => Q .non, rt := Q } (startS ["thing", "places", "least", "most", "place"] ds) := by
  rintro ds Q Z ⟨d, n, l, m, rfl, ht, h⟩
  have hty := pl_ty ht
  by_cases h3 : ∃ a b c, d = .tup [a, b, c]
  · obtain ⟨a, b, c, rfl⟩ := h3
    simp only [pl_tup, List.all_cons, List.all_nil, Bool.and_true, Bool.and_eq_true] at ht
    have ta := pl_ty ht.1
    have tb := pl_ty ht.2.1
    have tc := pl_ty ht.2.2
    have nw : HT.sIx 3 0 none = 0 → ¬ HT.sIx 3 3 (some 2) = 3 := fun h1 h2 => notwhole2 (l := [a, b, c]) rfl ⟨h1, h2⟩
    simp [g_is_way, and_assoc, notwhole2]
    refine ⟨nw, ?_⟩
    refine lc_map (fun x => .bl (cnt x 0 (n - 1))) (fun x hx Q q => ?_) ⟨[cnt a 0 (n - 1), cnt b 0 (n - 1)], by simp, ?_⟩
    · rcases List.mem_cons.mp hx with rfl | hx
      · simpa using ⟨ta, q⟩
      · rcases List.mem_cons.mp hx with rfl | hx
        · simpa using ⟨tb, q⟩
        · cases hx
    · simp only [wayB] at h
      cases ea : cnt a 0 (n - 1) with
      | false => simpa [ea] using h
      | true =>
        cases eb : cnt b 0 (n - 1) with
        | false => simpa [ea, eb] using h
        | true =>
          obtain ⟨i, rfl, _⟩ := cnt_of ea
          obtain ⟨j, rfl, _⟩ := cnt_of eb
          by_cases hij : i = j
          · simpa [ea, eb, hij] using h
          · simp [ea, eb, hij] at h ⊢
            exact ⟨tc, h⟩
  · have hf : wayB d n l m = false := by
      cases d with
      | tup xs =>
        match xs, h3 with
        | [a, b, c], h3 => exact absurd ⟨a, b, c, rfl⟩ h3
        | [], _ => rfl
        | [_], _ => rfl
        | [_, _], _ => rfl
        | _ :: _ :: _ :: _ :: _, _ => rfl
      | _ => rfl
    rw [hf] at h
    cases d with
    | tup xs =>
      have hl : ¬ (xs.length : Int) = 3 := by
        intro hl
        match xs, h3, hl with
        | [a, b, c], h3, _ => exact absurd ⟨a, b, c, rfl⟩ h3
        | [], _, hl => simp at hl
        | [_], _, hl => simp at hl
        | [_, _], _, hl => simp at hl
        | _ :: _ :: _ :: _ :: l, _, hl => simp at hl; omega
      simpa [g_is_way, and_assoc, hl] using h
    | ins a b c => exact absurd rfl hty
    | _ => simpa [g_is_way, and_assoc] using h
/-! ### is_net, need_net -/
def keyD : D → List Int
  | .tup (.int a :: .int b :: _) => [a, b]
  | _ => []
def sortB (ways : List D) : Bool := (List.zipWith (fun x y => HT.lexLt (keyD x) (keyD y)) ways (ways.drop 1)).all id
def netB : D → Bool
  | .tup [.int n, .lst ways, .lst wares] => decide (2 ≤ n ∧ n ≤ 6) && decide (ways.length ≤ 10) && decide (1 ≤ wares.length ∧ wares.length ≤ 3) && (ways ++ wares).all (fun w => wayB w n 1 20) && sortB ways
  | _ => false
/-- a thing of a net's form -/
def NetF (d : D) : Prop := ∃ p ways wares, d = .tup [p, .lst ways, .lst wares] ∧ pl 50 p = true ∧ ways.all (pl 50) = true ∧ wares.all (pl 50) = true ∧ ways.length ≤ 1000 ∧ wares.length ≤ 1000
def sp_is_net : Spc := fun ds Q _ => ∃ d, ds = [d] ∧ NetF d ∧ Q (.bl (netB d))
theorem len_is_net : ∀ ds Q Z, sp_is_net ds Q Z → ds.length = 1 := len1 (fun ds Q Z ⟨_, e, _⟩ => ⟨_, e⟩)
@[simp] theorem sp_is_net_at (d : D) (Q : D → Prop) (Z : Addr → Prop) : sp_is_net [d] Q Z ↔ NetF d ∧ Q (.bl (netB d)) := by
  constructor
  · rintro ⟨d', e, h⟩
    simp at e
    obtain rfl := e
    exact h
  · intro h
    exact ⟨_, rfl, h⟩
theorem wayB_key {d : D} {n l m : Int} (h : wayB d n l m = true) : ∃ a b c : Int, d = .tup [.int a, .int b, .int c] ∧ 0 ≤ a ∧ a ≤ n - 1 ∧ 0 ≤ b ∧ b ≤ n - 1 ∧ a ≠ b ∧ l ≤ c ∧ c ≤ m := by
  unfold wayB at h
  split at h
  · rename_i a b c
    simp only [Bool.and_eq_true] at h
    obtain ⟨⟨⟨h1, h2⟩, h3⟩, h4⟩ := h
    obtain ⟨i, rfl, hi, hi'⟩ := cnt_of h1
    obtain ⟨j, rfl, hj, hj'⟩ := cnt_of h2
    obtain ⟨k, rfl, hk, hk'⟩ := cnt_of h4
    exact ⟨i, j, k, rfl, hi, hi', hj, hj', by simpa using h3, hk, hk'⟩
  · cases h
def g_is_net : DS := (dSeq2 (dUnp (gdTup 3 (gdCons (gdName 1) (gdCons (gdName 2) (gdCons (gdName 3) gdNil)))) (dVar 0))
    (dSeq2 (dIf (dOrT (dNotT (dTest (dCall sp_is_count (dCons (dVar 1) (dCons (dC (.int 2)) (dCons (dC c_MOST_PLACES) dNil)))))) (dOrT (dTest (dOp (cmpD fun i j => decide (j < i)) (dCB lenD (dCons (dVar 2) dNil)) (dC c_MOST_WAYS))) (dNotT (dTest (dChain (cmpD fun i j => decide (i ≤ j)) (cmpD fun i j => decide (i ≤ j)) (dC (.int 1)) (dCB lenD (dCons (dVar 3) dNil)) (dC c_MOST_WARES))))))
    (dRet (dC (.bl false)))
    dSkip)
    (dSeq2 (dIf (dNotT (dTest (dCB allD (dCons (dFz (dLc (dSeq (dOp addD (dVar 2) (dVar 3))) (gdName 4) dYes (dCall sp_is_way (dCons (dVar 4) (dCons (dVar 1) (dCons (dC (.int 1)) (dCons (dC c_MOST) dNil))))) [4])) dNil))))
    (dRet (dC (.bl false)))
    dSkip)
    (dRet (dCB allD (dCons (dFz (dLc (dZip (dCons (dVar 2) (dCons (dSl (dVar 2) (dPart (dC (.int 1))) dNoPart) dNil))) (gdTup 2 (gdCons (gdName 5) (gdCons (gdName 6) gdNil))) dYes (dOp ltD (dSl (dVar 5) dNoPart (dPart (dC (.int 2)))) (dSl (dVar 6) dNoPart (dPart (dC (.int 2))))) [5, 6])) dNil))))))
theorem map_bl_all (l : List D) (f : D → Bool) : ∃ bs : List Bool, l.map (fun x => D.bl (f x)) = bs.map .bl ∧ bs.all id = l.all f := ⟨l.map f, by simp, by simp [List.all_map]⟩
theorem zip_keys : ∀ (l l' : List D), (zipD l l').map (fun x => match x with | .tup [a, b] => D.bl (HT.lexLt (keyD a) (keyD b)) | _ => .non) = ((List.zipWith (fun x y => HT.lexLt (keyD x) (keyD y)) l l').map .bl)
  | [], _ => rfl
  | _ :: _, [] => rfl
  | x :: l, y :: l' => by
    have := zip_keys l l'
    simp only [zipD, List.zipWith_cons_cons, List.map_cons] at this ⊢
    rw [this]
theorem mem_zipD {l l' : List D} {x : D} (h : x ∈ zipD l l') : ∃ a b, x = .tup [a, b] ∧ a ∈ l ∧ b ∈ l' := by
  unfold zipD at h
  rw [List.mem_iff_getElem?] at h
  obtain ⟨i, h⟩ := h
  rw [List.getElem?_zipWith] at h
  cases e : l[i]? with
  | none => simp [e] at h
  | some a =>
    cases e' : l'[i]? with
    | none => simp [e, e'] at h
    | some b =>
      simp [e, e'] at h
      exact ⟨a, b, h.symm, List.mem_of_getElem? e, List.mem_of_getElem? e'⟩
theorem all_not {bs : List Bool} : (false ∈ bs) = (bs.all id = false) := by
  simp
theorem pure_is_net : ∀ ds Q Z, sp_is_net ds Q Z → g_is_net { nx := fun _ => Q .non, rt := Q } (startS ["net", "places", "ways", "wares", "way", "one", "other"] ds) := by
  rintro ds Q Z ⟨d, rfl, ⟨p, ways, wares, rfl, hp, hw, ha, lw, la⟩, h⟩
  have tp := pl_ty hp
  simp [g_is_net, and_assoc]
  refine ⟨tp, ?_⟩
  cases hc : cnt p 2 6 with
  | false =>
    have e : netB (.tup [p, .lst ways, .lst wares]) = false := by
      cases p <;> simp_all [netB, cnt]
      omega
    simpa [e] using h
  | true =>
    obtain ⟨n, rfl, h2, h6⟩ := cnt_of hc
    by_cases h10 : ways.length ≤ 10
    · have e10 : ¬ (10 : Int) < ways.length := by omega
      by_cases h13 : 1 ≤ wares.length ∧ wares.length ≤ 3
      · have e1 : (1 : Int) ≤ wares.length := by omega
        have e3 : (wares.length : Int) ≤ 3 := by omega
        simp [e10, e1, e3]
        refine ⟨by omega, lc_map (fun x => .bl (wayB x n 1 20)) (fun x hx Q q => ?_) ?_⟩
        · have hx' : pl 50 x = true := by
            rcases List.mem_append.mp hx with z | z
            · exact List.all_eq_true.mp hw x z
            · exact List.all_eq_true.mp ha x z
          simpa [hx'] using q
        · obtain ⟨bs, e1, e2⟩ := map_bl_all (ways ++ wares) (fun x => wayB x n 1 20)
          refine ⟨bs, e1, ?_⟩
          have en : netB (.tup [.int n, .lst ways, .lst wares]) = (bs.all id && sortB ways) := by
            rw [e2]
            simp [netB, h2, h6, h10, h13]
          rw [en] at h
          cases hb : bs.all id with
          | false => simpa [hb, all_not] using h
          | true =>
            rw [hb, Bool.true_and] at h
            have hnm : ¬ false ∈ bs := by rw [all_not, hb]; simp
            rw [if_neg hnm]
            refine ⟨by simp [zipD]; omega, lc_map (fun x => match x with | .tup [a, b] => D.bl (HT.lexLt (keyD a) (keyD b)) | _ => .non) (fun x hx Q q => ?_) ?_⟩
            · obtain ⟨x1, x2, rfl, m1, m2⟩ := mem_zipD hx
              rw [hb] at e2
              have all := List.all_eq_true.mp e2.symm
              obtain ⟨a, b, c, rfl, _⟩ := wayB_key (all x1 (by simp [m1]))
              obtain ⟨a', b', c', rfl, _⟩ := wayB_key (all x2 (by simp [List.mem_of_mem_tail m2]))
              have nw : HT.sIx 3 0 none = 0 → ¬ HT.sIx 3 3 (some 2) = 3 := fun h1 h2 => notwhole2 (l := [D.int a, D.int b, D.int c]) rfl ⟨h1, h2⟩
              simp [keyD] at q
              simp [and_assoc]
              exact ⟨nw, [a, b], rfl, [a', b'], rfl, q⟩
            · refine ⟨_, zip_keys ways ways.tail, ?_⟩
              simpa [sortB] using h
      · have e : netB (.tup [.int n, .lst ways, .lst wares]) = false := by
          simp [netB]
          omega
        rw [e] at h
        by_cases h1 : (1 : Int) ≤ wares.length
        · have h3 : ¬ (wares.length : Int) ≤ 3 := by omega
          simpa [e10, h1, h3] using h
        · simpa [e10, h1] using h
    · have e10 : (10 : Int) < ways.length := by omega
      have e : netB (.tup [.int n, .lst ways, .lst wares]) = false := by
        simp [netB]
        omega
      simpa [e10, e] using h
def sp_need_net (aN : Addr) : Spc := fun ds Q Z => ∃ d, ds = [d] ∧ NetF d ∧ if netB d = true then Q .non else Z aN
theorem len_need_net (aN : Addr) : ∀ ds Q Z, sp_need_net aN ds Q Z → ds.length = 1 := len1 (fun ds Q Z ⟨_, e, _⟩ => ⟨_, e⟩)
@[simp] theorem sp_need_net_at (aN : Addr) (d : D) (Q : D → Prop) (Z : Addr → Prop) : sp_need_net aN [d] Q Z ↔ NetF d ∧ if netB d = true then Q .non else Z aN := by
  constructor
  · rintro ⟨d', e, h⟩
    simp at e
    obtain rfl := e
    exact h
  · intro h
    exact ⟨_, rfl, h⟩
def g_need_net (a_BadNet : Addr) : DS := (dIf (dNotT (dTest (dCall sp_is_net (dCons (dVar 0) dNil))))
    (dRaise a_BadNet)
    dSkip)
theorem pure_need_net (aN : Addr) : ∀ ds Q Z, sp_need_net aN ds Q Z → g_need_net aN { nx := fun _ => Q .non, rt := Q, xx := Z } (startS ["net"] ds) := by
  rintro ds Q Z ⟨d, rfl, hd, h⟩
  simp [g_need_net, hd]
  cases e : netB d with
  | true => simpa [e] using h
  | false => simpa [e] using h
/-! ### is_fraction, are_shares -/
def fracB : D → Bool
  | .tup [.int a, .int b] => decide (0 < b) && decide (Nat.gcd a.natAbs b.natAbs = 1)
  | _ => false
def sp_is_fraction : Spc := fun ds Q _ => ∃ d, ds = [d] ∧ pl 50 d = true ∧ Q (.bl (fracB d))
theorem len_is_fraction : ∀ ds Q Z, sp_is_fraction ds Q Z → ds.length = 1 := len1 (fun ds Q Z ⟨_, e, _⟩ => ⟨_, e⟩)
@[simp] theorem sp_is_fraction_at (d : D) (Q : D → Prop) (Z : Addr → Prop) : sp_is_fraction [d] Q Z ↔ pl 50 d = true ∧ Q (.bl (fracB d)) := by
  constructor
  · rintro ⟨d', e, h⟩
    simp at e
    obtain rfl := e
    exact h
  · intro h
    exact ⟨_, rfl, h⟩
def g_is_fraction : DS := (dSeq2 (dIf (dOrT (dNotT (dTest (dIsi "tuple" (dVar 0)))) (dTest (dOp neD (dCB lenD (dCons (dVar 0) dNil)) (dC (.int 2)))))
    (dRet (dC (.bl false)))
    dSkip)
    (dSeq2 (dIf (dNotT (dTest (dCB allD (dCons (dFz (dLc (dSeq (dVar 0)) (gdName 1) dYes (dAnd (dIsi "int" (dVar 1)) (dNot (dIsi "bool" (dVar 1)))) [1])) dNil))))
    (dRet (dC (.bl false)))
    dSkip)
    (dRet (dAnd (dOp (cmpD fun i j => decide (j < i)) (dOp ixD (dVar 0) (dC (.int 1))) (dC (.int 0))) (dOp eqD (dCall sp_common (dCons (dCB absD (dCons (dOp ixD (dVar 0) (dC (.int 0))) dNil)) (dCons (dOp ixD (dVar 0) (dC (.int 1))) dNil))) (dC (.int 1)))))))
def isInt : D → Bool
  | .int _ => true
  | _ => false
theorem pure_is_fraction : ∀ ds Q Z, sp_is_fraction ds Q Z → g_is_fraction { nx := fun _ => Q .non, rt := Q } (startS ["thing", "part"] ds) := by
  rintro ds Q Z ⟨d, rfl, ht, h⟩
  have hty := pl_ty ht
  by_cases h3 : ∃ a b, d = .tup [a, b]
  · obtain ⟨a, b, rfl⟩ := h3
    simp only [pl_tup, List.all_cons, List.all_nil, Bool.and_true, Bool.and_eq_true] at ht
    have ta := pl_ty ht.1
    have tb := pl_ty ht.2
    simp [g_is_fraction, and_assoc]
    refine lc_map (fun x => .bl (isInt x)) (fun x hx Q q => ?_) ⟨[isInt a, isInt b], by simp, ?_⟩
    · have tx : tyN x ≠ "?" := by
        rcases List.mem_cons.mp hx with rfl | hx
        · exact ta
        · rcases List.mem_cons.mp hx with rfl | hx
          · exact tb
          · cases hx
      cases x with
      | ins a b c => exact absurd rfl tx
      | _ => simpa [isInt] using q
    · cases a with
      | int a =>
        cases b with
        | int b =>
          simp [isInt]
          simp only [fracB] at h
          by_cases hb : 0 < b
          · obtain ⟨n, rfl⟩ := Int.eq_ofNat_of_zero_le (Int.le_of_lt hb)
            simp [hb] at h ⊢
            have e : decide (((Nat.gcd a.natAbs n : Nat) : Int) = 1) = decide (Nat.gcd a.natAbs n = 1) := by
              rw [Bool.eq_iff_iff]
              simp
              omega
            have hb' : 0 < n := by omega
            rw [e]
            simpa [hb'] using h
          · simpa [hb] using h
        | _ => simpa [isInt, fracB] using h
      | _ => simpa [isInt, fracB] using h
  · have hf : fracB d = false := by
      cases d with
      | tup xs =>
        match xs, h3 with
        | [a, b], h3 => exact absurd ⟨a, b, rfl⟩ h3
        | [], _ => rfl
        | [_], _ => simp [fracB]
        | _ :: _ :: _ :: _, _ => simp [fracB]
      | _ => rfl
    rw [hf] at h
    cases d with
    | tup xs =>
      have hl : ¬ (xs.length : Int) = 2 := by
        intro hl
        match xs, h3, hl with
        | [a, b], h3, _ => exact absurd ⟨a, b, rfl⟩ h3
        | [], _, hl => simp at hl
        | [_], _, hl => simp at hl
        | _ :: _ :: _ :: l, _, hl => simp at hl; omega
      simpa [g_is_fraction, and_assoc, hl] using h
    | ins a b c => exact absurd rfl hty
    | _ => simpa [g_is_fraction, and_assoc] using h
def shareB (d : D) : Bool := fracB d && (match d with
  | .tup (.int a :: _) => decide (0 ≤ a)
  | _ => false)
def sharesB (d : D) (n : Nat) : Bool := match d with
  | .lst l => decide (l.length = n) && l.all shareB
  | _ => false
def sp_are_shares : Spc := fun ds Q _ => ∃ (d : D) (n : Nat), ds = [d, .int n] ∧ pl 51 d = true ∧ (∀ l, d = .lst l → l.length ≤ 1000000) ∧ Q (.bl (sharesB d n))
theorem len_are_shares : ∀ ds Q Z, sp_are_shares ds Q Z → ds.length = 2 := len2 (fun ds Q Z ⟨_, _, e, _⟩ => ⟨_, _, e⟩)
@[simp] theorem sp_are_shares_at (d : D) (n : Nat) (Q : D → Prop) (Z : Addr → Prop) : sp_are_shares [d, .int n] Q Z ↔ pl 51 d = true ∧ (∀ l, d = .lst l → l.length ≤ 1000000) ∧ Q (.bl (sharesB d n)) := by
  constructor
  · rintro ⟨d', n', e, h⟩
    simp at e
    obtain ⟨rfl, e⟩ := e
    rw [show n = n' by omega]
    exact h
  · intro h
    exact ⟨_, _, rfl, h⟩
def g_are_shares : DS := (dSeq2 (dIf (dOrT (dNotT (dTest (dIsi "list" (dVar 0)))) (dTest (dOp neD (dCB lenD (dCons (dVar 0) dNil)) (dVar 1))))
    (dRet (dC (.bl false)))
    dSkip)
    (dRet (dCB allD (dCons (dFz (dLc (dSeq (dVar 0)) (gdName 2) dYes (dAnd (dCall sp_is_fraction (dCons (dVar 2) dNil)) (dOp (cmpD fun i j => decide (j ≤ i)) (dOp ixD (dVar 2) (dC (.int 0))) (dC (.int 0)))) [2])) dNil))))
theorem pure_are_shares : ∀ ds Q Z, sp_are_shares ds Q Z → g_are_shares { nx := fun _ => Q .non, rt := Q } (startS ["thing", "many", "one"] ds) := by
  rintro ds Q Z ⟨d, n, rfl, ht, hl, h⟩
  have hty := pl_ty ht
  cases d with
  | lst l =>
    have hl := hl l rfl
    simp only [pl_lst] at ht
    by_cases hn : l.length = n
    · subst hn
      simp [g_are_shares, and_assoc, hl]
      refine lc_map (fun x => .bl (shareB x)) (fun x hx Q q => ?_) ?_
      · simp [List.all_eq_true.mp ht x hx]
        unfold shareB at q
        cases e : fracB x with
        | false => simpa [e] using q
        | true =>
          match x, e with
          | .tup [.int a, .int b], e => simpa [e] using q
      · obtain ⟨bs, e1, e2⟩ := map_bl_all l shareB
        refine ⟨bs, e1, ?_⟩
        rw [e2]
        simpa [sharesB] using h
    · have hn' : ¬ (l.length : Int) = n := by omega
      simpa [g_are_shares, and_assoc, hn', sharesB, hn] using h
  | ins a b c => exact absurd rfl hty
  | scr ns => simp [pl] at ht
  | _ => simpa [g_are_shares, and_assoc, sharesB] using h
/-! ### is_flow, need_flow -/
def flowB (net flow : D) : Bool := match net, flow with
  | .tup [_, .lst ways, .lst wares], .lst rows => decide (rows.length = wares.length) && rows.all fun r => sharesB r ways.length
  | _, _ => false
/-- a thing that may be asked whether it is a flow -/
def FlowF (d : D) : Prop := pl 52 d = true ∧ ∀ l, d = .lst l → l.length ≤ 1000000 ∧ ∀ r ∈ l, ∀ l', r = .lst l' → l'.length ≤ 1000000
def sp_is_flow : Spc := fun ds Q _ => ∃ net flow, ds = [net, flow] ∧ NetF net ∧ FlowF flow ∧ Q (.bl (flowB net flow))
theorem len_is_flow : ∀ ds Q Z, sp_is_flow ds Q Z → ds.length = 2 := len2 (fun ds Q Z ⟨_, _, e, _⟩ => ⟨_, _, e⟩)
@[simp] theorem sp_is_flow_at (d f : D) (Q : D → Prop) (Z : Addr → Prop) : sp_is_flow [d, f] Q Z ↔ NetF d ∧ FlowF f ∧ Q (.bl (flowB d f)) := by
  constructor
  · rintro ⟨d', n', e, h⟩
    simp at e
    obtain ⟨rfl, rfl⟩ := e
    exact h
  · intro h
    exact ⟨_, _, rfl, h⟩
def g_is_flow : DS := (dSeq2 (dIf (dOrT (dNotT (dTest (dIsi "list" (dVar 1)))) (dTest (dOp neD (dCB lenD (dCons (dVar 1) dNil)) (dCB lenD (dCons (dOp ixD (dVar 0) (dC (.int 2))) dNil)))))
    (dRet (dC (.bl false)))
    dSkip)
    (dRet (dCB allD (dCons (dFz (dLc (dSeq (dVar 1)) (gdName 2) dYes (dCall sp_are_shares (dCons (dVar 2) (dCons (dCB lenD (dCons (dOp ixD (dVar 0) (dC (.int 1))) dNil)) dNil))) [2])) dNil))))
theorem pure_is_flow : ∀ ds Q Z, sp_is_flow ds Q Z → g_is_flow { nx := fun _ => Q .non, rt := Q } (startS ["net", "flow", "row"] ds) := by
  rintro ds Q Z ⟨net, flow, rfl, ⟨p, ways, wares, rfl, hp, hw, ha, lw, la⟩, ⟨hf, hl⟩, h⟩
  have hty := pl_ty hf
  cases flow with
  | lst rows =>
    obtain ⟨l1, l2⟩ := hl rows rfl
    simp only [pl_lst] at hf
    by_cases hn : rows.length = wares.length
    · simp [g_is_flow, and_assoc, hn]
      refine ⟨by omega, lc_map (fun x => .bl (sharesB x ways.length)) (fun x hx Q q => ?_) ?_⟩
      · simp [List.all_eq_true.mp hf x hx]
        exact ⟨l2 x hx, q⟩
      · obtain ⟨bs, e1, e2⟩ := map_bl_all rows (fun r => sharesB r ways.length)
        refine ⟨bs, e1, ?_⟩
        rw [e2]
        simpa [flowB, hn] using h
    · have hn' : ¬ (rows.length : Int) = wares.length := by omega
      simpa [g_is_flow, and_assoc, hn', flowB, hn] using h
  | ins a b c => exact absurd rfl hty
  | scr ns => simp [pl] at hf
  | _ => simpa [g_is_flow, and_assoc, flowB] using h
def sp_need_flow (aF aN : Addr) : Spc := fun ds Q Z => ∃ net flow, ds = [net, flow] ∧ NetF net ∧ FlowF flow ∧ if netB net = true then (if flowB net flow = true then Q .non else Z aF) else Z aN
theorem len_need_flow (aF aN : Addr) : ∀ ds Q Z, sp_need_flow aF aN ds Q Z → ds.length = 2 := len2 (fun ds Q Z ⟨_, _, e, _⟩ => ⟨_, _, e⟩)
@[simp] theorem sp_need_flow_at (aF aN : Addr) (d f : D) (Q : D → Prop) (Z : Addr → Prop) : sp_need_flow aF aN [d, f] Q Z ↔ NetF d ∧ FlowF f ∧ if netB d = true then (if flowB d f = true then Q .non else Z aF) else Z aN := by
  constructor
  · rintro ⟨d', n', e, h⟩
    simp at e
    obtain ⟨rfl, rfl⟩ := e
    exact h
  · intro h
    exact ⟨_, _, rfl, h⟩
def g_need_flow (a_BadFlow : Addr) (a_BadNet : Addr) : DS := (dSeq2 (dCallX (sp_need_net a_BadNet) (dCons (dVar 0) dNil))
    (dIf (dNotT (dTest (dCall sp_is_flow (dCons (dVar 0) (dCons (dVar 1) dNil)))))
    (dRaise a_BadFlow)
    dSkip))
theorem pure_need_flow (aF aN : Addr) : ∀ ds Q Z, sp_need_flow aF aN ds Q Z → g_need_flow aF aN { nx := fun _ => Q .non, rt := Q, xx := Z } (startS ["net", "flow"] ds) := by
  rintro ds Q Z ⟨net, flow, rfl, hd, hf, h⟩
  simp [g_need_flow, hd, hf]
  cases e : netB net with
  | true =>
    cases e2 : flowB net flow with
    | true => simpa [e, e2] using h
    | false => simpa [e, e2] using h
  | false => simpa [e] using h
end Dy

/-! # Flows: what is brought. -/
namespace Dy
variable [Tn]
open PySem PySem.Spec PyProof.Rows L2
/-! ### nets and flows as numbers -/
abbrev W3 := Int × Int × Int
@[simp] def wD (w : W3) : D := .tup [.int w.1, .int w.2.1, .int w.2.2]
def netD (n : Int) (ways wares : List W3) : D := .tup [.int n, .lst (ways.map wD), .lst (wares.map wD)]
def rowD (r : List Rat) : D := .lst (r.map fr)
def flowD (rs : List (List Rat)) : D := .lst (rs.map rowD)
/-- a sound net -/
structure Net (n : Int) (ways wares : List W3) : Prop where
  n2 : 2 ≤ n
  n6 : n ≤ 6
  lw : ways.length ≤ 10
  l1 : 1 ≤ wares.length
  l3 : wares.length ≤ 3
  w : ∀ w ∈ ways ++ wares, 0 ≤ w.1 ∧ w.1 < n ∧ 0 ≤ w.2.1 ∧ w.2.1 < n ∧ w.1 ≠ w.2.1 ∧ 1 ≤ w.2.2 ∧ w.2.2 ≤ 20
  s : sortB (ways.map wD) = true
theorem ways_of {n : Int} : ∀ {l : List D}, (∀ d ∈ l, wayB d n 1 20 = true) → ∃ ws : List W3, l = ws.map wD ∧ ∀ w ∈ ws, 0 ≤ w.1 ∧ w.1 < n ∧ 0 ≤ w.2.1 ∧ w.2.1 < n ∧ w.1 ≠ w.2.1 ∧ 1 ≤ w.2.2 ∧ w.2.2 ≤ 20
  | [], _ => ⟨[], rfl, by simp⟩
  | d :: l, h => by
    obtain ⟨a, b, c, rfl, h1, h2, h3, h4, h5, h6, h7⟩ := wayB_key (h d (by simp))
    obtain ⟨ws, e, hw⟩ := ways_of (l := l) fun x hx => h x (by simp [hx])
    refine ⟨(a, b, c) :: ws, by rw [e]; rfl, fun w hw' => ?_⟩
    rcases List.mem_cons.mp hw' with rfl | hw'
    · exact ⟨h1, by show a < n; omega, h3, by show b < n; omega, h5, h6, h7⟩
    · exact hw w hw'
theorem net_of {d : D} (h : netB d = true) : ∃ n ways wares, d = netD n ways wares ∧ Net n ways wares := by
  unfold netB at h
  split at h
  · rename_i n ways wares
    simp only [Bool.and_eq_true, decide_eq_true_eq] at h
    obtain ⟨⟨⟨⟨h1, h2⟩, h3⟩, h4⟩, h5⟩ := h
    have h4 := List.all_eq_true.mp h4
    obtain ⟨w1, rfl, q1⟩ := ways_of (l := ways) fun x hx => h4 x (by simp [hx])
    obtain ⟨w2, rfl, q2⟩ := ways_of (l := wares) fun x hx => h4 x (by simp [hx])
    refine ⟨n, w1, w2, rfl, h1.1, h1.2, by simpa using h2, by simpa using h3.1, by simpa using h3.2, fun w hw => ?_, h5⟩
    rcases List.mem_append.mp hw with z | z
    · exact q1 w z
    · exact q2 w z
  · cases h
theorem shareB_of {d : D} (h : shareB d = true) : ∃ q : Rat, d = fr q ∧ 0 ≤ q := by
  unfold shareB fracB at h
  split at h
  · rename_i a b
    simp only [Bool.and_eq_true, decide_eq_true_eq] at h
    obtain ⟨⟨h1, h2⟩, h3⟩ := h
    obtain ⟨n, rfl⟩ := Int.eq_ofNat_of_zero_le (Int.le_of_lt h1)
    have hn : n ≠ 0 := by omega
    refine ⟨⟨a, n, hn, h2⟩, rfl, ?_⟩
    rw [← Rat.num_nonneg]
    exact h3
  · simp at h
theorem row_of : ∀ {l : List D}, (∀ d ∈ l, shareB d = true) → ∃ r : List Rat, l = r.map fr ∧ ∀ q ∈ r, 0 ≤ q
  | [], _ => ⟨[], rfl, by simp⟩
  | d :: l, h => by
    obtain ⟨q, rfl, hq⟩ := shareB_of (h d (by simp))
    obtain ⟨r, rfl, hr⟩ := row_of (l := l) fun x hx => h x (by simp [hx])
    exact ⟨q :: r, rfl, fun x hx => by
      rcases List.mem_cons.mp hx with rfl | hx
      · exact hq
      · exact hr x hx⟩
theorem rows_of {k : Nat} : ∀ {l : List D}, (∀ d ∈ l, sharesB d k = true) → ∃ rs : List (List Rat), l = rs.map rowD ∧ ∀ r ∈ rs, r.length = k ∧ ∀ q ∈ r, 0 ≤ q
  | [], _ => ⟨[], rfl, by simp⟩
  | d :: l, h => by
    have hd := h d (by simp)
    obtain ⟨rs, rfl, hr⟩ := rows_of (l := l) fun x hx => h x (by simp [hx])
    unfold sharesB at hd
    split at hd
    · rename_i xs
      simp only [Bool.and_eq_true, decide_eq_true_eq] at hd
      obtain ⟨r, rfl, hq⟩ := row_of (List.all_eq_true.mp hd.2)
      refine ⟨r :: rs, rfl, fun x hx => ?_⟩
      rcases List.mem_cons.mp hx with rfl | hx
      · exact ⟨by simpa using hd.1, hq⟩
      · exact hr x hx
    · cases hd
theorem flow_of {n : Int} {ways wares : List W3} {f : D} (h : flowB (netD n ways wares) f = true) : ∃ rs, f = flowD rs ∧ rs.length = wares.length ∧ ∀ r ∈ rs, r.length = ways.length ∧ ∀ q ∈ r, 0 ≤ q := by
  unfold flowB netD at h
  split at h
  · rename_i a b c rows e
    simp only [D.tup.injEq, List.cons.injEq, D.lst.injEq, and_true] at e
    obtain ⟨_, rfl, rfl⟩ := e
    simp only [Bool.and_eq_true, decide_eq_true_eq] at h
    obtain ⟨rs, rfl, hr⟩ := rows_of (List.all_eq_true.mp h.2)
    refine ⟨rs, rfl, by simpa using h.1, fun r hr' => by simpa using hr r hr'⟩
  · cases h
/-! ### total -/
def sp_total : Spc := fun ds Q _ => ∃ (qs : List Rat) (m b : Nat), ds = [.lst (qs.map fr)] ∧ 0 < m ∧ m < bD ∧ qs.length * b < bN ∧ b < bN ∧ (∀ q ∈ qs, Lat m b q) ∧ Q (fr qs.sum)
theorem len_total : ∀ ds Q Z, sp_total ds Q Z → ds.length = 1 := len1 (fun ds Q Z ⟨_, _, _, e, _⟩ => ⟨_, e⟩)
def g_total : DS := (dSeq2 (dSet 1 (dC c_NOUGHT))
    (dSeq2 (dFor (dSeq (dVar 0)) (gdName 2)
    (dSet 1 (dCall sp_plus (dCons (dVar 1) (dCons (dVar 2) dNil)))))
    (dRet (dVar 1))))
theorem sum_snoc (l : List Rat) (q : Rat) : (l ++ [q]).sum = l.sum + q := by
  rw [List.sum_append, List.sum_cons, List.sum_nil]
  grind
theorem pure_total : ∀ ds Q Z, sp_total ds Q Z → g_total { nx := fun _ => Q .non, rt := Q } (startS ["some", "found", "one"] ds) := by
  rintro ds Q Z ⟨qs, m, b, rfl, h0, hm, hb, hb1, hl, h⟩
  simp [g_total, and_assoc]
  refine ⟨fun rest ρ => ∃ done left x, done ++ left = qs ∧ rest = left.map fr ∧ ρ = [.d (.lst (qs.map fr)), .d (fr done.sum), x], ⟨[], qs, .no, rfl, rfl, rfl⟩, ?_, ?_⟩
  · rintro x xs ρ ⟨done, left, y, e, e2, rfl⟩
    cases left with
    | nil => cases e2
    | cons q left =>
      simp only [List.map_cons, List.cons.injEq] at e2
      obtain ⟨rfl, rfl⟩ := e2
      have hq : q ∈ qs := by rw [← e]; simp
      have hd : ∀ z ∈ done, Lat m b z := fun z hz => hl z (by rw [← e]; simp [hz])
      have hlen : done.length ≤ qs.length := by rw [← e]; simp
      have s1 : Sz done.sum := (Lat.sum h0 hd).sz hm (Nat.lt_of_le_of_lt (Nat.mul_le_mul_right _ hlen) hb)
      simp [s1, (hl q hq).sz hm hb1]
      exact ⟨done ++ [q], left, by simpa using e, rfl, by rw [sum_snoc]⟩
  · rintro ρ ⟨done, left, x, e, e2, rfl⟩
    cases left with
    | cons _ _ => cases e2
    | nil =>
      rw [List.append_nil] at e
      subst e
      simpa using h
/-! ### left_at -/
def inQ (ways : List W3) (r : List Rat) (p : Int) : Rat := ((List.zip r ways).filterMap fun x => if x.2.2.1 = p then some x.1 else none).sum
def outQ (ways : List W3) (r : List Rat) (p : Int) : Rat := ((List.zip r ways).filterMap fun x => if x.2.1 = p then some x.1 else none).sum
def leftQ (ways : List W3) (r : List Rat) (p : Int) : Rat := inQ ways r p - outQ ways r p
/-- the numbers of a row are small -/
structure Sm (m b : Nat) (r : List Rat) : Prop where
  m0 : 0 < m
  m1 : m < bD
  b1 : b < bN
  len : r.length * b < bN
  lat : ∀ q ∈ r, Lat m b q
def sp_left_at : Spc := fun ds Q _ => ∃ n ways wares r p m b, ds = [netD n ways wares, rowD r, .int p] ∧ Sm m b r ∧ ways.length ≤ 1000 ∧ Q (fr (leftQ ways r p))
theorem len_left_at : ∀ ds Q Z, sp_left_at ds Q Z → ds.length = 3 := len3 (fun ds Q Z ⟨_, _, _, _, _, _, _, e, _⟩ => ⟨_, _, _, e⟩)
def g_left_at : DS := (dSeq2 (dSet 3 (dCall sp_total (dCons (dFz (dLc (dZip (dCons (dVar 1) (dCons (dOp ixD (dVar 0) (dC (.int 1))) dNil))) (gdTup 2 (gdCons (gdName 4) (gdCons (gdName 5) gdNil))) (dTest (dOp eqD (dOp ixD (dVar 5) (dC (.int 1))) (dVar 2))) (dVar 4) [4, 5])) dNil)))
    (dRet (dCall sp_minus (dCons (dVar 3) (dCons (dCall sp_total (dCons (dFz (dLc (dZip (dCons (dVar 1) (dCons (dOp ixD (dVar 0) (dC (.int 1))) dNil))) (gdTup 2 (gdCons (gdName 4) (gdCons (gdName 5) gdNil))) (dTest (dOp eqD (dOp ixD (dVar 5) (dC (.int 0))) (dVar 2))) (dVar 4) [4, 5])) dNil)) dNil)))))
theorem zip_mem {r : List Rat} {ways : List W3} {x : Rat × W3} (h : x ∈ List.zip r ways) : x.1 ∈ r := (List.of_mem_zip (a := x.1) (b := x.2) h).1
theorem fm_some {α β : Type} {c : α → Bool} {f : α → β} {g : β → D} : ∀ l : List α, l.filterMap (fun x => if c x = true then some (g (f x)) else none) = (l.filterMap fun x => if c x = true then some (f x) else none).map g
  | [] => rfl
  | x :: l => by
    simp only [List.filterMap_cons]
    cases c x
    · simpa using fm_some l
    · simpa using fm_some l
theorem Sm.part {m b : Nat} {r : List Rat} {ways : List W3} (h : Sm m b r) (c : Rat × W3 → Bool) : Sm m b ((List.zip r ways).filterMap fun x => if c x = true then some x.1 else none) := by
  have hl : ((List.zip r ways).filterMap fun x => if c x = true then some x.1 else none).length ≤ r.length := by
    refine Nat.le_trans (List.length_filterMap_le _ _) ?_
    rw [List.length_zip]
    omega
  refine ⟨h.m0, h.m1, h.b1, Nat.lt_of_le_of_lt (Nat.mul_le_mul_right _ hl) h.len, fun q hq => ?_⟩
  obtain ⟨x, hx, e⟩ := List.mem_filterMap.mp hq
  split at e
  · cases e
    exact h.lat _ (zip_mem hx)
  · cases e
theorem Sm.sum {m b : Nat} {r : List Rat} (h : Sm m b r) : Sz r.sum := (Lat.sum h.m0 h.lat).sz h.m1 h.len
theorem total_at {m b : Nat} {r : List Rat} (h : Sm m b r) {Q : D → Prop} {Z : Addr → Prop} (q : Q (fr r.sum)) : sp_total [.lst (r.map fr)] Q Z := ⟨r, m, b, rfl, h.m0, h.m1, h.len, h.b1, h.lat, q⟩
theorem pure_left_at : ∀ ds Q Z, sp_left_at ds Q Z → g_left_at { nx := fun _ => Q .non, rt := Q } (startS ["net", "row", "place", "came", "one", "way"] ds) := by
  rintro ds Q Z ⟨n, ways, wares, r, p, m, b, rfl, hs, hw, h⟩
  have hz : (List.zip r ways).length ≤ 1000000 := by
    rw [List.length_zip]
    omega
  simp [g_left_at, netD, rowD, and_assoc, zipD_map]
  refine ⟨by omega, lc_fmE (fun x => if decide (x.2.2.1 = p) = true then some (fr x.1) else none) (fun x hx Q q => ?_) ?_⟩
  · simp [and_assoc]
    by_cases hp : x.2.2.1 = p
    · simpa [hp] using q
    · simpa [hp] using q
  · rw [fm_some (f := fun x : Rat × W3 => x.1) (g := fr) (c := fun x => decide (x.2.2.1 = p))]
    refine total_at (hs.part _) ?_
    refine ⟨by omega, lc_fmE (fun x => if decide (x.2.1 = p) = true then some (fr x.1) else none) (fun x hx Q q => ?_) ?_⟩
    · simp [and_assoc]
      by_cases hp : x.2.1 = p
      · simpa [hp] using q
      · simpa [hp] using q
    · rw [fm_some (f := fun x : Rat × W3 => x.1) (g := fr) (c := fun x => decide (x.2.1 = p))]
      refine total_at (hs.part _) ?_
      rw [sp_minus_at]
      refine ⟨(hs.part _).sum, (hs.part _).sum, ?_⟩
      simpa [leftQ, inQ, outQ] using h
/-! ### does_go, goes -/
theorem fr_int (c : Int) : D.tup [.int c, .int 1] = fr (c : Rat) := by
  unfold fr
  simp
theorem num_zero (q : Rat) : (q.num = 0) = (q = 0) := by
  rw [Rat.num_eq_zero]
structure Flo (m b : Nat) (ways wares : List W3) (rs : List (List Rat)) : Prop where
  m0 : 0 < m
  m1 : m < bD
  b1 : 1000 * b < bN
  len : rs.length = wares.length
  row : ∀ r ∈ rs, r.length = ways.length
  lat : ∀ r ∈ rs, ∀ q ∈ r, Lat m b q
theorem Flo.sm {m b : Nat} {ways wares : List W3} {rs : List (List Rat)} (h : Flo m b ways wares rs) (hw : ways.length ≤ 10) {r : List Rat} (hr : r ∈ rs) : Sm m b r :=
  ⟨h.m0, h.m1, by have := h.b1; omega, by have := h.b1; have := h.row r hr; exact Nat.lt_of_le_of_lt (Nat.mul_le_mul_right b (show r.length ≤ 1000 by omega)) h.b1, h.lat r hr⟩
/-- what the rows bear on the way in place i -/
def colQ (rs : List (List Rat)) (i : Nat) : Rat := (rs.map fun r => r[i]?.getD 0).sum
theorem Flo.col {m b : Nat} {ways wares : List W3} {rs : List (List Rat)} (h : Flo m b ways wares rs) (hw : wares.length ≤ 3) (i : Nat) (hi : i < ways.length) : Sm m b (rs.map fun r => r[i]?.getD 0) := by
  refine ⟨h.m0, h.m1, by have := h.b1; omega, ?_, fun q hq => ?_⟩
  · have := h.len
    rw [List.length_map]
    exact Nat.lt_of_le_of_lt (Nat.mul_le_mul_right b (show rs.length ≤ 1000 by omega)) h.b1
  · obtain ⟨r, hr, rfl⟩ := List.mem_map.mp hq
    have := h.row r hr
    rw [List.getElem?_eq_getElem (by omega)]
    exact h.lat r hr _ (List.getElem_mem _)
def rowBad (n : Int) (ways : List W3) (x : W3 × List Rat) : Bool := ((List.range n.toNat).filterMap fun p : Nat => if (!decide ((p : Int) ∈ [x.1.1, x.1.2.1])) = true then some (!decide (leftQ ways x.2 p = 0)) else none).any id
def capBad (rs : List (List Rat)) (x : W3 × Nat) : Bool := decide ((x.1.2.2 : Rat) < colQ rs x.2)
def goB (n : Int) (ways wares : List W3) (rs : List (List Rat)) : Bool := !(List.zip wares rs).any (rowBad n ways) && !(ways.zipIdx).any (capBad rs)
def sp_does_go : Spc := fun ds Q _ => ∃ n ways wares rs m b, ds = [netD n ways wares, flowD rs] ∧ Net n ways wares ∧ Flo m b ways wares rs ∧ Q (.bl (goB n ways wares rs))
theorem len_does_go : ∀ ds Q Z, sp_does_go ds Q Z → ds.length = 2 := len2 (fun ds Q Z ⟨_, _, _, _, _, _, e, _⟩ => ⟨_, _, e⟩)
def g_does_go : DS := (dSeq2 (dFor (dZip (dCons (dOp ixD (dVar 0) (dC (.int 2))) (dCons (dVar 1) dNil))) (gdTup 2 (gdCons (gdName 2) (gdCons (gdName 3) gdNil)))
    (dIf (dTest (dCB anyD (dCons (dFz (dLc (dRng1 (dCons (dOp ixD (dVar 0) (dC (.int 0))) dNil)) (gdName 6) (dTest (dOp (inD true) (dVar 6) (dSl (dVar 2) dNoPart (dPart (dC (.int 2)))))) (dOp neD (dOp ixD (dCall sp_left_at (dCons (dVar 0) (dCons (dVar 3) (dCons (dVar 6) dNil)))) (dC (.int 0))) (dC (.int 0))) [6])) dNil)))
    (dRet (dC (.bl false)))
    dSkip))
    (dSeq2 (dFor (dEnum (dCons (dOp ixD (dVar 0) (dC (.int 1))) dNil)) (gdTup 2 (gdCons (gdName 4) (gdCons (gdName 5) gdNil)))
    (dIf (dTest (dCall sp_is_less (dCons (dTup (dCons (dOp ixD (dVar 5) (dC (.int 2))) (dCons (dC (.int 1)) dNil))) (dCons (dCall sp_total (dCons (dFz (dLc (dSeq (dVar 1)) (gdName 3) dYes (dOp ixD (dVar 3) (dVar 4)) [3])) dNil)) dNil))))
    (dRet (dC (.bl false)))
    dSkip))
    (dRet (dC (.bl true)))))
theorem enum_map {α : Type} (g : α → D) : ∀ (k : Nat) (l : List α), enumFrom k (l.map g) = (l.zipIdx k).map fun x => .tup [.int (x.2 : Nat), g x.1]
  | _, [] => rfl
  | k, a :: l => by
    rw [List.map_cons, enumFrom, enum_map g (k + 1) l, List.zipIdx_cons, List.map_cons]
theorem notwhole3 : HT.sIx 3 0 none = 0 → ¬ HT.sIx 3 3 (some 2) = 3 := by
  intro _
  decide
theorem any_mid {α : Type} {f : α → Bool} {xs done left : List α} {a : α} (e : done ++ a :: left = xs) (h : f a = true) : xs.any f = true := by
  subst e
  simp [h]
theorem Net.cap {n : Int} {ways wares : List W3} (h : Net n ways wares) {w : W3} (hw : w ∈ ways) : Sz (w.2.2 : Rat) := by
  obtain ⟨_, _, _, _, _, h1, h2⟩ := h.w w (by simp [hw])
  refine ⟨?_, ?_⟩
  · rw [Rat.den_intCast, bD_eq]
    exact Nat.one_lt_two_pow (by decide)
  · rw [Rat.num_intCast, bN_eq]
    have : 2 ^ 5 ≤ 2 ^ 100000 := Nat.pow_le_pow_right (by decide) (by decide)
    omega
theorem zipIdx_lt {α : Type} {l : List α} {x : α × Nat} (h : x ∈ l.zipIdx) : x.2 < l.length ∧ x.1 ∈ l := by
  have e := List.mem_zipIdx h
  simp at e
  obtain ⟨h1, h2⟩ := e
  refine ⟨h1, ?_⟩
  rw [h2]
  exact List.getElem_mem _
theorem mem_true {l : List Bool} : true ∈ l ↔ l.any id = true := by simp
theorem not_mem_true {l : List Bool} (h : l.any id = false) : ¬ true ∈ l := by
  rw [mem_true, h]
  simp
theorem pure_does_go : ∀ ds Q Z, sp_does_go ds Q Z → g_does_go { nx := fun _ => Q .non, rt := Q } (startS ["net", "flow", "ware", "row", "at", "way", "place"] ds) := by
  rintro ds Q Z ⟨n, ways, wares, rs, m, b, rfl, hn, hf, h⟩
  have n2 := hn.n2
  have n6 := hn.n6
  have lw := hn.lw
  have l3 := hn.l3
  simp [g_does_go, netD, flowD, and_assoc, zipD_map]
  refine for_E (fun done left ρ => done.any (rowBad n ways) = false ∧ ∃ x2 x3 x4 x5 x6, ρ = [.d (netD n ways wares), .d (flowD rs), x2, x3, x4, x5, x6]) ⟨rfl, _, _, _, _, _, rfl⟩ ?_ ?_
  · rintro done ⟨w, r⟩ left ρ N e ⟨h1, x2, x3, x4, x5, x6, rfl⟩ hN
    have hr : r ∈ rs := (List.of_mem_zip (a := w) (b := r) (by rw [← e]; simp)).2
    simp [netD, and_assoc]
    refine ⟨by omega, by omega, lc_fmE (fun p : Nat => if (!decide ((p : Int) ∈ [w.1, w.2.1])) = true then some (.bl (!decide (leftQ ways r p = 0))) else none) (fun p hp Q q => ?_) ?_⟩
    · simp [and_assoc]
      refine ⟨notwhole3, [w.1, w.2.1], rfl, ?_⟩
      by_cases hp : (p : Int) ∈ [w.1, w.2.1]
      · simpa [hp] using q
      · simp [hp] at q
        simp [hp]
        refine ⟨n, ways, wares, r, p, m, b, rfl, hf.sm lw hr, by omega, ?_⟩
        simpa [fr, num_zero] using q
    · rw [fm_some (f := fun p : Nat => !decide (leftQ ways r p = 0)) (g := D.bl) (c := fun p : Nat => !decide ((p : Int) ∈ [w.1, w.2.1]))]
      refine ⟨_, rfl, ?_⟩
      cases hb : rowBad n ways (w, r) with
      | true =>
        have hg : goB n ways wares rs = false := by
          unfold goB
          rw [any_mid e hb]
          rfl
        rw [hg] at h
        unfold rowBad at hb
        rw [if_pos (mem_true.mpr hb)]
        exact h
      | false =>
        have hb' := hb
        unfold rowBad at hb
        rw [if_neg (not_mem_true hb)]
        exact hN _ ⟨by simp [h1, hb'], _, _, _, _, _, rfl⟩
  · rintro ρ ⟨h1, x2, x3, x4, x5, x6, rfl⟩
    simp [netD, flowD, and_assoc, enum_map]
    refine for_E (fun done left ρ => done.any (capBad rs) = false ∧ ∃ x2 x3 x4 x5 x6, ρ = [.d (netD n ways wares), .d (flowD rs), x2, x3, x4, x5, x6]) ⟨rfl, _, _, _, _, _, rfl⟩ ?_ ?_
    · rintro done ⟨w, i⟩ left ρ N e ⟨h2, x2, x3, x4, x5, x6, rfl⟩ hN
      have hw := zipIdx_lt (x := (w, i)) (l := ways) (by rw [← e]; simp)
      have hlr := hf.len
      simp [flowD, and_assoc]
      refine ⟨by omega, lc_mapE (fun r => fr (r[i]?.getD 0)) (fun r hr Q q => ?_) ?_⟩
      · have := hf.row r hr
        have hi : i < r.length := by have := hw.1; omega
        simp [rowD]
        rw [atI_of (n := i) (a := fr (r[i]?.getD 0)) (by rw [List.getElem?_map, List.getElem?_eq_getElem hi]; rfl)]
        simpa using q
      · have em : rs.map (fun r => fr (r[i]?.getD 0)) = (rs.map fun r => r[i]?.getD 0).map fr := by
          rw [List.map_map]
          rfl
        rw [em]
        refine total_at (hf.col l3 i hw.1) ?_
        rw [fr_int, sp_is_less_at]
        refine ⟨hn.cap hw.2, (hf.col l3 i hw.1).sum, ?_⟩
        simp
        cases hb : capBad rs (w, i) with
        | true =>
          have hg : goB n ways wares rs = false := by
            unfold goB
            rw [any_mid e hb]
            simp
          rw [hg] at h
          have hb' : (w.2.2 : Rat) < (rs.map fun r => r[i]?.getD 0).sum := of_decide_eq_true hb
          simpa [hb'] using h
        | false =>
          have hb' : ¬ (w.2.2 : Rat) < (rs.map fun r => r[i]?.getD 0).sum := of_decide_eq_false hb
          simp [hb']
          exact hN _ ⟨by simp [h2, hb], _, _, _, _, _, rfl⟩
    · rintro ρ ⟨h2, x2, x3, x4, x5, x6, rfl⟩
      simpa [goB, h1, h2] using h
/-- what a checked def says: N, F the refusals' ends, K the end for a sound net and flow -/
def Chk (net flow : D) (N F : Prop) (K : Int → List W3 → List W3 → List (List Rat) → Prop) : Prop :=
  NetF net ∧ FlowF flow ∧ (netB net = false → N) ∧ (netB net = true → flowB net flow = false → F) ∧ (netB net = true → flowB net flow = true → ∃ n ways wares rs m b, net = netD n ways wares ∧ flow = flowD rs ∧ Net n ways wares ∧ Flo m b ways wares rs ∧ K n ways wares rs)
def sp_goes (aF aN : Addr) : Spc := fun ds Q Z => ∃ net flow, ds = [net, flow] ∧ Chk net flow (Z aN) (Z aF) fun n ways wares rs => Q (.bl (goB n ways wares rs))
theorem len_goes (aF aN : Addr) : ∀ ds Q Z, sp_goes aF aN ds Q Z → ds.length = 2 := len2 (fun ds Q Z ⟨_, _, e, _⟩ => ⟨_, _, e⟩)
def g_goes (a_BadFlow : Addr) (a_BadNet : Addr) : DS := (dSeq2 (dCallX (sp_need_flow a_BadFlow a_BadNet) (dCons (dVar 0) (dCons (dVar 1) dNil)))
    (dRet (dCall sp_does_go (dCons (dVar 0) (dCons (dVar 1) dNil)))))
theorem pure_goes (aF aN : Addr) : ∀ ds Q Z, sp_goes aF aN ds Q Z → g_goes aF aN { nx := fun _ => Q .non, rt := Q, xx := Z } (startS ["net", "flow"] ds) := by
  rintro ds Q Z ⟨net, flow, rfl, hd, hf, h1, h2, h3⟩
  simp [g_goes, hd, hf]
  cases e : netB net with
  | false => simpa using h1 e
  | true =>
    cases e2 : flowB net flow with
    | false => simpa using h2 e e2
    | true =>
      obtain ⟨n, ways, wares, rs, m, b, rfl, rfl, hn, ho, q⟩ := h3 e e2
      simp
      exact ⟨n, ways, wares, rs, m, b, rfl, hn, ho, q⟩
/-! ### brought_by, brought -/
def brL (ways wares : List W3) (rs : List (List Rat)) : List Rat := (List.zip wares rs).map fun x => leftQ ways x.2 x.1.2.1
def sp_brought_by : Spc := fun ds Q _ => ∃ n ways wares rs m b, ds = [netD n ways wares, flowD rs] ∧ Net n ways wares ∧ Flo m b ways wares rs ∧ Q (.lst ((brL ways wares rs).map fr))
theorem len_brought_by : ∀ ds Q Z, sp_brought_by ds Q Z → ds.length = 2 := len2 (fun ds Q Z ⟨_, _, _, _, _, _, e, _⟩ => ⟨_, _, e⟩)
def g_brought_by : DS := (dRet (dFz (dLc (dZip (dCons (dOp ixD (dVar 0) (dC (.int 2))) (dCons (dVar 1) dNil))) (gdTup 2 (gdCons (gdName 2) (gdCons (gdName 3) gdNil))) dYes (dCall sp_left_at (dCons (dVar 0) (dCons (dVar 3) (dCons (dOp ixD (dVar 2) (dC (.int 1))) dNil)))) [2, 3])))
theorem pure_brought_by : ∀ ds Q Z, sp_brought_by ds Q Z → g_brought_by { nx := fun _ => Q .non, rt := Q } (startS ["net", "flow", "ware", "row"] ds) := by
  rintro ds Q Z ⟨n, ways, wares, rs, m, b, rfl, hn, hf, h⟩
  have lw := hn.lw
  have l3 := hn.l3
  simp [g_brought_by, netD, flowD, and_assoc, zipD_map]
  refine ⟨by omega, lc_mapE (fun x => fr (leftQ ways x.2 x.1.2.1)) (fun x hx Q q => ?_) ?_⟩
  · have hr : x.2 ∈ rs := (List.of_mem_zip (a := x.1) (b := x.2) hx).2
    simp [and_assoc]
    exact ⟨n, ways, wares, x.2, x.1.2.1, m, b, rfl, hf.sm lw hr, by omega, q⟩
  · simpa [brL, Function.comp_def] using h
def sp_brought (aF aN : Addr) : Spc := fun ds Q Z => ∃ net flow, ds = [net, flow] ∧ Chk net flow (Z aN) (Z aF) fun n ways wares rs => Q (.lst ((brL ways wares rs).map fr))
theorem len_brought (aF aN : Addr) : ∀ ds Q Z, sp_brought aF aN ds Q Z → ds.length = 2 := len2 (fun ds Q Z ⟨_, _, e, _⟩ => ⟨_, _, e⟩)
def g_brought (a_BadFlow : Addr) (a_BadNet : Addr) : DS := (dSeq2 (dCallX (sp_need_flow a_BadFlow a_BadNet) (dCons (dVar 0) (dCons (dVar 1) dNil)))
    (dRet (dCall sp_brought_by (dCons (dVar 0) (dCons (dVar 1) dNil)))))
theorem pure_brought (aF aN : Addr) : ∀ ds Q Z, sp_brought aF aN ds Q Z → g_brought aF aN { nx := fun _ => Q .non, rt := Q, xx := Z } (startS ["net", "flow"] ds) := by
  rintro ds Q Z ⟨net, flow, rfl, hd, hf, h1, h2, h3⟩
  simp [g_brought, hd, hf]
  cases e : netB net with
  | false => simpa using h1 e
  | true =>
    cases e2 : flowB net flow with
    | false => simpa using h2 e e2
    | true =>
      obtain ⟨n, ways, wares, rs, m, b, rfl, rfl, hn, ho, q⟩ := h3 e e2
      simp
      exact ⟨n, ways, wares, rs, m, b, rfl, hn, ho, q⟩
end Dy

/-! # The law's own reckoning. -/
namespace Dy
variable [Tn]
open PySem PySem.Spec PyProof.Rows L2
/-! ### cells, draws -/
theorem mulR {i j : Int} (h1 : -(2 ^ 64) < j) (h2 : j < 2 ^ 64) : IntMulOk i j := IntMulOk.of_right (intBits_le_64 h1 h2)
theorem mulSm {i j : Int} (hi : i.natAbs < 2 ^ 1000) (hj : j.natAbs < 2 ^ 1000) : IntMulOk i j := (wide_mul hi hj (by decide) (by decide) (by decide)).ok
theorem lt1000 {a k : Nat} (h : a < 2 ^ k) (hk : k ≤ 1000) : a < 2 ^ 1000 := Nat.lt_of_lt_of_le h (Nat.pow_le_pow_right (by decide) hk)
theorem divSm {i j : Int} (h0 : 0 < j) (hj : j.natAbs < 2 ^ 1000) : CDivW i j := wide_div (by omega) (b := 1000) hj (by decide) (by decide)
def sp__law_cell : Spc := fun ds Q _ => ∃ (ns : List Int) (k : Nat), ds = [.scr ns, .int k] ∧ k < 1000 ∧ ns.length ≤ 1000 ∧ ∀ v : Int, Q (.int v)
theorem len__law_cell : ∀ ds Q Z, sp__law_cell ds Q Z → ds.length = 2 := len2 (fun ds Q Z ⟨_, _, e, _⟩ => ⟨_, _, e⟩)
@[simp] theorem eqv_scr_nil (ns : List Int) : eqv (.scr ns) (.lst []) = ns.isEmpty := by
  cases ns <;> simp [eqv, toPy, toPyL, PyData.eqv, PyData.eqvAll]
def g__law_cell : DS := (dSeq2 (dIf (dTest (dOp eqD (dVar 0) (dLst dNil)))
    (dRet (dOp mulD (dVar 1) (dC (.int 7919))))
    dSkip)
    (dRet (dOp addD (dOp ixD (dVar 0) (dOp modD (dVar 1) (dCB lenD (dCons (dVar 0) dNil)))) (dOp mulD (dOp fdivD (dVar 1) (dCB lenD (dCons (dVar 0) dNil))) (dC (.int 104729))))))
theorem small_lt {n : Nat} (h : n < 2 ^ 200) : n < 2 ^ 1000 := Nat.lt_of_lt_of_le h (Nat.pow_le_pow_right (by decide) (by decide))
theorem pure__law_cell : ∀ ds Q Z, sp__law_cell ds Q Z → g__law_cell { nx := fun _ => Q .non, rt := Q } (startS ["_law_script", "_law_k"] ds) := by
  rintro ds Q Z ⟨ns, k, rfl, hk, hl, h⟩
  simp [g__law_cell, and_assoc]
  cases ns with
  | nil =>
    simp
    exact ⟨mulR (by decide) (by decide), h _⟩
  | cons a ns =>
    have hi : k % (a :: ns).length < (a :: ns).length := Nat.mod_lt _ (by simp)
    have e : (k : Int) % ((ns.length : Int) + 1) = ((k % (a :: ns).length : Nat) : Int) := by simp
    have hl' : ns.length ≤ 1000 := by simp at hl; omega
    simp
    refine ⟨(a :: ns)[k % (a :: ns).length], ?_, divSm (by omega) (small_lt (by omega)), mulR (by decide) (by decide), h _⟩
    rw [e]
    exact atI_of (by rw [List.getElem?_eq_getElem hi])
def sp__law_drawn : Spc := fun ds Q _ => ∃ (c : Int) (k : Nat), ds = [.int c, .int k] ∧ ∀ v : Nat, v < 2 ^ 128 → Q (.int v)
theorem len__law_drawn : ∀ ds Q Z, sp__law_drawn ds Q Z → ds.length = 2 := len2 (fun ds Q Z ⟨_, _, e, _⟩ => ⟨_, _, e⟩)
def g__law_drawn : DS := (dSeq2 (dSet 2 (dOp modD (dOp addD (dOp mulD (dVar 0) (dC (.int 6364136223846793005))) (dOp mulD (dOp addD (dVar 1) (dC (.int 1))) (dC (.int 1442695040888963407)))) (dC (.int 340282366920938463463374607431768211507))))
    (dRet (dOp modD (dOp mulD (dVar 2) (dVar 2)) (dC (.int 340282366920938463463374607431768211297)))))
theorem pure__law_drawn : ∀ ds Q Z, sp__law_drawn ds Q Z → g__law_drawn { nx := fun _ => Q .non, rt := Q } (startS ["_law_cell_here", "_law_k", "_law_more"] ds) := by
  rintro ds Q Z ⟨c, k, rfl, h⟩
  simp [g__law_drawn, and_assoc]
  refine ⟨mulR (by decide) (by decide), mulR (by decide) (by decide), ?_⟩
  generalize hx : (c * 6364136223846793005 + ((k : Int) + 1) * 1442695040888963407) % 340282366920938463463374607431768211507 = x
  have hx0 : 0 ≤ x := by rw [← hx]; exact Int.emod_nonneg _ (by decide)
  have hx1 : x < 340282366920938463463374607431768211507 := by rw [← hx]; exact Int.emod_lt_of_pos _ (by decide)
  refine ⟨mulSm (small_lt (by omega)) (small_lt (by omega)), ?_⟩
  generalize hy : x * x % 340282366920938463463374607431768211297 = y
  have hy0 : 0 ≤ y := by rw [← hy]; exact Int.emod_nonneg _ (by decide)
  have hy1 : y < 340282366920938463463374607431768211297 := by rw [← hy]; exact Int.emod_lt_of_pos _ (by decide)
  obtain ⟨v, rfl⟩ := Int.eq_ofNat_of_zero_le hy0
  exact h v (by omega)
/-! ### the law's fractions -/
def sp__law_made : Spc := fun ds Q _ => ∃ (n : Int) (d : Nat), ds = [.int n, .int d] ∧ 0 < d ∧ d < 2 ^ 9000 ∧ Q (fr (mkRat n d))
theorem len__law_made : ∀ ds Q Z, sp__law_made ds Q Z → ds.length = 2 := fun ds Q Z ⟨a, b, e, _⟩ => by rw [e]; rfl
@[simp] theorem sp__law_made_at (n : Int) (d : Nat) (Q : D → Prop) (Z : Addr → Prop) : sp__law_made [.int n, .int d] Q Z ↔ 0 < d ∧ d < 2 ^ 9000 ∧ Q (fr (mkRat n d)) := sp_fraction_at n d Q Z
def g__law_made : DS := (dSeq2 (dPar 2 3 (dCons (dCB absD (dCons (dVar 0) dNil)) (dCons (dVar 1) dNil)))
    (dSeq2 (dWhile (dTest (dOp (cmpD fun i j => decide (j < i)) (dVar 3) (dC (.int 0))))
    (dPar 2 3 (dCons (dVar 3) (dCons (dOp modD (dVar 2) (dVar 3)) dNil))))
    (dRet (dTup (dCons (dOp fdivD (dVar 0) (dVar 2)) (dCons (dOp fdivD (dVar 1) (dVar 2)) dNil))))))
theorem pure__law_made : ∀ ds Q Z, sp__law_made ds Q Z → g__law_made { nx := fun _ => Q .non, rt := Q } (startS ["_law_top", "_law_under_here", "_law_one", "_law_other"] ds) := by
  rintro ds Q Z ⟨a, b, rfl, hd, hs, h⟩
  have hg : 0 < Nat.gcd a.natAbs b := Nat.gcd_pos_of_pos_right _ hd
  have hl : Nat.gcd a.natAbs b ≤ b := Nat.gcd_le_right _ hd
  rw [fr_mkRat a b hd] at h
  simp [g__law_made, and_assoc]
  refine ⟨fun n ρ => ∃ x y : Nat, ρ = [.d (.int a), .d (.int b), .d (.int x), .d (.int y)] ∧ Nat.gcd x y = Nat.gcd a.natAbs b ∧ y = n, ⟨b, a.natAbs, b, rfl, rfl, rfl⟩, ?_⟩
  rintro n ρ ⟨x, y, rfl, e, rfl⟩
  by_cases hy : 0 < y
  · simp [hy, and_assoc]
    refine ⟨x % y, Nat.mod_lt _ hy, y, rfl, by simp, ?_⟩
    rw [Nat.gcd_comm, ← Nat.gcd_rec, Nat.gcd_comm]
    exact e
  · have hz : y = 0 := by omega
    subst hz
    have e2 : x = Nat.gcd a.natAbs b := by simpa using e
    subst e2
    simp
    exact ⟨divOk hg hl hs, divOk hg hl hs, h⟩
def sp__law_plus : Spc := sp_plus
theorem len__law_plus : ∀ ds Q Z, sp__law_plus ds Q Z → ds.length = 2 := len_plus
@[simp] theorem sp__law_plus_at (p q : Rat) (Q : D → Prop) (Z : Addr → Prop) : sp__law_plus [fr p, fr q] Q Z ↔ Sz p ∧ Sz q ∧ Q (fr (p + q)) := sp_plus_at p q Q Z
def g__law_plus : DS := (dRet (dCall sp__law_made (dCons (dOp addD (dOp mulD (dOp ixD (dVar 0) (dC (.int 0))) (dOp ixD (dVar 1) (dC (.int 1)))) (dOp mulD (dOp ixD (dVar 1) (dC (.int 0))) (dOp ixD (dVar 0) (dC (.int 1))))) (dCons (dOp mulD (dOp ixD (dVar 0) (dC (.int 1))) (dOp ixD (dVar 1) (dC (.int 1)))) dNil))))
theorem pure__law_plus : ∀ ds Q Z, sp__law_plus ds Q Z → g__law_plus { nx := fun _ => Q .non, rt := Q } (startS ["_law_one", "_law_other"] ds) := by
  rintro ds Q Z ⟨p, q, rfl, hp, hq, h⟩
  rw [Rat.add_def'] at h
  simp [g__law_plus, fr, cast2, -Int.natCast_mul, mulOk hp.num hq.denN, mulOk hq.num hp.denN, mulOk hp.denN hq.denN, den_pos2, den_prod hp.den hq.den]
  exact h
def sp__law_times : Spc := sp_times
theorem len__law_times : ∀ ds Q Z, sp__law_times ds Q Z → ds.length = 2 := len_times
@[simp] theorem sp__law_times_at (p q : Rat) (Q : D → Prop) (Z : Addr → Prop) : sp__law_times [fr p, fr q] Q Z ↔ Sz p ∧ Sz q ∧ Q (fr (p * q)) := sp_times_at p q Q Z
def g__law_times : DS := (dRet (dCall sp__law_made (dCons (dOp mulD (dOp ixD (dVar 0) (dC (.int 0))) (dOp ixD (dVar 1) (dC (.int 0)))) (dCons (dOp mulD (dOp ixD (dVar 0) (dC (.int 1))) (dOp ixD (dVar 1) (dC (.int 1)))) dNil))))
theorem pure__law_times : ∀ ds Q Z, sp__law_times ds Q Z → g__law_times { nx := fun _ => Q .non, rt := Q } (startS ["_law_one", "_law_other"] ds) := by
  rintro ds Q Z ⟨p, q, rfl, hp, hq, h⟩
  rw [Rat.mul_def'] at h
  simp [g__law_times, fr, cast2, -Int.natCast_mul, mulOk hp.num hq.num, mulOk hp.denN hq.denN, den_pos2, den_prod hp.den hq.den]
  exact h
def sp__law_under : Spc := sp_is_less
theorem len__law_under : ∀ ds Q Z, sp__law_under ds Q Z → ds.length = 2 := len_is_less
@[simp] theorem sp__law_under_at (p q : Rat) (Q : D → Prop) (Z : Addr → Prop) : sp__law_under [fr p, fr q] Q Z ↔ Sz p ∧ Sz q ∧ Q (.bl (decide (p < q))) := sp_is_less_at p q Q Z
def g__law_under : DS := (dRet (dOp ltD (dOp mulD (dOp ixD (dVar 0) (dC (.int 0))) (dOp ixD (dVar 1) (dC (.int 1)))) (dOp mulD (dOp ixD (dVar 1) (dC (.int 0))) (dOp ixD (dVar 0) (dC (.int 1))))))
theorem pure__law_under : ∀ ds Q Z, sp__law_under ds Q Z → g__law_under { nx := fun _ => Q .non, rt := Q } (startS ["_law_one", "_law_other"] ds) := by
  rintro ds Q Z ⟨p, q, rfl, hp, hq, h⟩
  simp only [Rat.lt_iff] at h
  simp [g__law_under, fr, mulOk hp.num hq.denN, mulOk hq.num hp.denN]
  exact h
def sp__law_all : Spc := sp_total
theorem len__law_all : ∀ ds Q Z, sp__law_all ds Q Z → ds.length = 1 := len_total
def g__law_all : DS := (dSeq2 (dSet 1 (dTup (dCons (dC (.int 0)) (dCons (dC (.int 1)) dNil))))
    (dSeq2 (dFor (dSeq (dVar 0)) (gdName 2)
    (dSet 1 (dCall sp__law_plus (dCons (dVar 1) (dCons (dVar 2) dNil)))))
    (dRet (dVar 1))))
theorem pure__law_all : ∀ ds Q Z, sp__law_all ds Q Z → g__law_all { nx := fun _ => Q .non, rt := Q } (startS ["_law_some", "_law_found", "_law_one"] ds) := by
  rintro ds Q Z ⟨qs, m, b, rfl, h0, hm, hb, hb1, hl, h⟩
  simp [g__law_all, and_assoc]
  refine for_E (fun done left ρ => ∃ x, ρ = [.d (.lst (qs.map fr)), .d (fr done.sum), x]) ⟨.no, rfl⟩ ?_ ?_
  · rintro done q left ρ N e ⟨y, rfl⟩ hN
    have hq : q ∈ qs := by rw [← e]; simp
    have hd : ∀ z ∈ done, Lat m b z := fun z hz => hl z (by rw [← e]; simp [hz])
    have hlen : done.length ≤ qs.length := by rw [← e]; simp
    have s1 : Sz done.sum := (Lat.sum h0 hd).sz hm (Nat.lt_of_le_of_lt (Nat.mul_le_mul_right _ hlen) hb)
    simp [s1, (hl q hq).sz hm hb1]
    exact hN _ ⟨_, by rw [sum_snoc]⟩
  · rintro ρ ⟨x, rfl⟩
    simpa using h
end Dy

/-! # The law's judgement of a flow. -/
namespace Dy
variable [Tn]
open PySem PySem.Spec PyProof.Rows L2
def tmQ (p : Int) (x : Rat × W3) : Rat := x.1 * (((if x.2.2.1 = p then 1 else 0) - (if x.2.1 = p then 1 else 0) : Int) : Rat)
theorem tm_lat {m b : Nat} {p : Int} {x : Rat × W3} (h : Lat m b x.1) : Lat m b (tmQ p x) := by
  unfold tmQ
  by_cases h1 : x.2.2.1 = p
  · by_cases h2 : x.2.1 = p
    · rw [if_pos h1, if_pos h2]
      have e : x.1 * (((1 - 1 : Int)) : Rat) = 0 := by simp
      rw [e]
      exact Lat.zero h.1 b
    · rw [if_pos h1, if_neg h2]
      have e : x.1 * (((1 - 0 : Int)) : Rat) = x.1 := by simp
      rw [e]
      exact h
  · by_cases h2 : x.2.1 = p
    · rw [if_neg h1, if_pos h2]
      have e : x.1 * (((0 - 1 : Int)) : Rat) = -x.1 := by simp; grind
      rw [e]
      exact h.neg
    · rw [if_neg h1, if_neg h2]
      have e : x.1 * (((0 - 0 : Int)) : Rat) = 0 := by simp
      rw [e]
      exact Lat.zero h.1 b
theorem tm_sum (p : Int) : ∀ l : List (Rat × W3), (l.map (tmQ p)).sum = (l.filterMap fun x => if x.2.2.1 = p then some x.1 else none).sum - (l.filterMap fun x => if x.2.1 = p then some x.1 else none).sum
  | [] => by simp; grind
  | x :: l => by
    have ih := tm_sum p l
    rw [List.map_cons, List.sum_cons, ih]
    unfold tmQ
    by_cases h1 : x.2.2.1 = p
    · by_cases h2 : x.2.1 = p
      · simp [List.filterMap_cons, h1, h2]
        grind
      · simp [List.filterMap_cons, h1, h2]
        grind
    · by_cases h2 : x.2.1 = p
      · simp [List.filterMap_cons, h1, h2]
        grind
      · simp [List.filterMap_cons, h1, h2]
        grind
def sp__law_net_at : Spc := sp_left_at
theorem len__law_net_at : ∀ ds Q Z, sp__law_net_at ds Q Z → ds.length = 3 := len_left_at
def g__law_net_at : DS := (dSeq2 (dSet 3 (dTup (dCons (dC (.int 0)) (dCons (dC (.int 1)) dNil))))
    (dSeq2 (dFor (dZip (dCons (dVar 1) (dCons (dOp ixD (dVar 0) (dC (.int 1))) dNil))) (gdTup 2 (gdCons (gdName 4) (gdCons (gdName 5) gdNil)))
    (dSet 3 (dCall sp__law_plus (dCons (dVar 3) (dCons (dCall sp__law_times (dCons (dVar 4) (dCons (dTup (dCons (dOp subD (dCB intD (dCons (dOp eqD (dOp ixD (dVar 5) (dC (.int 1))) (dVar 2)) dNil)) (dCB intD (dCons (dOp eqD (dOp ixD (dVar 5) (dC (.int 0))) (dVar 2)) dNil))) (dCons (dC (.int 1)) dNil))) dNil))) dNil)))))
    (dRet (dVar 3))))
theorem sz_small {k : Int} (h : k.natAbs ≤ 1000) : Sz (k : Rat) := by
  refine ⟨?_, ?_⟩
  · rw [Rat.den_intCast, bD_eq]
    exact Nat.one_lt_two_pow (by decide)
  · rw [Rat.num_intCast, bN_eq]
    have : 2 ^ 10 ≤ 2 ^ 100000 := Nat.pow_le_pow_right (by decide) (by decide)
    omega
theorem fr_zero : D.tup [.int 0, .int 1] = fr 0 := by
  have := fr_int 0
  simpa using this
theorem pure__law_net_at : ∀ ds Q Z, sp__law_net_at ds Q Z → g__law_net_at { nx := fun _ => Q .non, rt := Q } (startS ["_law_net_here", "_law_row", "_law_place", "_law_found", "_law_much", "_law_way"] ds) := by
  rintro ds Q Z ⟨n, ways, wares, r, p, m, b, rfl, hs, hw, h⟩
  simp [g__law_net_at, netD, rowD, and_assoc, zipD_map]
  refine for_E (fun done left ρ => ∃ x4 x5, ρ = [.d (netD n ways wares), .d (rowD r), .d (.int p), .d (fr (done.map (tmQ p)).sum), x4, x5]) ⟨.no, .no, by rw [fr_zero]; rfl⟩ ?_ ?_
  · rintro done x left ρ N e ⟨x4, x5, rfl⟩ hN
    have hx : x.1 ∈ r := zip_mem (by rw [← e]; simp)
    have hd : ∀ z ∈ done.map (tmQ p), Lat m b z := fun z hz => by
      obtain ⟨y, hy, rfl⟩ := List.mem_map.mp hz
      exact tm_lat (hs.lat _ (zip_mem (by rw [← e]; simp [hy])))
    have hlen : (done.map (tmQ p)).length ≤ r.length := by
      have h1 := congrArg List.length e
      rw [List.length_append, List.length_zip] at h1
      rw [List.length_map]
      omega
    have s1 : Sz (done.map (tmQ p)).sum := (Lat.sum hs.m0 hd).sz hs.m1 (Nat.lt_of_le_of_lt (Nat.mul_le_mul_right _ hlen) hs.len)
    have sx : Sz x.1 := (hs.lat _ hx).sz hs.m1 hs.b1
    have st : Sz (tmQ p x) := (tm_lat (hs.lat _ hx)).sz hs.m1 hs.b1
    simp [netD, rowD, and_assoc]
    rw [fr_int, sp__law_times_at]
    refine ⟨sx, sz_small (by split <;> split <;> decide), ?_⟩
    have et : x.1 * (((if x.2.2.1 = p then 1 else 0) - (if x.2.1 = p then 1 else 0) : Int) : Rat) = tmQ p x := rfl
    rw [et, sp__law_plus_at]
    exact ⟨s1, st, hN _ ⟨.d (fr x.1), .d (wD x.2), by rw [List.map_append, List.map_cons, List.map_nil, sum_snoc]; rfl⟩⟩
  · rintro ρ ⟨x4, x5, rfl⟩
    rw [leftQ, inQ, outQ, ← tm_sum] at h
    simpa using h
/-! ### goes, brought -/
def sp__law_goes : Spc := sp_does_go
theorem len__law_goes : ∀ ds Q Z, sp__law_goes ds Q Z → ds.length = 2 := len_does_go
def g__law_goes : DS := (dSeq2 (dFor (dZip (dCons (dOp ixD (dVar 0) (dC (.int 2))) (dCons (dVar 1) dNil))) (gdTup 2 (gdCons (gdName 2) (gdCons (gdName 3) gdNil)))
    (dFor (dRng1 (dCons (dOp ixD (dVar 0) (dC (.int 0))) dNil)) (gdName 4)
    (dIf (dAndT (dTest (dOp (inD true) (dVar 4) (dSl (dVar 2) dNoPart (dPart (dC (.int 2)))))) (dTest (dOp neD (dCall sp__law_net_at (dCons (dVar 0) (dCons (dVar 3) (dCons (dVar 4) dNil)))) (dTup (dCons (dC (.int 0)) (dCons (dC (.int 1)) dNil))))))
    (dRet (dC (.bl false)))
    dSkip)))
    (dSeq2 (dFor (dEnum (dCons (dOp ixD (dVar 0) (dC (.int 1))) dNil)) (gdTup 2 (gdCons (gdName 5) (gdCons (gdName 6) gdNil)))
    (dIf (dTest (dCall sp__law_under (dCons (dTup (dCons (dOp ixD (dVar 6) (dC (.int 2))) (dCons (dC (.int 1)) dNil))) (dCons (dCall sp__law_all (dCons (dFz (dLc (dSeq (dVar 1)) (gdName 3) dYes (dOp ixD (dVar 3) (dVar 5)) [3])) dNil)) dNil))))
    (dRet (dC (.bl false)))
    dSkip))
    (dRet (dC (.bl true)))))
theorem rowBad_any {n : Int} {ways : List W3} {w : W3} {r : List Rat} {i : Nat} (hi : i < n.toNat) (h1 : ¬ (i : Int) ∈ [w.1, w.2.1]) (h2 : ¬ leftQ ways r i = 0) : rowBad n ways (w, r) = true := by
  unfold rowBad
  rw [List.any_eq_true]
  exact ⟨true, List.mem_filterMap.mpr ⟨i, List.mem_range.mpr hi, by rw [if_pos (by simpa using h1)]; simp [h2]⟩, rfl⟩
theorem rowBad_none {n : Int} {ways : List W3} {w : W3} {r : List Rat} (h : ∀ i : Nat, i < n.toNat → ¬ (i : Int) ∈ [w.1, w.2.1] → leftQ ways r i = 0) : rowBad n ways (w, r) = false := by
  unfold rowBad
  rw [List.any_eq_false]
  rintro x hx
  obtain ⟨i, hi, e⟩ := List.mem_filterMap.mp hx
  split at e
  · rename_i hc
    cases e
    have := h i (List.mem_range.mp hi) (by simpa using hc)
    simp [this]
  · cases e
theorem pure__law_goes : ∀ ds Q Z, sp__law_goes ds Q Z → g__law_goes { nx := fun _ => Q .non, rt := Q } (startS ["_law_net_here", "_law_flow_here", "_law_ware", "_law_row", "_law_place", "_law_at", "_law_way"] ds) := by
  rintro ds Q Z ⟨n, ways, wares, rs, m, b, rfl, hn, hf, h⟩
  have n2 := hn.n2
  have n6 := hn.n6
  have lw := hn.lw
  have l3 := hn.l3
  simp [g__law_goes, netD, flowD, and_assoc, zipD_map]
  refine for_E (fun done left ρ => done.any (rowBad n ways) = false ∧ ∃ x2 x3 x4 x5 x6, ρ = [.d (netD n ways wares), .d (flowD rs), x2, x3, x4, x5, x6]) ⟨rfl, _, _, _, _, _, rfl⟩ ?_ ?_
  · rintro done ⟨w, r⟩ left ρ N e ⟨h1, x2, x3, x4, x5, x6, rfl⟩ hN
    have hr : r ∈ rs := (List.of_mem_zip (a := w) (b := r) (by rw [← e]; simp)).2
    simp [netD, and_assoc]
    refine ⟨by omega, by omega, ?_⟩
    refine for_E (fun dn lf ρ => (∀ i ∈ dn, ¬ ((i : Nat) : Int) ∈ [w.1, w.2.1] → leftQ ways r i = 0) ∧ ∃ x4 x5 x6, ρ = [.d (netD n ways wares), .d (flowD rs), .d (wD w), .d (rowD r), x4, x5, x6]) ⟨by simp, _, _, _, rfl⟩ ?_ ?_
    · rintro dn i lf ρ N2 e2 ⟨h2, x4, x5, x6, rfl⟩ hN2
      have hi : i < n.toNat := List.mem_range.mp (by rw [← e2]; simp)
      simp [and_assoc]
      refine ⟨notwhole3, [w.1, w.2.1], rfl, ?_⟩
      by_cases hp : (i : Int) ∈ [w.1, w.2.1]
      · simp [hp]
        refine hN2 _ ⟨fun j hj hc => ?_, _, _, _, rfl⟩
        rcases List.mem_append.mp hj with z | z
        · exact h2 j z hc
        · rw [List.mem_singleton.mp z] at hc
          exact absurd hp hc
      · simp [hp]
        refine ⟨n, ways, wares, r, i, m, b, rfl, hf.sm lw hr, by omega, ?_⟩
        simp [fr_zero]
        by_cases hz : leftQ ways r i = 0
        · simp [hz]
          refine hN2 _ ⟨fun j hj hc => ?_, _, _, _, rfl⟩
          rcases List.mem_append.mp hj with z | z
          · exact h2 j z hc
          · rw [List.mem_singleton.mp z]
            exact hz
        · have hg : goB n ways wares rs = false := by
            unfold goB
            rw [any_mid e (rowBad_any hi hp hz)]
            rfl
          rw [hg] at h
          simpa [hz] using h
    · rintro ρ ⟨h2, x4, x5, x6, rfl⟩
      have hb : rowBad n ways (w, r) = false := rowBad_none fun i hi hc => h2 i (List.mem_range.mpr hi) hc
      exact hN _ ⟨by simp [h1, hb], _, _, _, _, _, rfl⟩
  · rintro ρ ⟨h1, x2, x3, x4, x5, x6, rfl⟩
    simp [netD, flowD, and_assoc, enum_map]
    refine for_E (fun done left ρ => done.any (capBad rs) = false ∧ ∃ x2 x3 x4 x5 x6, ρ = [.d (netD n ways wares), .d (flowD rs), x2, x3, x4, x5, x6]) ⟨rfl, _, _, _, _, _, rfl⟩ ?_ ?_
    · rintro done ⟨w, i⟩ left ρ N e ⟨h2, x2, x3, x4, x5, x6, rfl⟩ hN
      have hw := zipIdx_lt (x := (w, i)) (l := ways) (by rw [← e]; simp)
      have hlr := hf.len
      simp [flowD, and_assoc]
      refine ⟨by omega, lc_mapE (fun r => fr (r[i]?.getD 0)) (fun r hr Q q => ?_) ?_⟩
      · have := hf.row r hr
        have hi : i < r.length := by have := hw.1; omega
        simp [rowD]
        rw [atI_of (n := i) (a := fr (r[i]?.getD 0)) (by rw [List.getElem?_map, List.getElem?_eq_getElem hi]; rfl)]
        simpa using q
      · have em : rs.map (fun r => fr (r[i]?.getD 0)) = (rs.map fun r => r[i]?.getD 0).map fr := by
          rw [List.map_map]
          rfl
        rw [em]
        refine total_at (hf.col l3 i hw.1) ?_
        rw [fr_int, sp__law_under_at]
        refine ⟨hn.cap hw.2, (hf.col l3 i hw.1).sum, ?_⟩
        simp
        cases hb : capBad rs (w, i) with
        | true =>
          have hg : goB n ways wares rs = false := by
            unfold goB
            rw [any_mid e hb]
            simp
          rw [hg] at h
          have hb' : (w.2.2 : Rat) < (rs.map fun r => r[i]?.getD 0).sum := of_decide_eq_true hb
          simpa [hb'] using h
        | false =>
          have hb' : ¬ (w.2.2 : Rat) < (rs.map fun r => r[i]?.getD 0).sum := of_decide_eq_false hb
          simp [hb']
          exact hN _ ⟨by simp [h2, hb], _, _, _, _, _, rfl⟩
    · rintro ρ ⟨h2, x2, x3, x4, x5, x6, rfl⟩
      simpa [goB, h1, h2] using h
def sp__law_brought : Spc := sp_brought_by
theorem len__law_brought : ∀ ds Q Z, sp__law_brought ds Q Z → ds.length = 2 := len_brought_by
def g__law_brought : DS := (dRet (dFz (dLc (dZip (dCons (dOp ixD (dVar 0) (dC (.int 2))) (dCons (dVar 1) dNil))) (gdTup 2 (gdCons (gdName 2) (gdCons (gdName 3) gdNil))) dYes (dCall sp__law_net_at (dCons (dVar 0) (dCons (dVar 3) (dCons (dOp ixD (dVar 2) (dC (.int 1))) dNil)))) [2, 3])))
theorem pure__law_brought : ∀ ds Q Z, sp__law_brought ds Q Z → g__law_brought { nx := fun _ => Q .non, rt := Q } (startS ["_law_net_here", "_law_flow_here", "_law_ware", "_law_row"] ds) := by
  rintro ds Q Z ⟨n, ways, wares, rs, m, b, rfl, hn, hf, h⟩
  have lw := hn.lw
  have l3 := hn.l3
  simp [g__law_brought, netD, flowD, and_assoc, zipD_map]
  refine ⟨by omega, lc_mapE (fun x => fr (leftQ ways x.2 x.1.2.1)) (fun x hx Q q => ?_) ?_⟩
  · have hr : x.2 ∈ rs := (List.of_mem_zip (a := x.1) (b := x.2) hx).2
    simp [and_assoc]
    exact ⟨n, ways, wares, x.2, x.1.2.1, m, b, rfl, hf.sm lw hr, by omega, q⟩
  · simpa [brL, Function.comp_def] using h
end Dy

/-! # The law's drawn nets and flows. -/
namespace Dy
variable [Tn]
open PySem PySem.Spec PyProof.Rows L2
/-- a way that may stand in a net of n places -/
def WOk (n : Int) (w : W3) : Prop := 0 ≤ w.1 ∧ w.1 < n ∧ 0 ≤ w.2.1 ∧ w.2.1 < n ∧ w.1 ≠ w.2.1 ∧ 1 ≤ w.2.2 ∧ w.2.2 ≤ 20
def Bef (v w : W3) : Prop := v.1 < w.1 ∨ (v.1 = w.1 ∧ v.2.1 < w.2.1)
theorem bef_lex {v w : W3} (h : Bef v w) : HT.lexLt (keyD (wD v)) (keyD (wD w)) = true := by
  simp only [wD, keyD]
  rcases h with h | ⟨h1, h2⟩
  · rw [HT.lexLt_cons, if_neg (by omega)]
    simpa using h
  · rw [HT.lexLt_cons, if_pos h1, HT.lexLt_cons, if_neg (by omega)]
    simpa using h2
theorem sortB_of : ∀ {l : List W3}, l.Pairwise Bef → sortB (l.map wD) = true
  | [], _ => rfl
  | [_], _ => rfl
  | x :: y :: l, h => by
    have ih := sortB_of (l := y :: l) (List.Pairwise.of_cons h)
    have h1 : Bef x y := (List.pairwise_cons.mp h).1 y (by simp)
    simp only [sortB, List.map_cons, List.drop_succ_cons, List.drop_zero, List.zipWith_cons_cons, List.all_cons, id] at ih ⊢
    rw [bef_lex h1, ih]
    rfl
def sp__law_net : Spc := fun ds Q _ => ∃ more : Nat, ds = [.int more] ∧ ∀ n ways wares, Net n ways wares → n ≤ 5 → ways.length ≤ 8 → ways.Pairwise Bef → Q (netD n ways wares)
theorem len__law_net : ∀ ds Q Z, sp__law_net ds Q Z → ds.length = 1 := len1 (fun ds Q Z ⟨_, e, _⟩ => ⟨_, e⟩)
theorem drawn_at {c : Int} {k : Nat} {Q : D → Prop} {Z : Addr → Prop} (h : ∀ v : Nat, Q (.int v)) : sp__law_drawn [.int c, .int k] Q Z := ⟨c, k, rfl, fun v _ => h v⟩
theorem drawn_atI {c k : Int} {Q : D → Prop} {Z : Addr → Prop} (hk : 0 ≤ k) (h : ∀ v : Nat, Q (.int v)) : sp__law_drawn [.int c, .int k] Q Z := by
  obtain ⟨m, rfl⟩ := Int.eq_ofNat_of_zero_le hk
  exact drawn_at h
theorem mod_other {a t n : Int} (h0 : 0 ≤ a) (h1 : a < n) (h2 : 0 ≤ t) (h3 : t < n - 1) : (a + 1 + t) % n ≠ a := by
  by_cases h : a + 1 + t < n
  · rw [Int.emod_eq_of_lt (by omega) h]
    omega
  · have e : (a + 1 + t) % n = a + 1 + t - n := by
      rw [← Int.sub_emod_right, Int.emod_eq_of_lt (by omega) (by omega)]
    omega
theorem divC {i j : Int} (h0 : 0 < j) (h1 : j < 1000000) : CDivW i j := divSm h0 (small_lt (by omega))
theorem pairwise_snoc {l : List W3} {x : W3} (h : l.Pairwise Bef) (hx : ∀ y ∈ l, Bef y x) : (l ++ [x]).Pairwise Bef := by
  rw [List.pairwise_append]
  exact ⟨h, by simp, fun a ha b hb => by rw [List.mem_singleton.mp hb]; exact hx a ha⟩
def g__law_net : DS := (dSeq2 (dSet 1 (dOp addD (dC (.int 2)) (dOp modD (dVar 0) (dC (.int 4)))))
    (dSeq2 (dSetL 2 (dLstL dNil))
    (dSeq2 (dFor (dRng1 (dCons (dVar 1) dNil)) (gdName 3)
    (dFor (dRng1 (dCons (dVar 1) dNil)) (gdName 4)
    (dSeq2 (dSet 5 (dCall sp__law_drawn (dCons (dVar 0) (dCons (dOp addD (dOp mulD (dC (.int 8)) (dVar 3)) (dVar 4)) dNil))))
    (dIf (dAndT (dTest (dOp neD (dVar 3) (dVar 4))) (dAndT (dTest (dOp ltD (dOp modD (dVar 5) (dC (.int 5))) (dOp addD (dC (.int 2)) (dOp modD (dOp fdivD (dVar 0) (dC (.int 8))) (dC (.int 3)))))) (dTest (dOp ltD (dLenOwn 2) (dC (.int 8))))))
    (dApp 2 (dTup (dCons (dVar 3) (dCons (dVar 4) (dCons (dOp addD (dC (.int 1)) (dOp modD (dOp fdivD (dVar 5) (dC (.int 64))) (dOp ixD (dLst (dCons (dC (.int 3)) (dCons (dC (.int 20)) dNil))) (dOp modD (dOp fdivD (dVar 0) (dC (.int 64))) (dC (.int 2)))))) dNil)))))
    dSkip))))
    (dSeq2 (dSetL 6 (dLstL dNil))
    (dSeq2 (dFor (dRng1 (dCons (dOp addD (dC (.int 1)) (dOp modD (dOp fdivD (dVar 0) (dC (.int 256))) (dC (.int 3)))) dNil)) (gdName 7)
    (dSeq2 (dSet 5 (dCall sp__law_drawn (dCons (dVar 0) (dCons (dOp addD (dC (.int 70)) (dVar 7)) dNil))))
    (dSeq2 (dSet 8 (dOp modD (dVar 5) (dVar 1)))
    (dApp 6 (dTup (dCons (dVar 8) (dCons (dOp modD (dOp addD (dOp addD (dVar 8) (dC (.int 1))) (dOp modD (dOp fdivD (dVar 5) (dC (.int 8))) (dOp subD (dVar 1) (dC (.int 1))))) (dVar 1)) (dCons (dOp addD (dC (.int 1)) (dOp modD (dOp fdivD (dVar 5) (dC (.int 64))) (dC (.int 9)))) dNil))))))))
    (dFrz 2 (dFrz 6 (dRet (dTup (dCons (dVar 1) (dCons (dVar 2) (dCons (dVar 6) dNil))))))))))))
theorem pure__law_net : ∀ ds Q Z, sp__law_net ds Q Z → g__law_net { nx := fun _ => Q .non, rt := Q } (startS ["_law_more", "_law_places", "_law_ways", "_law_one", "_law_other", "_law_here", "_law_wares", "_law_j", "_law_first"] ds) := by
  rintro ds Q Z ⟨more, rfl, h⟩
  simp [g__law_net, and_assoc]
  generalize hn : (2 : Int) + (more : Int) % 4 = n
  have n2 : 2 ≤ n := by omega
  have n5 : n ≤ 5 := by omega
  refine ⟨by omega, by omega, ?_⟩
  refine for_E (fun done left ρ => ∃ (ws : List W3) (x3 x4 x5 x6 x7 x8 : Sl), ρ = [.d (.int more), .d (.int n), .own (.lst (ws.map wD)), x3, x4, x5, x6, x7, x8] ∧ ws.Pairwise Bef ∧ ws.length ≤ 8 ∧ ∀ w ∈ ws, WOk n w ∧ w.1 < done.length) ⟨[], _, _, _, _, _, _, rfl, .nil, by simp, by simp⟩ ?_ ?_
  · rintro done i left ρ N e ⟨ws, x3, x4, x5, x6, x7, x8, rfl, hp, hl, hw⟩ hN
    have hi : i < n.toNat := List.mem_range.mp (by rw [← e]; simp)
    have ed : done.length = i := by
      have h1 : (List.range n.toNat)[done.length]? = some i := by rw [← e]; simp
      rw [List.getElem?_range (by have := congrArg List.length e; simp at this; omega)] at h1
      exact Option.some.inj h1
    simp [and_assoc]
    refine ⟨by omega, by omega, ?_⟩
    refine for_E (fun dn lf ρ => ∃ (ws : List W3) (x4 x5 x6 x7 x8 : Sl), ρ = [.d (.int more), .d (.int n), .own (.lst (ws.map wD)), .d (.int i), x4, x5, x6, x7, x8] ∧ ws.Pairwise Bef ∧ ws.length ≤ 8 ∧ ∀ w ∈ ws, WOk n w ∧ (w.1 < i ∨ (w.1 = i ∧ w.2.1 < dn.length))) ⟨ws, _, _, _, _, _, rfl, hp, hl, fun w hw' => ⟨(hw w hw').1, .inl (by have := (hw w hw').2; omega)⟩⟩ ?_ ?_
    · rintro dn j lf ρ N2 e2 ⟨ws, x4, x5, x6, x7, x8, rfl, hp, hl, hw⟩ hN2
      have hj : j < n.toNat := List.mem_range.mp (by rw [← e2]; simp)
      have ej : dn.length = j := by
        have h1 : (List.range n.toNat)[dn.length]? = some j := by rw [← e2]; simp
        rw [List.getElem?_range (by have := congrArg List.length e2; simp at this; omega)] at h1
        exact Option.some.inj h1
      have keep : ∀ x5 : Sl, N2 [.d (.int more), .d (.int n), .own (.lst (ws.map wD)), .d (.int i), .d (.int j), x5, x6, x7, x8] := fun x5 => hN2 _ ⟨ws, _, _, _, _, _, rfl, hp, hl, fun w hw' => ⟨(hw w hw').1, by
        rcases (hw w hw').2 with z | ⟨z1, z2⟩
        · exact .inl z
        · exact .inr ⟨z1, by rw [List.length_append]; simp; omega⟩⟩⟩
      simp [and_assoc]
      refine ⟨mulR (by omega) (by omega), drawn_atI (by omega) fun v => ?_⟩
      simp
      by_cases hij : (i : Int) = j
      · rw [if_pos hij]
        exact keep _
      · rw [if_neg hij]
        refine ⟨divC (by decide) (by decide), ?_⟩
        split
        · split
          · rename_i hl8
            refine ⟨by omega, divC (by decide) (by decide), divC (by decide) (by decide), ?_⟩
            have put : ∀ c : Int, 1 ≤ c → c ≤ 20 → N2 [.d (.int more), .d (.int n), .own (.lst (ws.map wD ++ [.tup [.int i, .int j, .int c]])), .d (.int i), .d (.int j), .d (.int v), x6, x7, x8] := fun c c1 c2 => by
              refine hN2 _ ⟨ws ++ [((i : Int), (j : Int), c)], _, _, _, _, _, by rw [List.map_append]; rfl, pairwise_snoc hp fun y hy => ?_, by rw [List.length_append]; simp; omega, fun w hw' => ?_⟩
              · have := (hw y hy).2
                rw [ej] at this
                exact this
              · rcases List.mem_append.mp hw' with z | z
                · have := (hw w z).2
                  exact ⟨(hw w z).1, by rw [List.length_append]; simp; omega⟩
                · rw [List.mem_singleton.mp z]
                  exact ⟨⟨by show (0 : Int) ≤ i; omega, by show (i : Int) < n; omega, by show (0 : Int) ≤ j; omega, by show (j : Int) < n; omega, hij, c1, c2⟩, .inr ⟨rfl, by rw [List.length_append, ej]; show (j : Int) < _; simp; omega⟩⟩
            rcases (show (more : Int) / 64 % 2 = 0 ∨ (more : Int) / 64 % 2 = 1 by omega) with z | z
            · rw [z]
              refine ⟨_, atI0 _ _, by decide, put _ ?_ ?_⟩ <;> omega
            · rw [z]
              refine ⟨_, atI1 _ _ _, by decide, put _ ?_ ?_⟩ <;> omega
          · exact keep _
        · exact keep _
    · rintro ρ ⟨ws, x4, x5, x6, x7, x8, rfl, hp, hl, hw⟩
      exact hN _ ⟨ws, _, _, _, _, _, _, rfl, hp, hl, fun w hw' => ⟨(hw w hw').1, by
        have := (hw w hw').2
        have := (hw w hw').1
        rw [List.length_append]
        simp
        omega⟩⟩
  · rintro ρ ⟨ws, x3, x4, x5, x6, x7, x8, rfl, hp, hl, hw⟩
    simp [and_assoc]
    refine ⟨divC (by decide) (by decide), by omega, by omega, ?_⟩
    have hk : (1 + (more : Int) / 256 % 3).toNat ≤ 3 ∧ 1 ≤ (1 + (more : Int) / 256 % 3).toNat := by omega
    refine for_E (fun done left ρ => ∃ (vs : List W3) (x3 x4 x5 x7 x8 : Sl), ρ = [.d (.int more), .d (.int n), .own (.lst (ws.map wD)), x3, x4, x5, .own (.lst (vs.map wD)), x7, x8] ∧ vs.length = done.length ∧ ∀ w ∈ vs, WOk n w) ⟨[], _, _, _, _, _, rfl, rfl, by simp⟩ ?_ ?_
    · rintro done j left ρ N e ⟨vs, x3, x4, x5, x7, x8, rfl, hv, hw2⟩ hN
      have hd : done.length ≤ 3 := by have := congrArg List.length e; simp at this; omega
      simp [and_assoc]
      refine drawn_atI (by omega) fun v => ?_
      simp [and_assoc]
      refine ⟨by omega, by omega, divC (by decide) (by decide), by omega, by omega, divC (by decide) (by decide), ?_⟩
      refine hN _ ⟨vs ++ [((v : Int) % n, ((v : Int) % n + 1 + (v : Int) / 8 % (n - 1)) % n, 1 + (v : Int) / 64 % 9)], _, _, _, _, _, by rw [List.map_append]; rfl, by rw [List.length_append, List.length_append, hv]; rfl, fun w hw' => ?_⟩
      rcases List.mem_append.mp hw' with z | z
      · exact hw2 w z
      · rw [List.mem_singleton.mp z]
        have a1 := Int.emod_nonneg (v : Int) (show n ≠ 0 by omega)
        have a2 := Int.emod_lt_of_pos (v : Int) (show 0 < n by omega)
        have t1 := Int.emod_nonneg ((v : Int) / 8) (show n - 1 ≠ 0 by omega)
        have t2 := Int.emod_lt_of_pos ((v : Int) / 8) (show 0 < n - 1 by omega)
        exact ⟨a1, a2, Int.emod_nonneg _ (by omega), Int.emod_lt_of_pos _ (by omega), fun z => mod_other a1 a2 t1 t2 z.symm, by show (1 : Int) ≤ 1 + (v : Int) / 64 % 9; omega, by show (1 : Int) + (v : Int) / 64 % 9 ≤ 20; omega⟩
    · rintro ρ ⟨vs, x3, x4, x5, x7, x8, rfl, hv, hw2⟩
      simp [OB.frz]
      rw [List.length_range] at hv
      refine h n ws vs ⟨n2, by omega, by omega, by omega, by omega, fun w hw' => ?_, sortB_of hp⟩ n5 hl hp
      rcases List.mem_append.mp hw' with z | z
      · exact (hw w z).1
      · exact hw2 w z
end Dy

/-! # The law's rows and flows. -/
namespace Dy
variable [Tn]
open PySem PySem.Spec PyProof.Rows L2
theorem nodup_le : ∀ (n : Nat) (l : List Int), l.Nodup → (∀ x ∈ l, 0 ≤ x ∧ x < n) → l.length ≤ n
  | 0, [], _, _ => Nat.le_refl _
  | 0, x :: l, _, h => by have := h x (by simp); omega
  | n + 1, l, hd, h => by
    by_cases hm : (n : Int) ∈ l
    · have h1 := nodup_le n (l.erase n) (hd.erase _) fun x hx => by
        have hx2 := (hd.mem_erase_iff).mp hx
        have := h x hx2.2
        have := hx2.1
        omega
      rw [List.length_erase_of_mem hm] at h1
      omega
    · have h1 := nodup_le n l hd fun x hx => by
        have := h x hx
        have : x ≠ n := fun z => hm (z ▸ hx)
        omega
      omega
@[simp] def rowI (r : List Nat) : D := .lst (r.map fun i => .int (i : Nat))
/-- rows of at most d steps -/
def rowsS (d : Nat) : Spc := fun ds Q _ => ∃ (n : Int) (ways wares : List W3) (first goal : Int) (gone : List Int), ds = [netD n ways wares, .int first, .int goal, .lst (gone.map .int)] ∧ (∀ w ∈ ways, WOk n w) ∧ ways.length ≤ 8 ∧ gone.Nodup ∧ (∀ x ∈ gone, 0 ≤ x ∧ x < n) ∧ n.toNat ≤ d + gone.length ∧ n ≤ 5 ∧
  ∀ rs : List (List Nat), (∀ r ∈ rs, r.length ≤ d ∧ ∀ i ∈ r, i < ways.length) → rs.length ≤ 8 ^ d → Q (.lst (rs.map rowI))
theorem len_rowsS (d : Nat) : ∀ ds Q Z, rowsS d ds Q Z → ds.length = 4 := len4 (fun ds Q Z ⟨_, _, _, _, _, _, e, _⟩ => ⟨_, _, _, _, e⟩)
def g__law_rows (self : Spc) : DS := (dSeq2 (dIf (dTest (dOp eqD (dVar 1) (dVar 2)))
    (dRet (dLst (dCons (dLst dNil) dNil)))
    dSkip)
    (dSeq2 (dSet 4 (dLst dNil))
    (dSeq2 (dFor (dEnum (dCons (dOp ixD (dVar 0) (dC (.int 1))) dNil)) (gdTup 2 (gdCons (gdName 5) (gdCons (gdName 6) gdNil)))
    (dIf (dAndT (dTest (dOp eqD (dOp ixD (dVar 6) (dC (.int 0))) (dVar 1))) (dTest (dOp (inD true) (dOp ixD (dVar 6) (dC (.int 1))) (dVar 3))))
    (dSet 4 (dOp addD (dVar 4) (dFz (dLc (dSeq (dCall self (dCons (dVar 0) (dCons (dOp ixD (dVar 6) (dC (.int 1))) (dCons (dVar 2) (dCons (dOp addD (dVar 3) (dLst (dCons (dOp ixD (dVar 6) (dC (.int 1))) dNil))) dNil)))))) (gdName 7) dYes (dOp addD (dLst (dCons (dVar 5) dNil)) (dVar 7)) [7]))))
    dSkip))
    (dRet (dVar 4)))))
/-- the spec of the calls within -/
def rowsP : Nat → Spc
  | 0 => fun _ _ _ => False
  | d + 1 => rowsS d
theorem inD_ints {i : Int} {ns : List Int} {neg : Bool} {P : D → Prop} (h : P (.bl (if neg then !decide (i ∈ ns) else decide (i ∈ ns)))) : inD neg (.int i) (.lst (ns.map .int)) P := ⟨i, ns, rfl, .inl rfl, h⟩
theorem pure_rows (d : Nat) (hd5 : d ≤ 5) : ∀ ds Q Z, rowsS d ds Q Z → g__law_rows (rowsP d) { nx := fun _ => Q .non, rt := Q } (startS ["_law_net_here", "_law_first", "_law_goal", "_law_gone", "_law_found", "_law_at", "_law_way", "_law_row"] ds) := by
  rintro ds Q Z ⟨n, ways, wares, first, goal, gone, rfl, hw, hl, hnd, hg, hn, hn5, h⟩
  have hpow : 8 ^ d ≤ 32768 := Nat.le_trans (Nat.pow_le_pow_right (by decide) hd5) (by decide)
  have hpow0 : 1 ≤ 8 ^ d := Nat.one_le_pow _ _ (by decide)
  simp [g__law_rows, netD, and_assoc]
  by_cases hfg : first = goal
  · simp [hfg]
    exact h [[]] (by simp) (by simpa using hpow0)
  · simp [hfg, enum_map]
    refine for_E (fun done left ρ => ∃ (rs : List (List Nat)) (x5 x6 x7 : Sl), ρ = [.d (netD n ways wares), .d (.int first), .d (.int goal), .d (.lst (gone.map .int)), .d (.lst (rs.map rowI)), x5, x6, x7] ∧ (∀ r ∈ rs, r.length ≤ d ∧ ∀ i ∈ r, i < ways.length) ∧ 8 * rs.length ≤ done.length * 8 ^ d) ⟨[], _, _, _, rfl, by simp, by simp⟩ ?_ ?_
    · rintro done ⟨w, i⟩ left ρ N e ⟨rs, x5, x6, x7, rfl, hr, hlr⟩ hN
      have hwi := zipIdx_lt (x := (w, i)) (l := ways) (by rw [← e]; simp)
      have hdl : done.length < ways.length := by have := congrArg List.length e; simp at this; omega
      have keep : ∀ x5 x6 : Sl, N [.d (netD n ways wares), .d (.int first), .d (.int goal), .d (.lst (gone.map .int)), .d (.lst (rs.map rowI)), x5, x6, x7] := fun x5 x6 => hN _ ⟨rs, _, _, _, rfl, hr, by
        rw [List.length_append, Nat.add_mul]
        omega⟩
      simp [netD, and_assoc]
      by_cases hf : w.1 = first
      · rw [if_pos hf]
        by_cases hm : w.2.1 ∈ gone
        · refine ⟨gone, rfl, ?_⟩
          simpa [hm, netD] using keep _ _
        · refine ⟨gone, rfl, ?_⟩
          simp [hm]
          have hwk := hw w hwi.2
          have hgn : (gone ++ [w.2.1]).Nodup := by
            rw [List.nodup_append]
            exact ⟨hnd, by simp, fun a ha b hb z => hm (by rw [List.mem_singleton.mp hb] at z; exact z ▸ ha)⟩
          have hgb : ∀ x ∈ gone ++ [w.2.1], 0 ≤ x ∧ x < n := fun x hx => by
            rcases List.mem_append.mp hx with z | z
            · exact hg x z
            · rw [List.mem_singleton.mp z]
              exact ⟨hwk.2.2.1, hwk.2.2.2.1⟩
          have hgl := nodup_le n.toNat _ hgn fun x hx => by have := hgb x hx; omega
          rw [List.length_append, List.length_singleton] at hgl
          cases d with
          | zero => omega
          | succ d =>
            refine .inl ⟨by omega, ⟨n, ways, wares, w.2.1, goal, gone ++ [w.2.1], by simp [netD], hw, hl, hgn, hgb, by rw [List.length_append, List.length_singleton]; omega, hn5, fun rs2 hr2 hl2 => ?_⟩⟩
            rw [Nat.pow_succ] at hpow hlr
            have hd8 : done.length * (8 ^ d * 8) ≤ 8 * (8 ^ d * 8) := Nat.mul_le_mul_right _ (by omega)
            refine ⟨_, rfl, by simp; omega, lc_mapE (fun r : List Nat => rowI (i :: r)) (fun r hr Q q => ?_) ⟨by simp; omega, ?_⟩⟩
            · have := (hr2 r hr).1
              simp
              exact ⟨by omega, by simpa using q⟩
            · have e3 : rs.map rowI ++ rs2.map (fun r => rowI (i :: r)) = (rs ++ rs2.map fun r => i :: r).map rowI := by
                rw [List.map_append, List.map_map]
                rfl
              rw [e3]
              refine hN _ ⟨rs ++ rs2.map (fun r => i :: r), _, _, _, rfl, fun r hr' => ?_, ?_⟩
              · rcases List.mem_append.mp hr' with z | z
                · exact hr r z
                · obtain ⟨r2, h2, rfl⟩ := List.mem_map.mp z
                  have := hr2 r2 h2
                  refine ⟨by simp; omega, fun k hk => ?_⟩
                  rcases List.mem_cons.mp hk with rfl | hk
                  · exact hwi.1
                  · exact this.2 k hk
              · rw [List.length_append, List.length_append, List.length_map, Nat.add_mul, Nat.pow_succ]
                simp
                omega
      · rw [if_neg hf]
        exact keep _ _
    · rintro ρ ⟨rs, x5, x6, x7, rfl, hr, hlr⟩
      simp
      refine h rs hr ?_
      rw [List.length_zipIdx] at hlr
      have : ways.length * 8 ^ d ≤ 8 * 8 ^ d := Nat.mul_le_mul_right _ hl
      omega
end Dy

/-! # The law's flows. -/
namespace Dy
variable [Tn]
open PySem PySem.Spec PyProof.Rows L2
def sp__law_rows : Spc := rowsS 5
def sp__law_flow : Spc := fun ds Q _ => ∃ (n : Int) (ways wares : List W3) (more : Int), ds = [netD n ways wares, .int more] ∧ Net n ways wares ∧ n ≤ 5 ∧ ways.length ≤ 8 ∧
  ∀ rs : List (List Rat), rs.length = wares.length → (∀ r ∈ rs, r.length = ways.length ∧ ∀ q ∈ r, 0 ≤ q ∧ Lat 6 300 q) → Q (flowD rs)
theorem len__law_flow : ∀ ds Q Z, sp__law_flow ds Q Z → ds.length = 2 := len2 (fun ds Q Z ⟨_, _, _, _, e, _⟩ => ⟨_, _, e⟩)
def g__law_flow : DS := (dSeq2 (dSetL 2 (dLstL dNil))
    (dSeq2 (dFor (dEnum (dCons (dOp ixD (dVar 0) (dC (.int 2))) dNil)) (gdTup 2 (gdCons (gdName 3) (gdCons (gdName 4) gdNil)))
    (dSeq2 (dSetL 5 (dRepL (dLst (dCons (dTup (dCons (dC (.int 0)) (dCons (dC (.int 1)) dNil))) dNil)) (dCB lenD (dCons (dOp ixD (dVar 0) (dC (.int 1))) dNil))))
    (dSeq2 (dSet 6 (dCall sp__law_rows (dCons (dVar 0) (dCons (dOp ixD (dVar 4) (dC (.int 0))) (dCons (dOp ixD (dVar 4) (dC (.int 1))) (dCons (dLst (dCons (dOp ixD (dVar 4) (dC (.int 0))) dNil)) dNil))))))
    (dSeq2 (dSet 7 (dCall sp__law_drawn (dCons (dVar 1) (dCons (dVar 3) dNil))))
    (dSeq2 (dIf (dTest (dOp neD (dVar 6) (dLst dNil)))
    (dSeq2 (dSet 8 (dCall sp__law_made (dCons (dOp modD (dVar 7) (dC (.int 7))) (dCons (dOp addD (dC (.int 1)) (dOp modD (dOp fdivD (dVar 7) (dC (.int 8))) (dC (.int 3)))) dNil))))
    (dFor (dSeq (dOp ixD (dVar 6) (dOp modD (dOp fdivD (dVar 7) (dC (.int 64))) (dCB lenD (dCons (dVar 6) dNil))))) (gdName 9)
    (dPut 5 (dVar 9) (dCall sp__law_plus (dCons (dIxOwn 5 (dVar 9)) (dCons (dVar 8) dNil))))))
    dSkip)
    (dSeq2 (dIf (dAndT (dTest (dOp eqD (dOp modD (dOp fdivD (dVar 7) (dC (.int 512))) (dC (.int 4))) (dC (.int 0)))) (dTest (dNeNil 5)))
    (dSeq2 (dSet 9 (dOp modD (dOp fdivD (dVar 7) (dC (.int 2048))) (dLenOwn 5)))
    (dPut 5 (dVar 9) (dCall sp__law_plus (dCons (dIxOwn 5 (dVar 9)) (dCons (dTup (dCons (dC (.int 1)) (dCons (dC (.int 2)) dNil))) dNil)))))
    dSkip)
    (dFrz 5 (dApp 2 (dVar 5)))))))))
    (dFrz 2 (dRet (dVar 2)))))
theorem ixN_at {n j : Nat} (hj : j < n) : ixN n (j : Int) = some j := by
  unfold ixN
  rw [if_pos (by omega), if_pos (by omega), Int.toNat_natCast]
def flowTail : DS := (dSeq2 (dIf (dAndT (dTest (dOp eqD (dOp modD (dOp fdivD (dVar 7) (dC (.int 512))) (dC (.int 4))) (dC (.int 0)))) (dTest (dNeNil 5)))
    (dSeq2 (dSet 9 (dOp modD (dOp fdivD (dVar 7) (dC (.int 2048))) (dLenOwn 5)))
    (dPut 5 (dVar 9) (dCall sp__law_plus (dCons (dIxOwn 5 (dVar 9)) (dCons (dTup (dCons (dC (.int 1)) (dCons (dC (.int 2)) dNil))) dNil)))))
    dSkip)
    (dFrz 5 (dApp 2 (dVar 5))))
/-- a row under way -/
def RowOk (k b : Nat) (r : List Rat) : Prop := r.length = k ∧ ∀ q ∈ r, 0 ≤ q ∧ Lat 6 b q
theorem RowOk.set {k b c : Nat} {r : List Rat} {i : Nat} {q : Rat} (h : RowOk k b r) (h0 : 0 ≤ q) (hq : Lat 6 c q) (hc : b ≤ c) : RowOk k c (r.set i q) := by
  refine ⟨by rw [List.length_set]; exact h.1, fun x hx => ?_⟩
  rcases List.mem_or_eq_of_mem_set hx with z | rfl
  · exact ⟨(h.2 x z).1, (h.2 x z).2.mono hc⟩
  · exact ⟨h0, hq⟩
theorem lat6_sz {b : Nat} {q : Rat} (h : Lat 6 b q) (hb : b ≤ 1000) : Sz q := h.sz (by rw [bD_eq]; exact Nat.lt_of_lt_of_le (by decide : 6 < 2 ^ 3) (Nat.pow_le_pow_right (by decide) (by decide))) (by rw [bN_eq]; exact Nat.lt_of_le_of_lt hb (Nat.lt_of_lt_of_le (by decide : 1000 < 2 ^ 10) (Nat.pow_le_pow_right (by decide) (by decide))))
theorem fr_half : D.tup [.int 1, .int 2] = fr (mkRat 1 2) := by rfl
theorem lat_half : Lat 6 3 (mkRat 1 2) := ⟨by decide, 3, by rfl, by decide⟩
theorem half_pos : (0 : Rat) ≤ mkRat 1 2 := by decide
theorem flow_tail {G : DEnds} {p0 p1 p3 p4 p6 : Sl} {x8 x9 : Sl} {rs : List (List Rat)} {r : List Rat} {v : Nat} {k b : Nat} (hr : RowOk k b r) (hb : b ≤ 290) (hk : k ≤ 10) (hrs : rs.length < 1000)
    (hN : ∀ r' x9, RowOk k (b + 3) r' → G.nx [p0, p1, .own (.lst ((rs ++ [r']).map rowD)), p3, p4, .d (rowD r'), p6, .d (.int v), x8, x9]) : flowTail G [p0, p1, .own (.lst (rs.map rowD)), p3, p4, .own (.lst (r.map fr)), p6, .d (.int v), x8, x9] := by
  have hr' : RowOk k (b + 3) r := ⟨hr.1, fun q hq => ⟨(hr.2 q hq).1, (hr.2 q hq).2.mono (by omega)⟩⟩
  have skip : ∀ x9, rs.length < 1000000 ∧ G.nx [p0, p1, .own (.lst (rs.map rowD ++ [.lst (r.map fr)])), p3, p4, .d (.lst (r.map fr)), p6, .d (.int v), x8, x9] := fun x9 => ⟨by omega, by have := hN r x9 hr'; rw [List.map_append] at this; exact this⟩
  simp [flowTail, and_assoc, OB.frz]
  refine ⟨divC (by decide) (by decide), ?_⟩
  split
  · split
    · exact skip _
    · rename_i hne
      have hp : 0 < r.length := List.length_pos_iff.mpr (by simpa using hne)
      have hi : v / 2048 % r.length < r.length := Nat.mod_lt _ hp
      have e1 : (v : Int) / 2048 % (r.length : Int) = ((v / 2048 % r.length : Nat) : Int) := by simp
      obtain ⟨h0, hl⟩ := hr.2 _ (List.getElem_mem hi)
      refine ⟨divC (by decide) (by decide), by omega, fr (r[v / 2048 % r.length]), ?_, ?_⟩
      · rw [e1]
        exact atI_of (by rw [List.getElem?_map, List.getElem?_eq_getElem hi]; rfl)
      · rw [fr_half, sp__law_plus_at]
        refine ⟨lat6_sz hl (by omega), lat6_sz lat_half (by omega), v / 2048 % r.length, ?_, by omega, ?_⟩
        · rw [e1]
          exact ixN_at hi
        · have := hN (r.set (v / 2048 % r.length) (r[v / 2048 % r.length] + mkRat 1 2)) (.d (.int ((v : Int) / 2048 % (r.length : Int)))) (hr.set (Rat.add_nonneg h0 half_pos) (hl.add lat_half) (by omega))
          rw [List.map_append] at this
          have e2 : rowD (r.set (v / 2048 % r.length) (r[v / 2048 % r.length] + mkRat 1 2)) = .lst ((r.map fr).set (v / 2048 % r.length) (fr (r[v / 2048 % r.length] + mkRat 1 2))) := by
            unfold rowD
            rw [List.map_set]
          simp only [List.map_cons, List.map_nil, e2] at this
          exact this
  · exact skip _
theorem pure__law_flow : ∀ ds Q Z, sp__law_flow ds Q Z → g__law_flow { nx := fun _ => Q .non, rt := Q } (startS ["_law_net_here", "_law_more", "_law_found", "_law_j", "_law_ware", "_law_row", "_law_ways", "_law_here", "_law_much", "_law_at"] ds) := by
  rintro ds Q Z ⟨n, ways, wares, more, rfl, hn, hn5, hl8, h⟩
  simp [g__law_flow, netD, and_assoc, enum_map]
  refine for_E (fun done left ρ => ∃ (rs : List (List Rat)) (x3 x4 x5 x6 x7 x8 x9 : Sl), ρ = [.d (netD n ways wares), .d (.int more), .own (.lst (rs.map rowD)), x3, x4, x5, x6, x7, x8, x9] ∧ rs.length = done.length ∧ (∀ r ∈ rs, r.length = ways.length ∧ ∀ q ∈ r, 0 ≤ q ∧ Lat 6 300 q)) ⟨[], _, _, _, _, _, _, _, rfl, rfl, by simp⟩ ?_ ?_
  · rintro done ⟨w, j⟩ left ρ N e ⟨rs, x3, x4, x5, x6, x7, x8, x9, rfl, hlen, hrs⟩ hN
    have hwj := zipIdx_lt (x := (w, j)) (l := wares) (by rw [← e]; simp)
    have hww := hn.w w (by simp [hwj.2])
    simp [netD, and_assoc]
    refine ⟨by omega, n, ways, wares, w.1, w.2.1, [w.1], by simp [netD], fun v hv => hn.w v (by simp [hv]), hl8, by simp, by simp; omega, by simp; omega, hn5, fun ps hps' hpl => ?_⟩
    have hz : RowOk ways.length 0 (List.replicate ways.length 0) := ⟨by simp, fun q hq => by rw [(List.mem_replicate.mp hq).2]; exact ⟨Rat.le_refl, Lat.zero (by decide) 0⟩⟩
    have hzm : (List.replicate ways.length (0 : Rat)).map fr = List.replicate ways.length (D.tup [.int 0, .int 1]) := by
      rw [List.map_replicate, fr_zero]
    have hdl : done.length < 3 := by have := congrArg List.length e; have := hn.l3; simp at *; omega
    have fin : ∀ b r' x3 x4 x5 x6 x7 x8 x9, b ≤ 297 → RowOk ways.length (b + 3) r' → N [.d (netD n ways wares), .d (.int more), .own (.lst ((rs ++ [r']).map rowD)), x3, x4, x5, x6, x7, x8, x9] := fun b r' x3 x4 x5 x6 x7 x8 x9 hb hr' => by
      refine hN _ ⟨rs ++ [r'], _, _, _, _, _, _, _, rfl, by rw [List.length_append, List.length_append, hlen]; rfl, fun r hr => ?_⟩
      rcases List.mem_append.mp hr with z | z
      · exact hrs r z
      · rw [List.mem_singleton.mp z]
        exact ⟨hr'.1, fun q hq => ⟨(hr'.2 q hq).1, (hr'.2 q hq).2.mono (by omega)⟩⟩
    simp only [dSeq2, dSet, dCall, dCons, dNil, dVar]
    simp
    refine drawn_atI (by omega) fun v => ?_
    by_cases hps : ps = []
    · subst hps
      have := flow_tail (G := { nx := N, rt := Q, bk := fun _ => False, ct := N }) (p0 := .d (netD n ways wares)) (p1 := .d (.int more)) (p3 := .d (.int j)) (p4 := .d (wD w)) (p6 := .d (.lst [])) (x8 := x8) (x9 := x9) (rs := rs) (v := v) hz (by omega) (by omega) (by omega) fun r' x9 hr' => fin 0 r' _ _ _ _ _ _ _ (by omega) hr'
      rw [hzm] at this
      simpa [flowTail, netD] using this
    · simp [hps]
      have hpl0 : 0 < ps.length := List.length_pos_iff.mpr hps
      have hi : v / 64 % ps.length < ps.length := Nat.mod_lt _ hpl0
      have e1 : (v : Int) / 64 % (ps.length : Int) = ((v / 64 % ps.length : Nat) : Int) := by simp
      have e2 : (1 : Int) + (v : Int) / 8 % 3 = ((1 + v / 8 % 3 : Nat) : Int) := by simp
      have e3 : (v : Int) % 7 = ((v % 7 : Nat) : Int) := by simp
      obtain ⟨hq5, hqi⟩ := hps' _ (List.getElem_mem hi)
      refine ⟨divC (by decide) (by decide), ?_⟩
      rw [e2, e3, sp__law_made_at]
      generalize hM : mkRat ((v % 7 : Nat) : Int) (1 + v / 8 % 3) = M
      have hM0 : 0 ≤ M := by
        rw [← hM, ← Rat.num_nonneg, Rat.num_mkRat, if_neg (by omega)]
        exact Int.ediv_nonneg (by omega) (by omega)
      have hML : Lat 6 36 M := by
        rw [← hM]
        have h7 : v % 7 < 7 := Nat.mod_lt _ (by decide)
        rcases (show 1 + v / 8 % 3 = 1 ∨ 1 + v / 8 % 3 = 2 ∨ 1 + v / 8 % 3 = 3 by omega) with z | z | z
        · rw [z]
          exact ⟨by decide, ((v % 7 : Nat) : Int) * 6, by rw [← Rat.mkRat_mul_right (a := 6) (by decide)]; rfl, by omega⟩
        · rw [z]
          exact ⟨by decide, ((v % 7 : Nat) : Int) * 3, by rw [← Rat.mkRat_mul_right (a := 3) (by decide)]; rfl, by omega⟩
        · rw [z]
          exact ⟨by decide, ((v % 7 : Nat) : Int) * 2, by rw [← Rat.mkRat_mul_right (a := 2) (by decide)]; rfl, by omega⟩
      refine ⟨by omega, Nat.lt_of_le_of_lt (show 1 + v / 8 % 3 ≤ 3 by omega) (Nat.lt_of_lt_of_le (by decide : 3 < 2 ^ 2) (Nat.pow_le_pow_right (by decide) (by decide))), .inl ⟨divC (by decide) (by decide), hpl0, rowI ps[v / 64 % ps.length], by rw [e1]; exact atI_of (by rw [List.getElem?_map, List.getElem?_eq_getElem hi]; rfl), _, rfl, ?_⟩⟩
      generalize ps[v / 64 % ps.length] = p at hq5 hqi
      refine for_E (fun dn lf ρ => ∃ (r : List Rat) (x9 : Sl), ρ = [.d (netD n ways wares), .d (.int more), .own (.lst (rs.map rowD)), .d (.int j), .d (wD w), .own (.lst (r.map fr)), .d (.lst (ps.map rowI)), .d (.int v), .d (fr M), x9] ∧ RowOk ways.length (36 * dn.length) r) ⟨_, x9, by rw [hzm]; rfl, hz⟩ ?_ ?_
      · rintro dn i lf ρ N2 e4 ⟨r, x9, rfl, hr⟩ hN2
        have hi5 : i < r.length := by rw [hr.1]; exact hqi i (by rw [← e4]; simp)
        have hdn : dn.length < 5 := by have := congrArg List.length e4; simp at this; omega
        obtain ⟨h0, hl⟩ := hr.2 _ (List.getElem_mem hi5)
        simp
        refine ⟨fr r[i], atI_of (by rw [List.getElem?_map, List.getElem?_eq_getElem hi5]; rfl), ?_⟩
        rw [sp__law_plus_at]
        refine ⟨lat6_sz hl (by omega), lat6_sz hML (by omega), i, ixN_at hi5, hN2 _ ⟨r.set i (r[i] + M), _, by rw [List.map_set]; rfl, ?_⟩⟩
        rw [List.length_append, Nat.mul_add]
        exact hr.set (Rat.add_nonneg h0 hM0) (hl.add hML) (by omega)
      · rintro ρ ⟨r, x9, rfl, hr⟩
        exact flow_tail hr (by omega) (by omega) (by omega) fun r' x9 hr' => fin _ r' _ _ _ _ _ _ _ (by omega) hr'

  · rintro ρ ⟨rs, x3, x4, x5, x6, x7, x8, x9, rfl, hlen, hrs⟩
    simp [OB.frz]
    rw [List.length_zipIdx] at hlen
    exact h rs hlen hrs
end Dy

/-! # A list walked while an exception is handled. -/
namespace Dy
open PySem PySem.Spec PyProof.Rows L2
section
variable {prog : Program} {w : World} {A : Around} {E : Value → Shared → Prop} {s : Shared}
theorem pyNext_list_end_hot {it l x1 : Addr} {i : Nat} {items : Array Value} {Q : Option Value → Shared → Prop} (hot : HotX.HotAt A x1 s.heap) (hit : s.heap.IsListIter it l i) (hl : s.heap.IsList l items) (hx : items[i]? = none) (hne : x1 ≠ it)
    (hQ : ∀ h', Heap.ExtBut it s.heap h' → Q none { s with heap := h' }) : wpAny (model prog w) A (pyNext (.ref it)) Q E s := by
  obtain ⟨o, ho, hc, hd⟩ := id hit
  obtain ⟨ol, hol, _, nl, hdl⟩ := hl
  obtain ⟨hh, o1, vs1, h1, d1, c1⟩ := hot
  unfold pyNext
  refine wpAny_bind (wpAny_attempt (wpAny_callSpecial?_slot (name := Str.ofString "__next__") hit.typeIs slot_listiter_next
    (wpAny_call_entry slot_listiter_next hit.typeIs entry_listiter_next ?_ (args_listiter_next _))))
  show wpAny _ _ (field (.ref it) 0 >>= _) _ _ s
  refine wpAny_bind (wpAny_field ho hd (x := .ref l) rfl ?_)
  show wpAny _ _ (if (Value.ref l == Value.none) = true then _ else _) _ _ s
  rw [if_neg (show ¬ ((Value.ref l == Value.none) = true) from Bool.false_ne_true)]
  show wpAny _ _ (field (.ref it) 1 >>= _) _ _ s
  refine wpAny_bind (wpAny_field ho hd (x := .int i 0) rfl ?_)
  show wpAny _ _ (seqItems? (.ref l) >>= _) _ _ s
  refine wpAny_bind (wpAny_seqItems hol hdl ?_)
  simp only [Int.toNat_natCast, hx]
  refine wpAny_bind (wpAny_rule (wpAny_bind (wpAny_setField ho hd (by simp) ?_)))
  show wpAny _ _ (newExc (.type "StopIteration") [] >>= _) _ _ _
  refine wpAny_bind ?_
  simp only [newExc, newTuple]
  refine wpAny_bind (wpAny_newObj_type ?_ (by size_fits))
  refine wpAny_bind (m := firstArgMember _ _) (wpAny_of_eq (a := Value.none) (by first | rfl | (simp only [firstArgMember]; rfl)) ?_)
  refine wpAny_newObj_type ?_ (by size_fits)
  have k1 : (s.heap.update it (Obj.mapFields (·.setIfInBounds 0 .none))).get? x1 = some o1 := (Heap.get?_update_other _ _ (Ne.symm hne)).trans h1
  refine HotX.raiseNew_hot ⟨hh, o1, vs1, Heap.get?_push_of_some _ (Heap.get?_push_of_some _ k1), d1, c1⟩ (Nat.ne_of_lt (Heap.lt_size (Heap.get?_push_of_some _ k1))) (Heap.get?_push_size _ rfl) rfl (by first | (simp; done) | (simp; omega) | (simp only [Array.size_append]; simp; omega)) ?_
  refine wpAny_bind (wpAny_isInstance (T := "StopIteration") (b := true) ⟨_, Heap.get?_update_self _ (Heap.get?_push_size _ rfl) rfl, rfl⟩ isSubtype_stop ?_)
  refine wpAny_pure (hQ _ fun b o hb e => ?_)
  have e1 : (s.heap.update it (Obj.mapFields (·.setIfInBounds 0 .none))).get? b = some o := (Heap.get?_update_other _ _ (Ne.symm hb)).trans e
  rw [Heap.get?_update_other _ _ (Nat.ne_of_gt (Heap.lt_size (Heap.get?_push_of_some _ e1)))]
  exact Heap.get?_push_of_some _ (Heap.get?_push_of_some _ e1)
/-- the handled exception's object in a heap -/
def HotO (x1 : Addr) (h : Heap) : Prop := ∃ (o : Obj) (vs : Array Value), h.get? x1 = some o ∧ o.data = .fields vs ∧ vs[2]? = some .none
theorem HotO.keep {x1 : Addr} {h h' : Heap} (x : HotO x1 h) (k : ∀ o, h.get? x1 = some o → h'.get? x1 = some o) : HotO x1 h' := by
  obtain ⟨o, vs, e, d, c⟩ := x
  exact ⟨o, vs, k o e, d, c⟩
theorem walks_hot (I ax x1 : Addr) (hh : A.handled = some (.ref x1)) (hne : ax ≠ I) (hn1 : x1 ≠ I) (items : Array Value) :
    Walks prog w A I [I, ax, x1] [I] items.size (fun i v => items[i]? = some v) (fun i h => h.IsListIter I ax i ∧ h.IsList ax items ∧ HotO x1 h) where
  sub := fun b hb => by simp at hb; simp [hb]
  frame := fun _ _ _ st hk => ⟨st.1.at fun o e => hk I (by simp) o e, st.2.1.at fun o e => hk ax (by simp) o e, st.2.2.keep fun o e => hk x1 (by simp) o e⟩
  item := fun i s Q E hi st hQ => by
    refine wpAny_pyNext_list_item st.1 st.2.1 (x := items[i]) (by simp [hi]) fun h' hit' hs' => ?_
    exact hQ _ h' s.toks (by simp [hi]) ⟨hit', st.2.1.extBut hs'.extBut hne, st.2.2.keep fun o e => hs'.extBut _ o hn1 e⟩ fun b o hb e => hs'.extBut b o (fun h => hb (by simp [h])) e
  done := fun s Q E st hQ => by
    obtain ⟨o, vs, e, d, c⟩ := st.2.2
    exact pyNext_list_end_hot ⟨hh, o, vs, e, d, c⟩ st.1 st.2.1 (by simp) hn1 fun h' he' => hQ h' s.toks fun b o hb e => he' b o (fun h => hb (by simp [h])) e
  self := fun _ _ _ _ st hQ => wpAny_pyIter_listiter st.1 hQ
theorem goes_hot {target : Expr} (I ax x1 : Addr) (hh : A.handled = some (.ref x1)) (hne : ax ≠ I) (hn1 : x1 ≠ I) (items : Array Value) :
    Goes prog w A target I [I, ax, x1] [I] items.size (fun i v _ => items[i]? = some v) (fun i h => h.IsListIter I ax i ∧ h.IsList ax items ∧ HotO x1 h) :=
  .ofWalks (walks_hot I ax x1 hh hne hn1 items) fun i v s Q E st q => by
    obtain ⟨o, ho, hc, hd⟩ := st.1
    exact go_of ho hc hd (by decide) q
end
end Dy

/-! # While an exception is handled: [int(y) for y in bools], sum of it. -/
namespace Dy
open PySem PySem.Spec PyProof.Rows L2
theorem lt3 {b N l x : Nat} (h : l < N) (h' : x < N) (hb : b = N ∨ b = l ∨ b = x) : b < N + 1 := by omega
theorem off2 {b N C D : Nat} (hb : b < N ∨ b = C) (hC : N + 1 ≤ C) (hD : N + 1 ≤ D) (h : D ≠ C) (hm : b = D ∨ b = N) : False := by omega
theorem ne3 {b N C : Nat} (hb : b < N + 1) (hC : N + 1 ≤ C) : b ≠ C := by omega
def b01 (b : Bool) : Int := if b then 1 else 0
section
variable {prog : Program} {w : World} {A : Around} {env : Env} {s : Shared}
theorem hot_ints {scope : Scope} {y : Str} {x1 : Addr} {mg mb : Str → Option Value} {iter : Expr} {py p1 p2 p3 pos : Pos} {Q : Value → Shared → Prop} {E : Value → Shared → Prop} {s0 : Shared} (hh : A.handled = some (.ref x1))
    (hfree : ∀ z ∈ scope.names, z.2 ≠ .free) (hcell : ∀ z ∈ scope.names, z.2 ≠ .cell) (hkind : scope.kind = .function) (hnames : ∀ z ∈ scope.names, z.2 = .local → scope.names.lookup z.1 = some .local)
    (hy : scope.names.lookup y = some .local) (hyi : scope.names.lookup ("int" : Str) = some .globalImplicit) (hdy : (y == ("__debug__" : Str)) = false) (hi : mg "int" = none) (hb : mb "int" = some (.type "int"))
    (hit : wpAny (model prog w) A (eval iter env) (fun v s => ∃ (l : Addr) (bs : List Bool), v = .ref l ∧ HotO x1 s.heap ∧ s.heap.Ns env.globals mg ∧ s.heap.Ns env.builtins mb ∧ s.heap.IsList l (bs.map Value.bool).toArray ∧ bs.length ≤ sizeLine ∧
      ∀ D h' tk (vs : List Value), s.heap.objs.size ≤ D → h'.PlainList D vs.toArray → Vals ((bs.map b01).map V.int) vs → (∀ b o, s.heap.get? b = some o → h'.get? b = some o) → Q (.ref D) { s with heap := h', toks := tk }) E s0) (hs : ∀ x, foldedSetIterable iter env x = pure x) :
    wpAny (model prog w) A (eval (.ListComp (.Call (.Name "int" p1) [.Name y p2] [] p3) [⟨.Name y py, iter, [], 0⟩] scope pos) env) Q E s0 := by
  have hclos : closureFor scope env = pure (cloFrom env.cells scope.names []) := closure_ok fun z hz e => absurd e (hfree z hz)
  refine ListComp_goes hclos hcell hkind hnames (wpAny_mono hit (fun v s hv => ?_) fun _ _ z => z) hs
  obtain ⟨l, bs, rfl, hot, hG, hB, hl, hsz, h⟩ := hv
  have hlt : l < s.heap.objs.size := by obtain ⟨o, ho, _⟩ := hl; exact Heap.lt_size ho
  have hlt1 : x1 < s.heap.objs.size := by obtain ⟨o, vs, ho, _⟩ := hot; exact Heap.lt_size ho
  refine wpAny_pyIter_list hl ?_
  refine ⟨_, _, _, _, _, _, rfl, goes_hot s.heap.objs.size l x1 hh (Nat.ne_of_lt hlt) (Nat.ne_of_lt hlt1) _, by simpa using hsz, ⟨⟨_, Heap.get?_push_size _ rfl, rfl, rfl⟩, hl.push _, hot.keep fun o e => Heap.get?_push_of_some _ e⟩, ?_, fun D C s₃ hB3 => ?_⟩
  · intro b hb
    show b < (s.heap.push _).objs.size
    rw [Heap.size_push]
    have hb' : b = s.heap.objs.size ∨ b = l ∨ b = x1 := by simpa using hb
    exact lt3 hlt hlt1 hb'
  obtain ⟨⟨h₃, tk₃, rfl⟩, old, nD, nC, hDC, hnm⟩ := hB3
  have nC' : s.heap.objs.size + 1 ≤ C := by
    have q := nC
    rw [Heap.size_push] at q
    exact q
  have nD' : s.heap.objs.size + 1 ≤ D := by
    have q := nD
    rw [Heap.size_push] at q
    exact q
  generalize hce : compEnvC scope (cloFrom env.cells scope.names []) C env = ce
  have cL : ce.locals = C := by subst hce; rfl
  have cG : ce.globals = env.globals := by subst hce; rfl
  have cB : ce.builtins = env.builtins := by subst hce; rfl
  have cK : ce.scope.kind = .function := by subst hce; exact hkind
  have ky : ce.kindOf y = some .local := by subst hce; exact lookup_relabel_local hy
  have ki : ce.kindOf "int" = some .globalImplicit := by
    subst hce
    have q := lookup_relS_keep (sc := env.scope) (x := ("int" : Str)) (k := .globalImplicit) (by decide) hyi
    exact q
  have hp : (ce.scope.kind == .class || (ce.scope.kind == .module && ce.locals != ce.globals)) = false := by rw [cK]; rfl
  refine ⟨fun i vs s₁ => ∃ h' tk m, s₁ = { s with heap := h', toks := tk } ∧ h'.Ns C m ∧ Vals (((bs.take i).map b01).map V.int) vs ∧ ∀ b o, s.heap.get? b = some o → h'.get? b = some o, ⟨h₃, tk₃, _, rfl, hnm, by simpa using Paired.nil, fun b o e => old b o (Heap.get?_push_of_some _ e)⟩, ?_, ?_, ?_⟩
  · rintro i vs s₁ h' tk ⟨h₄, tk₄, m, rfl, n₄, e₄, k₄⟩ hk' _
    have off : ∀ b : Addr, (b < s.heap.objs.size ∨ b = C) → b ∉ D :: [s.heap.objs.size] := fun b hb hm => by
      have hm' : b = D ∨ b = s.heap.objs.size := by simpa using hm
      exact off2 hb nC' nD' hDC hm'
    exact ⟨h', tk, m, rfl, n₄.at' fun o e => hk' _ o (off _ (.inr rfl)) e, e₄, fun b o e => hk' b o (off _ (.inl (Heap.lt_size e))) (k₄ b o e)⟩
  · rintro i v vs s₁ hi' hv st ⟨h₄, tk₄, m, rfl, n₄, e₄, k₄⟩ hpl
    have n₄' : h₄.Ns ce.locals m := by rw [cL]; exact n₄
    refine wpAny_assign_Name (wpAny_storeName_local ky n₄' (fun h₅ n₅ s₅ => ?_) hp)
    refine wpAny_tests_nil ?_
    have offC : ∀ b : Addr, b < s.heap.objs.size + 1 → b ≠ ce.locals := fun b hb => by rw [cL]; exact ne3 hb nC'
    have k₅ : ∀ b o, s.heap.get? b = some o → h₅.get? b = some o := fun b o e => s₅.extBut b o (offC b (Nat.lt_succ_of_lt (Heap.lt_size e))) (k₄ b o e)
    obtain ⟨bv, hbv, hbe⟩ : ∃ bv, bs[i]? = some bv ∧ v = Value.bool bv := by
      have q : (bs.map Value.bool)[i]? = some v := by simpa using hv
      rw [List.getElem?_map] at q
      cases e : bs[i]? with
      | none => rw [e] at q; cases q
      | some bv => rw [e] at q; exact ⟨bv, rfl, (Option.some.inj q).symm⟩
    subst hbe
    show wpAny _ _ (eval (.Call (.Name "int" p1) [.Name y p2] [] p3) ce) _ _ _
    refine Call_ (Calls.Name_function_global cK ki (Calls.loadGlobal_builtin (by rw [cG]; exact hG.keeps k₅) hi (by rw [cB]; exact hB.keeps k₅) hb ?_) (by decide)) rfl
    refine PyProof.Rows.callWith_type1 ?_ rfl rfl
    show wpAny _ _ (spliced ((false, eval (.Name y p2) ce) :: [])) _ _ _
    refine Calls.spliced_cons ?_
    rw [eval_Name _ _ _ hdy]
    refine wpAny_bind (wpAny_standAt (wpAny_loadName_local cK ky n₅ (v := .bool bv) (if_pos rfl) (Calls.spliced_nil (call_int_bool ?_))))
    refine ⟨⟨h₅, _, _, rfl, by rw [← cL]; exact n₅, ?_, k₅⟩, ⟨st.1.at fun o e => s₅.extBut _ o (offC _ (Nat.lt_succ_self _)) e, st.2.1.at fun o e => s₅.extBut _ o (offC _ (Nat.lt_succ_of_lt hlt)) e, st.2.2.keep fun o e => s₅.extBut _ o (offC _ (Nat.lt_succ_of_lt hlt1)) e⟩, hpl.at fun o e => s₅.extBut _ o (by rw [cL]; exact hDC) e⟩
    rw [List.take_add_one, hbv, List.map_append, List.map_append]
    refine Vals.append e₄ ?_
    show Vals [V.int (b01 bv)] [Value.int (b01 bv) _]
    exact Paired.cons (show RelV _ _ from ⟨_, rfl⟩) Paired.nil
  · rintro vs s₁ ⟨h₄, tk₄, m, rfl, n₄, e₄, k₄⟩ hpl
    refine ⟨m, by rw [cL]; exact n₄, fun h' hs' => ?_⟩
    rw [cL] at hs'
    have e₄' : Vals ((bs.map b01).map V.int) vs := by simpa using e₄
    exact h D h' tk₄ vs (Nat.le_trans (Nat.le_succ _) nD') (hpl.extBut hs'.extBut hDC) e₄' fun b o e => hs'.extBut b o (ne3 (Nat.lt_succ_of_lt (Heap.lt_size e)) nC') (k₄ b o e)
theorem preSum01 (bs : List Bool) : ∀ j, j ≤ bs.length → 0 ≤ preSum (fun i => (bs.map b01).getD i 0) j ∧ preSum (fun i => (bs.map b01).getD i 0) j ≤ j ∧ preSum (fun i => (bs.map b01).getD i 0) j = ((bs.take j).map b01).sum
  | 0, _ => by simp [preSum]
  | j + 1, h => by
    obtain ⟨h1, h2, h3⟩ := preSum01 bs j (by omega)
    have e : (bs.map b01).getD j 0 = b01 bs[j] := by simp [List.getD, show j < bs.length by omega]
    have b : 0 ≤ b01 bs[j] ∧ b01 bs[j] ≤ 1 := by unfold b01; split <;> omega
    have t : ((bs.take (j + 1)).map b01).sum = ((bs.take j).map b01).sum + b01 bs[j] := by
      rw [List.take_add_one, List.getElem?_eq_getElem (show j < bs.length by omega), List.map_append, List.sum_append]
      simp
    rw [t]
    simp only [preSum, e]
    omega
theorem hot_sum {l x1 : Addr} {bs : List Bool} {its : List Value} {Q : Value → Shared → Prop} {E : Value → Shared → Prop} (hh : A.handled = some (.ref x1)) (hot : HotO x1 s.heap) (hl : s.heap.IsList l its.toArray) (hv : Vals ((bs.map b01).map V.int) its) (hsm : bs.length ≤ 1000)
    (h : ∀ h' tk t', (∀ b o, s.heap.get? b = some o → h'.get? b = some o) → Q (.int (bs.map b01).sum t') { s with heap := h', toks := tk }) : wpAny (model prog w) A (call (.builtin "sum") [.ref l]) Q E s := by
  have hlt : l < s.heap.objs.size := by obtain ⟨o, ho, _⟩ := hl; exact Heap.lt_size ho
  have hlt1 : x1 < s.heap.objs.size := by obtain ⟨o, vs, ho, _⟩ := hot; exact Heap.lt_size ho
  have hlen : its.length = bs.length := by rw [← hv.length]; simp
  refine call_sum_walk (wpAny_pyIter_list hl ?_)
  refine ⟨_, _, _, _, _, _, fun i => (bs.map b01).getD i 0, rfl, walks_hot (A := A.in1) s.heap.objs.size l x1 hh (Nat.ne_of_lt hlt) (Nat.ne_of_lt hlt1) _, ⟨⟨_, Heap.get?_push_size _ rfl, rfl, rfl⟩, hl.push _, hot.keep fun o e => Heap.get?_push_of_some _ e⟩, ?_, fun i v hi => ?_, fun j hj => ?_, fun h' tk t' hk => ?_⟩
  · intro b hb
    show b < (s.heap.push _).objs.size
    rw [Heap.size_push]
    have hb' : b = s.heap.objs.size ∨ b = l ∨ b = x1 := by simpa using hb
    exact lt3 hlt hlt1 hb'
  · have hi' : its[i]? = some v := by simpa using hi
    have hil : i < its.length := (List.getElem?_eq_some_iff.mp hi').1
    have hx : ((bs.map b01).map V.int)[i]? = some (V.int ((bs.map b01).getD i 0)) := by
      simp [List.getD, show i < bs.length by omega]
    obtain ⟨u, hu, ru⟩ := hv.get hx
    rw [hi'] at hu
    cases hu
    exact ru
  · have hj' : j < bs.length := by
      have q : j < its.toArray.size := hj
      simp at q
      omega
    obtain ⟨h1, h2, h3⟩ := preSum01 bs (j + 1) hj'
    have e : (bs.map b01).getD j 0 = b01 bs[j] := by simp [List.getD, hj']
    have b : 0 ≤ b01 bs[j] ∧ b01 bs[j] ≤ 1 := by unfold b01; split <;> omega
    refine ⟨⟨?_, ?_⟩, ?_, ?_⟩
    · show -(2 ^ 63) ≤ (bs.map b01).getD j 0
      rw [e]; omega
    · show (bs.map b01).getD j 0 < 2 ^ 63
      rw [e]; omega
    · omega
    · omega
  · have hz : preSum (fun i => (bs.map b01).getD i 0) its.toArray.size = (bs.map b01).sum := by
      rw [List.size_toArray, hlen, (preSum01 bs bs.length (Nat.le_refl _)).2.2, List.take_length]
    rw [hz]
    refine h h' tk t' fun b o e => hk b o ?_ (Heap.get?_push_of_some _ e)
    have hlb := Heap.lt_size e
    intro hm
    have hm' : b = s.heap.objs.size := by simpa using hm
    exact Nat.ne_of_lt hlb hm'
end
end Dy

/-! # Rules where an exception is handled, its class known. -/
namespace Dy
open PySem PySem.Spec PyProof.Rows L2
/-- a is handled, oe its object of the class C, pinned -/
structure HotE (X : Cx) (a : Addr) (oe : Obj) (C : Addr) : Prop where
  hh : X.A.handled = some (.ref a)
  pin : (a, oe) ∈ X.pn
  z : L2N.Zn (.ref C) none oe
  fl : ∃ vs, oe.data = .fields vs
section
variable {X : Cx} {a C : Addr} {oe : Obj}
theorem HotE.get (h : HotE X a oe C) {pins : List (Addr × Obj)} {σ : St} {H : Hp} {s : Shared} (I : Inv X pins σ H s) : s.heap.get? a = some oe := (I.pin (a, oe) (List.mem_append_left _ h.pin)).1
theorem HotE.hot (h : HotE X a oe C) {pins : List (Addr × Obj)} {σ : St} {H : Hp} {s : Shared} (I : Inv X pins σ H s) : HotO a s.heap := by
  obtain ⟨vs, e⟩ := h.fl
  exact ⟨oe, vs, h.get I, e, h.z.2.2 vs e⟩
theorem call_isH (c : ExcC X.K C) (he : HotE X a oe C) : CallR X (.builtin "isinstance") (rIsE X.K C a) := by
  intro pins s σ H xs us Q I r h
  obtain ⟨d, cv, b, rfl, hcv, e, q⟩ := h
  obtain ⟨ua, uc, rfl, ra, rc⟩ := Vals.two r
  have ec := hcv uc rc
  subst ec
  obtain rfl : ua = Value.ref a := ra
  have hget := he.get I
  obtain ⟨vs, hv⟩ := he.fl
  have J : PySem.W.InstAt s.heap a oe C none := by
    have h1 := he.z.1
    have h2 := he.z.2.1
    revert hget h1 h2 hv
    cases oe with
    | mk oc od oda osl =>
      intro hget h1 h2 hv
      dsimp only at h1 h2 hv
      subst h1 h2 hv
      exact ⟨hget, rfl, rfl, trivial⟩
  exact PySem.W.kia_one (PySem.W.handS_kitx_exc c.hg c.hk c.hs c.hd c.ha c.hn c.ht c.hm) I.kIn J e (fun z => nomatch z) fun tk => ⟨.bl b, H, I.kept (t' := tk) fun _ _ z => z, rfl, q⟩
theorem vals_bls : ∀ {bs : List Bool} {us : List Value}, Vals (bs.map V.bl) us → us = bs.map Value.bool
  | [], _, h => by cases h; rfl
  | b :: bs, _, h => by
    cases h with
    | cons r rr =>
      cases r
      rw [vals_bls rr]
      rfl
def tHotInts (K : PySem.W.Frag) (ti : TE) : TE := fun σ H Q => ti σ H fun x H1 => ∃ (l : Addr) (bs : List Bool), x = .ref l ∧ SqL K H1 l (bs.map V.bl) ∧ ∀ p, H1 p = none → Q (.ref p) (upd H1 p (.lst ((bs.map b01).map V.int)))
theorem pe_hotInts {scope : Scope} {y : Str} {iter : Expr} {py p1 p2 p3 pos : Pos} {ti : TE} (he : HotE X a oe C) (hi : PE X iter ti) (hm : X.mg "int" = none)
    (hfree : ∀ z ∈ scope.names, z.2 ≠ .free) (hcell : ∀ z ∈ scope.names, z.2 ≠ .cell) (hkind : scope.kind = .function) (hnames : ∀ z ∈ scope.names, z.2 = .local → scope.names.lookup z.1 = some .local)
    (hy : scope.names.lookup y = some .local) (hyi : scope.names.lookup ("int" : Str) = some .globalImplicit) (hdy : (y == ("__debug__" : Str)) = false) (hs : ∀ x, foldedSetIterable iter X.env x = pure x := by intro _; rfl) :
    PE X (.ListComp (.Call (.Name "int" p1) [.Name y p2] [] p3) [⟨.Name y py, iter, [], 0⟩] scope pos) (tHotInts X.K ti) := by
  refine ⟨fun pins s σ H Q I h => ?_⟩
  obtain ⟨mb, h1, h2⟩ := I.mod.blt
  refine hot_ints he.hh hfree hcell hkind hnames hy hyi hdy (mg := X.mg) (mb := mb) hm ((h2 _ (by decide)).trans (by decide +kernel)) (thn (hi.run pins s σ H _ I h) fun v s1 ⟨x, H1, I1, r1, l, bs, e, hq, q⟩ => ?_) hs
  subst e
  obtain rfl : v = Value.ref l := r1
  obtain ⟨its, rv, ⟨o, n, ho, hc, hd, hda⟩, hl⟩ := I1.list hq
  have ei := vals_bls rv
  subst ei
  refine ⟨l, bs, rfl, he.hot I1, by rw [I1.ok.glob]; exact I1.mod.glob.keeps I1.bk, ?_, ⟨o, ho, hc, n, hda⟩, by simpa using hl, fun D h' tk vs hD hp hv k => ?_⟩
  · rw [I1.ok.blt]
    obtain ⟨mb', h1', h2'⟩ := I1.mod.blt
    exact h1.keeps I1.bk
  · obtain ⟨n', hp⟩ := hp
    exact ⟨.ref D, _, I1.laid (o := .lst ((bs.map b01).map V.int)) (t' := tk) k hD ⟨by simpa using hl, vs, n', hv, hp⟩, rfl, q D (I1.hok.fresh hD)⟩
def rHotSum (K : PySem.W.Frag) : List V → Hp → VK → Prop := fun xs H Q => ∃ (p : Addr) (bs : List Bool), xs = [.ref p] ∧ SqL K H p ((bs.map b01).map V.int) ∧ bs.length ≤ 1000 ∧ Q (.int (bs.map b01).sum) H
theorem call_hotSum (he : HotE X a oe C) : CallR X (.builtin "sum") (rHotSum X.K) := by
  intro pins s σ H xs us Q I r h
  obtain ⟨p, bs, rfl, hq, hl, q⟩ := h
  obtain ⟨u, rfl, ru⟩ := Vals.one r
  obtain rfl : u = Value.ref p := ru
  obtain ⟨its, rv, ⟨o, n, ho, hc, hd, hda⟩, hl'⟩ := I.list hq
  exact hot_sum he.hh (he.hot I) ⟨o, ho, hc, n, hda⟩ rv hl fun h' tk t' k => ⟨.int _, H, I.kept k, ⟨t', rfl⟩, q⟩
/-- a def called there, its promise told of this very exception -/
theorem run_hot {x : Str} {st : Stmt} {f : Addr} {fd : FuncData} {N ps : List Str} {k : Nat} {pins : List (Addr × Obj)} {σ : St} {H : Hp} {s : Shared} {us : List Value} {vs : List V} {Q : VK} (F : Fun X.K x x st f fd) (S : FnScope N ps (defScope st)) (hb : Binds X.K fd ps []) (he : HotE X a oe C) (hr : L2H.RoomH (k + 1) X.A)
    (I : Inv X pins σ H s) (r : Vals vs us) (hl : vs.length = ps.length)
    (hbody : ∀ (cdv : Value), L2H.RoomH k (X.A.deeper (envOfC x (defScope st) s.heap.objs.size f cdv)) → ∃ t, PSs (L2H.cxH CX0 X.prog X.w X.K X.mg X.base N x (defScope st) f cdv X.A X.stack s H E0 (a, oe)) (defBody st) t ∧ t { nx := fun _ H' => Q .non H', rt := Q } (L2.start N vs) H) :
    wpAny (model X.prog X.w) X.A (call (.ref f) us) (EP X pins σ Q) X.xe s := by
  obtain ⟨oc, od, kV, doc, pm, an, cdv, ct, osl, rfl, lk, hcd⟩ := F.ex
  have hlu : us.length = ps.length := by rw [← r.length]; exact hl
  have hbs := hb s us I.kIn (by rw [List.append_nil]; exact hlu)
  rw [List.append_nil] at hbs
  have P1 := I.pin (a, oe) (List.mem_append_left _ he.pin)
  have hpin : L2H.PinOk X.stack H s (a, oe) := ⟨P1.1, P1.2.1, fun hm => (List.mem_cons.mp (I.stkSub a hm)).elim P1.2.2.1 P1.2.2.2.1, P1.2.2.2.2⟩
  have hot : L2H.Hot1 X.A (a, oe) := by
    obtain ⟨vs, e⟩ := he.fl
    exact ⟨he.hh, vs, e, he.z.2.2 vs e⟩
  have KX : X.K.In s.heap := I.kIn
  have hkind : ∀ y ∈ ps.zip us, (defScope st).names.lookup y.1 = some .local ∨ ((defScope st).names.lookup y.1 = some .cell ∧ ((cellsFrom (s.heap.objs.size + 1) (defScope st).names []).lookup y.1).isSome = true) := fun y hy => by
    rcases S.par y.1 (List.of_mem_zip (a := y.1) (b := y.2) hy).1 with q | q
    · exact .inl q
    · exact .inr ⟨q, PySem.W.cellsFrom_some _ _ _ (.inl q)⟩
  have rc : codeAny (model X.prog X.w) X.A (.call (.ref f) ⟨us, []⟩) (CR CX0 X.stack X.prog X.w H s Q E0) s := by
    refine codeAny_call_function hr.depth (KX _ _ lk) rfl S.co S.gen rfl (PySem.W.codeRec_of KX hcd) (hbs _ _ _ _ ?_)
    refine wpAny_newFunctionEnv_cells S.kind hkind fun env hen s1 x1 => ?_
    subst hen
    refine ⟨I.nolimit.keeps x1.toInCall.keep, codeAny_func ?_⟩
    obtain ⟨t, ht, hq⟩ := hbody cdv (hr.deeper _)
    refine wpAny_mono (ht.run [] s1 (L2.start N vs) H _ (L2H.inv_startH S hpin I.env0 hl r x1) hq) (fun fl s' hs => ?_) fun e s' hs => hs
    have fin : ∀ {σ' : St} {H' : Hp} {v : V} {u : Value}, Inv (L2H.cxH CX0 X.prog X.w X.K X.mg X.base N x (defScope st) f cdv X.A X.stack s H E0 (a, oe)) [] σ' H' s' → RelV v u → Q v H' → CE X.stack X.prog X.w H s Q u s' :=
      fun {σ' H' v u} J rv q => ⟨v, H', J.os, J.bare, J.base, J.hok, rv, q⟩
    cases fl with
    | ret u =>
      obtain ⟨v, σ', H', J, rv, q⟩ := hs
      exact fin J rv q
    | next =>
      obtain ⟨σ', H', J, q⟩ := hs
      exact fin (v := V.non) (u := Value.none) J rfl q
    | brk =>
      obtain ⟨_, _, _, q⟩ := hs
      exact False.elim q
    | cont =>
      obtain ⟨_, _, _, q⟩ := hs
      exact False.elim q
  refine wpAny_call (codeAny_mono rc fun r s' hq => ?_)
  cases r with
  | error e => exact (show False from hq).elim
  | ok fl =>
    cases fl with
    | ret u => exact I.after hq
    | next => exact False.elim hq
    | brk => exact False.elim hq
    | cont => exact False.elim hq
end
end Dy

/-! # A lambda made, handed to a def that calls it and catches. -/
namespace Dy
variable [Tn]
open PySem PySem.Spec PyProof.Rows L2
section
variable {X : Cx} {pins : List (Addr × Obj)} {σ : St} {H : Hp} {s : Shared}
theorem sameT_tab {H : Hp} {P c : Addr} {ps more : Array Value} {o : HO} (hP : H P = some (.tbl ps)) (nC : H c = none) : SameT H (upd (upd H P (.tbl (ps ++ more))) c o) := fun b u e => by
  by_cases hb : b = P
  · subst hb
    rw [hP] at e
    cases e
    exact .inr ⟨⟨ps, rfl⟩, ps ++ more, by rw [upd_ne (ne_of_none hP nC), upd_same]⟩
  · exact .inl (by rw [upd_ne (ne_of_none e nC), upd_ne hb]; exact e)
theorem allT_tab {H : Hp} {P c : Addr} {q : Str} {ps : Array Value} {pos : Pos} (hm : (P, q) ∈ Tn.ns) (hu : ∀ p ∈ Tn.ns, p.1 = P → p.2 = q) (hT : AllT H) (hP : H P = some (.tbl ps)) (nC : H c = none) :
    AllT (upd (upd H P (.tbl (ps ++ #[rawInt pos.line, rawInt pos.col, .ref c]))) c (LamX.CodeO c q)) := by
  have eL : (ps ++ #[rawInt pos.line, rawInt pos.col, .ref c]).toList = ps.toList ++ [rawInt pos.line, rawInt pos.col, .ref c] := by simp
  have sT : ∀ b o, H b = some o → (∀ x, o ≠ .tbl x) → upd (upd H P (.tbl (ps ++ #[rawInt pos.line, rawInt pos.col, .ref c]))) c (LamX.CodeO c q) b = some o := fun b o e n => (sameT_tab hP nC).ordi e n
  intro p hp
  by_cases hb : p.1 = P
  · have e2 := hu p hp hb
    obtain ⟨ps', a1, a2, a3⟩ := hT p hp
    rw [hb, hP] at a1
    cases a1
    rw [e2, hb]
    refine ⟨_, by rw [upd_ne (ne_of_none hP nC), upd_same], by rw [eL]; exact PySem.TriplesOk_snoc _ _ _ _ a2, fun p' cv hcv => ?_⟩
    rw [eL] at hcv
    rcases LamX.among_app _ a2 hcv with z | z
    · obtain ⟨c0, e1, e3⟩ := a3 p' cv z
      rw [e2] at e3
      exact ⟨c0, e1, sT _ _ e3 LamX.codeO_ne⟩
    · exact ⟨c, z, upd_same⟩
  · obtain ⟨ps', a1, a2, a3⟩ := hT p hp
    refine ⟨ps', by rw [upd_ne (ne_of_none a1 nC), upd_ne hb]; exact a1, a2, fun p' cv hcv => ?_⟩
    obtain ⟨c0, e1, e2⟩ := a3 p' cv hcv
    exact ⟨c0, e1, sT _ _ e2 LamX.codeO_ne⟩
/-- a lambda is made -/
theorem lam_new {c P : Addr} {params : Arguments} {body : Expr} {scope : Scope} {pos : Pos} {E : Value → Shared → Prop} {Q : Value → Shared → Prop} (I : Inv X pins σ H s) (TB : LamX.TabB X.base X.mg c P) (hcode : X.env.code = .ref c)
    (hm : (P, X.env.qual ++ "<lambda>") ∈ Tn.ns) (hu : ∀ p ∈ Tn.ns, p.1 = P → p.2 = X.env.qual ++ "<lambda>") (hT : AllT H) (hdef : defaultsOf params X.env = ([], [])) (hfree : ∀ y ∈ scope.names, y.2 = .free → ∃ c, X.env.cells.lookup y.1 = some c)
    (h : ∀ (f c' : Addr) (pm ctv : Value) (H1 : Hp) (s' : Shared), Inv X pins σ H1 s' → SameT H H1 → AllT H1 →
      s'.heap.get? f = some (PySem.W.kla_obj "<lambda>" (X.env.qual ++ "<lambda>") params body scope (cloFrom X.env.cells scope.names []) pm c' ctv) → H1 f = none → f ∉ frs X.stack → H1 c' = some (LamX.CodeO c' (X.env.qual ++ "<lambda>")) → Q (.ref f) s') :
    wpAny (model X.prog X.w) X.A (eval (.Lambda params body scope pos) X.env) Q E s := by
  have hTm := hT _ hm
  obtain ⟨ps, hP, ht, ha⟩ := hTm
  have bP : s.heap.BuiltinsAt X.mg P := TB.bm.keeps I.bk
  have oP : s.heap.get? P = some { cls := .none, data := .fields ps } := I.hok P _ hP
  have gN : s.heap.Ns mainGlobals X.mg := I.mod.glob.keeps I.bk
  have nofr : ∀ f, s.heap.objs.size ≤ f → f ∉ frs X.stack := fun f hf z => by
    rcases List.mem_cons.mp (I.stkSub _ z) with e | e
    · have h1 := I.lt
      rw [← e] at h1
      exact absurd (Nat.lt_of_lt_of_le h1 hf) (Nat.lt_irrefl _)
    · exact I.nofs hf e
  refine PySem.W.kla_eval hdef ?_
  cases hc : codeAmong pos ps.toList with
  | some cv =>
    obtain ⟨c', e, hco⟩ := ha pos cv hc
    subst e
    exact PySem.W.kla_makeFunctionHit (mg := X.mg) (c := c) (P := P) (ps := ps) (closure_ok hfree) I.ok.glob gN hcode (TB.code.keeps I.bk) oP ht hc bP fun ctv h' tk hx hsz =>
      h h'.objs.size c' ((X.mg "__name__").getD .none) ctv H _ (I.kept fun b o e => Heap.get?_push_of_some _ (hx b o e)) (Same.t (Same.refl H)) hT (Heap.get?_push_size _ rfl) (I.hok.fresh hsz) (nofr _ hsz) hco
  | none =>
    refine PySem.W.kla_makeFunction (mg := X.mg) (c := c) (P := P) (ps := ps) (closure_ok hfree) I.ok.glob gN hcode (TB.code.keeps I.bk) oP ht hc TB.gP bP fun c' ctv h' tk hx hge hlt hrec htb => ?_
    obtain ⟨c2, oc, vs, t, e2, hoc, hd, hv⟩ := hrec
    cases e2
    have hsz : s.heap.objs.size ≤ h'.objs.size := by omega
    have nC : H c' = none := I.hok.fresh hge
    refine h h'.objs.size c' ((X.mg "__name__").getD .none) ctv _ _ (LamX.inv_table (t' := tk) (more := #[rawInt pos.line, rawInt pos.col, .ref c']) (h' := h'.push _) I hP (fun b o hb e => Heap.get?_push_of_some _ (hx b o hb e)) (Heap.get?_push_of_some _ htb) hge ⟨oc, vs, t, Heap.get?_push_of_some _ hoc, hd, hv⟩)
      (sameT_tab hP nC) (allT_tab hm hu hT hP nC) (Heap.get?_push_size _ rfl) ?_ (nofr _ hsz) upd_same
    have n1 : h'.objs.size ≠ c' := by omega
    have n2 : h'.objs.size ≠ P := Nat.ne_of_gt (Nat.lt_of_lt_of_le (Heap.lt_size oP) hsz)
    rw [upd_ne n1, upd_ne n2]
    exact I.hok.fresh hsz
end
/-- the context of a lambda's body, its exceptions bare of a context -/
abbrev lamN (X : Cx) (A : Around) (outer : List Env) (s : Shared) (H : Hp) (E : XK) (scope : Scope) (f c' : Addr) : Cx :=
  (LamX.lamCx X A outer s H E scope f c').tr [] (fun e s' => wpAny (model X.prog X.w) (A.deeper (LamX.lamEnv X scope s.heap.objs.size f c')) (leaving (LamX.lamEnv X scope s.heap.objs.size f c') e) (fun _ s'' => L2N.CX X.prog X.w outer H s E e s'') (fun e' s'' => L2N.CX X.prog X.w outer H s E e' s'') s')
theorem passLam {X : Cx} {A : Around} {outer : List Env} {s : Shared} {H : Hp} {E : XK} {scope : Scope} {f c' : Addr} : Passes (L2N.CX X.prog X.w) (lamN X A outer s H E scope f c') E :=
  L2N.passes_call (X := lamN X A outer s H E scope f c') (L2N.takes_of (X := lamN X A outer s H E scope f c') rfl rfl rfl rfl) fun _ _ _ _ h => h
section
variable {X : Cx} {pins : List (Addr × Obj)} {σ : St} {H : Hp} {s : Shared}
/-- x(), x the lambda, in the def that got it -/
theorem pe_actN {CXg : CXT} {Eg : XK} {Ng : List Str} {qg : Str} {sg : Scope} {g f c' : Addr} {cdg pm ctv : Value} {params : Arguments} {body : Expr} {scope : Scope} {k i : Nat} {a : Str} {pn : List (Addr × Obj)} {xe : Value → Shared → Prop} {W : WX} {E : XK} {tb : TE} {p1 p2 : Pos}
    (I : Inv X pins σ H s) (L : LamX.LamS X.env.scope scope) (hf : s.heap.get? f = some (PySem.W.kla_obj "<lambda>" (X.env.qual ++ "<lambda>") params body scope (cloFrom X.env.cells scope.names []) pm c' ctv)) (hfn : H f = none) (hfr : f ∉ frs X.stack)
    (hbind : bindArgs (PySem.W.kla_fn "<lambda>" (X.env.qual ++ "<lambda>") params body scope (cloFrom X.env.cells scope.names []) pm (.ref c') ctv) ⟨[], []⟩ = pure [])
    (tk : L2N.Takes ((cxOf CXg X.prog X.w X.K X.mg X.base Ng qg sg g cdg X.A X.stack s H Eg).tr pn xe) W) (hW : ∀ cls d σ' H', E cls d H' → W cls d σ' H') (hr : Room (k + 1) (X.A.deeper (envOfC qg sg s.heap.objs.size g cdg)))
    (hbody : ∀ (A : Around) (outer : List Env) (s : Shared) (H : Hp), Room k (A.deeper (LamX.lamEnv X scope s.heap.objs.size f c')) → PE (lamN X A outer s H E scope f c') body tb)
    (hN : Ng[i]? = some a) (hv : Vis sg a) (hd : (a == ("__debug__" : Str)) = false) (hcd : (a == ("__classdict__" : Str)) = false) :
    PE ((cxOf CXg X.prog X.w X.K X.mg X.base Ng qg sg g cdg X.A X.stack s H Eg).tr pn xe) (.Call (.Name a p1) [] [] p2)
      (fun σZ HZ Q => σZ[i]? = some (some (.ref f)) ∧ HZ c' = some (LamX.CodeO c' (X.env.qual ++ "<lambda>")) ∧ tb σ HZ Q) := by
  refine ⟨fun pinsZ sZ σZ HZ Q IZ ⟨hs, hc, ht⟩ => ?_⟩
  refine wpAny_Call_Name_kw (thn ((pe_var (pos := p1) (i := i) hN hv hd hcd).run pinsZ sZ σZ HZ (fun v H1 => v = .ref f ∧ H1 = HZ) IZ ⟨.ref f, hs, rfl, rfl⟩) fun u s1 ⟨v, H1, I1, r1, ev, eH⟩ => ?_)
  subst ev
  rw [eH] at I1
  obtain rfl : u = Value.ref f := r1
  have of1 := I1.base.keep f _ hf hfn hfr (fun z => nomatch (show f ∈ ([] : List Addr) from z))
  have un : Un (frs X.stack) [] H HZ s.heap s1.heap := I1.base
  obtain ⟨⟨oc, vs, t, hoc, hdc, hvc⟩, _, _⟩ := I1.hok c' _ hc
  have rc : codeAny (model X.prog X.w) (X.A.deeper (envOfC qg sg s.heap.objs.size g cdg)) (.call (.ref f) ⟨[], []⟩) (CR (L2N.CX X.prog X.w) (envOfC qg sg s.heap.objs.size g cdg :: X.stack) X.prog X.w HZ s1 Q E) s1 := by
    refine PySem.W.kla_callFunE hr.depth of1 rfl L.co L.gen rfl ⟨c', oc, vs, t, rfl, hoc, hdc, hvc⟩ ?_
    rw [hbind]
    refine wpAny_pure (wpAny_newFunctionEnv (fun y hy => (L.own y hy).2) (fun y hy => absurd hy (by simp)) (fun h₁ hns hsb => ⟨I1.nolimit.fresh _ hsb, ?_⟩) L.kind)
    have kp : ∀ b o, s1.heap.get? b = some o → h₁.get? b = some o := fun b o e => hsb.extBut b o (Nat.ne_of_lt (Heap.lt_size e)) (Heap.get?_push_of_some _ e)
    have J := LamX.lam_start2 (tk := s1.toks + ([] : List (Str × Value)).length) (E := E) (f := f) (c' := c') I L I1.env0 hr.hd un hns kp
    refine PySem.W.kla_codeExpr (wpAny_mono ((hbody _ _ s1 HZ (hr.deeper _)).run [] _ _ HZ Q (J.toTry _) ht) (fun v s' hq => ?_) fun e s' hq => hq)
    obtain ⟨w', H', J', rv, q⟩ := hq
    exact ⟨w', H', J'.os, J'.bare, J'.base, J'.hok, rv, q⟩
  refine PySem.W.callWith_F0 ⟨_, _, _, _, of1⟩ (wpAny_call (codeAny_mono rc fun r s' hq => ?_))
  cases r with
  | error e => exact L2N.passes_call tk hW pinsZ σZ HZ s1 e s' I1 hq
  | ok fl =>
    cases fl with
    | ret u => exact I1.after hq
    | next => exact False.elim hq
    | brk => exact False.elim hq
    | cont => exact False.elim hq
end
end Dy

/-! # told(lambda: ..): the deed's answer, or the word for what it raised. -/
namespace Dy
variable [Tn]
open PySem PySem.Spec PyProof.Rows L2
/-! ### expressions that may raise -/
abbrev DX := List Sl → (D → Prop) → (Addr → Prop) → Prop
def tX (K : PySem.W.Frag) (E : XK) (f : DX) : TE := fun σ H Q => ∃ (F0 B F : Hp) (ρ : List Sl) (P : D → Prop) (Z : Addr → Prop), StR K F0 B F ρ σ H ∧ f ρ P Z ∧ Fin K F H P Q ∧ ∀ c, Z c → ∀ F' H', Ext F H F' H' → E (.ref c) none H'
abbrev XD (X : Cx) (E : XK) (e : Expr) (f : DX) : Prop := PE X e (tX X.K E f)
@[simp] def dXCall (φ : Spc) (k : DA) : DX := fun ρ P Z => k ρ fun ds => φ ds P Z
section
variable {X : Cx}
theorem xd_call {x : Str} {p pos : Pos} {e : Expr} {es : List Expr} {k : DA} {φ : Spc} {j n : Nat} {CX : CXT} {E : XK} (G : DefD X.prog X.w X.K X.mg X.base CX x j φ) (hr : Room n X.A) (hx : Passes CX X E) (ha : AD X (e :: es) k) (hjn : j ≤ n := by decide) (hg : Gl X x := by rfl) (hdb : (x == ("__debug__" : Str)) = false := by decide)
    (he : starEach (e :: es) X.env = (false, eval e X.env) :: starEach es X.env := by rfl) (hpl : (backTo pos (starEach es X.env)).any (·.1) = false := by rfl) : XD X E (.Call (.Name x p) (e :: es) [] pos) (dXCall φ k) := by
  obtain ⟨f, fd, ps, F, hm, hk, hb⟩ := G.ex
  refine peImp (pe_call F (hr.mono hjn) hg hm hk hb .nil hx ha hdb he hpl) fun σ H Q ⟨F0, B, F, ρ, P, Z, S, q, fin, finx⟩ => ?_
  exact ⟨F0, B, F, ρ, _, S, q, fun ds hd vs F1 H1 E1 r1 => ⟨F1, ds, P, Z, E1.fh, E1.nt, by rw [List.append_nil]; exact r1, hd, fin.later E1, fun c z F2 H2 E2 => finx c z F2 H2 (E1.trans E2)⟩⟩
end
/-! ### defs whose exceptions bear no context -/
section
variable {P : Program} {w : World} {K : PySem.W.Frag} {mg : Str → Option Value} {base : Heap}
theorem fnN {x : Str} {st : Stmt} {f : Addr} {fd : FuncData} {N ps : List Str} {k : Nat} {φ : Spc} (F : Fun K x x st f fd) (S : FnScope N ps (defScope st)) (gm : mg x = some (.ref f)) (hb : Binds K fd ps []) (len : ∀ ds P Z, φ ds P Z → ds.length = ps.length)
    (body : ∀ (cdv : Value) (A : Around) (outer : List Env) (s : Shared) (H : Hp) (E : XK), Room k (A.deeper (envOfC x (defScope st) s.heap.objs.size f cdv)) →
      ∃ g : DS, SsD (cxOf (L2N.CX P w) P w K mg base N x (defScope st) f cdv A outer s H E) E (defBody st) g ∧ ∀ ds Q Z, φ ds Q Z → g { nx := fun _ => Q .non, rt := Q, xx := Z } (startS N ds)) : DefD P w K mg base (L2N.CX P w) x (k + 1) φ := by
  obtain ⟨oc, od, kV, doc, pm, an, cdv, ct, osl, rfl, lk, hcd⟩ := F.ex
  refine ⟨f, _, ps, fn_of lk hcd S (fun vs H Q E ⟨F', ds, P', Z, s, n, r, h, _⟩ => by rw [← r.length]; exact len ds P' Z h) (fun A outer s H vs Q E hr ⟨F', ds, P', Z, sm, n, r, h, fin, finx⟩ => ?_), gm, F.kp, hb⟩
  obtain ⟨g, hg, q⟩ := body cdv A outer s H E hr
  exact ⟨_, hg, F', H, F', _, _, stR_start N sm n r, q ds P' Z h, ⟨fun ρ' F2 σ' H' p _ S' => fin .non p .non F2 H' S'.ext .non, fun _ _ _ _ z => z.elim, fun _ _ _ _ z => z.elim, fun d v F2 H' p E' r' => fin d p v F2 H' E' r', fun c F2 H' p E' => finx c p F2 H' E'⟩⟩
theorem passN {P : Program} {w : World} {K : PySem.W.Frag} {mg : Str → Option Value} {base : Heap} {N : List Str} {qual : Str} {sc : Scope} {f : Addr} {cd : Value} {A : Around} {outer : List Env} {s : Shared} {H : Hp} {E : XK} :
    Passes (L2N.CX P w) (cxOf (L2N.CX P w) P w K mg base N qual sc f cd A outer s H E) E := L2N.passes_call (L2N.takes_of rfl rfl rfl rfl) fun _ _ _ _ h => h
end
section
variable {X : Cx} {E : XK} {pos : Pos}
theorem sd_raiseN {C : Addr} {bmB : List Value} {B newId initId : String} {x m : Str} {j : Nat} {p p2 pos2 : Pos} (hc : X.calm = true) (tk : L2N.Takes X (fun cls d _ H => E cls d H)) (F : PySem.ExcBaseFacts B newId initId bmB) (q : PySem.W.excIn X.K C bmB newId = true) (gC : X.mg x = some (.ref C)) (kC : PySem.W.keepIn X.K (.ref C) = true) (r : Raises X (.ref C)) (hg : Gl X x := by rfl)
    (hdb : (x == ("__debug__" : Str)) = false := by decide) : SD X E (.Raise (some (.Call (.Name x p) [.Constant (.str m) j p2] [] pos)) none pos2) (dRaise C) :=
  psImp (L2N.ps_raise hc tk (L2N.pmk_own F q gC kC r hg hdb)) fun T σ H ⟨F0, B, F, ρ, G, S, q, k⟩ => k.xx C F H q S.ext
end
/-! ### told -/
theorem ext_tab {F H H1 : Hp} (s : Same F H) (n : NT F H) (t : SameT H H1) (a : AllT H1) : Ext F H F H1 :=
  ⟨Same.refl F, fun b o e => t.ordi (s b o e) fun ps z => n.1 b ps (by rw [e, z]), t, fun _ _ h _ => h, ⟨n.1, a⟩⟩
/-- a heap with new objects of its own -/
def More (H H' : Hp) : Prop := ∀ F, Same F H → NT F H → Ext F H F H'
theorem More.refl (H : Hp) : More H H := fun _ s n => Ext.refl s n
theorem More.trans {H H1 H2 : Hp} (a : More H H1) (b : More H1 H2) : More H H2 := fun F s n => (a F s n).trans (b F (a F s n).fh (a F s n).nt)
theorem More.alloc {H : Hp} {p : Addr} {o : HO} (hp : H p = none) (ho : Ordi o) : More H (upd H p o) := fun _ s n => (Ext.refl s n).allocH hp ho
theorem takesN0 {X : Cx} : L2N.Takes X (fun _ _ _ _ => False) := fun _ _ x => by
  obtain ⟨_, _, _, _, _, _, _, _, _, _, _, _, _, _, _, _, z⟩ := x
  exact z.elim
@[simp] def dTold (wd : Addr → Str → Prop) (f : DX) : DE := fun ρ P => f ρ P fun C => ∃ w, wd C w ∧ P (.str w)
abbrev NTold (a n : Str) : List Str := [a, n]
section
variable {X : Cx}
theorem ed_told {x a n er wn : Str} {st : Stmt} {g c P CW : Addr} {fdg : FuncData} {k : Nat} {params : Arguments} {body : Expr} {scope : Scope} {f : DX} {wd : Addr → Str → Prop} {p lpos pos p1 p2 p3 p4 p5 p6 p7 p8 p9 p10 : Pos}
    (Fg : Fun X.K x x st g fdg) (hb : Binds X.K fdg [a] []) (Sg : FnScope (NTold a n) [a] (defScope st))
    (hst : defBody st = [.Try [.Return (some (.Call (.Name a p1) [] [] p2)) p3] [.ExceptHandler (some (.Name er p4)) (some n) [.Return (some (.Call (.Name wn p5) [.Name n p6] [] p7)) p8] p9] [] [] p10])
    (hln : (defScope st).names.lookup n = some .local) (hla : (defScope st).names.lookup a = some .local) (hge : (defScope st).names.lookup er = some .globalImplicit) (hme : X.mg er = some (.ref CW)) (hdm : (er == ("__debug__" : Str)) = false)
    (hwm : ∀ C w, wd C w → PySem.W.exmOne X.K (.ref C) (.ref CW) = some true)
    (hword : ∀ (Z : Cx) (a1 C : Addr) (w : Str) (oe : Obj), Z.K = X.K → Z.mg = X.mg → Z.N = NTold a n → Z.env.scope = defScope st → wd C w → HotE Z a1 oe C → L2H.RoomH k Z.A → PE Z (.Call (.Name wn p5) [.Name n p6] [] p7) (fun σ H Q => σ[1]? = some (some (.ref a1)) ∧ ∀ H', More H H' → Q (.str w) H'))
    (hg : Gl X x) (hm : X.mg x = some (.ref g)) (TB : LamX.TabB X.base X.mg c P) (hcode : X.env.code = .ref c) (hmT : (P, X.env.qual ++ "<lambda>") ∈ Tn.ns) (hu : ∀ p ∈ Tn.ns, p.1 = P → p.2 = X.env.qual ++ "<lambda>") (hr : Room (k + 2) X.A) (L : LamX.LamS X.env.scope scope)
    (hbody : ∀ (A : Around) (outer : List Env) (s : Shared) (H : Hp) (E : XK) (f1 c' : Addr), Room k (A.deeper (LamX.lamEnv X scope s.heap.objs.size f1 c')) → XD (lamN X A outer s H E scope f1 c') E body f)
    (hdef : defaultsOf params X.env = ([], []) := by rfl) (hbind : ∀ (q : Str) (cl : List (Str × Addr)) (pm cv ctv : Value), bindArgs (PySem.W.kla_fn "<lambda>" q params body scope cl pm cv ctv) ⟨[], []⟩ = pure [] := by intro _ _ _ _ _; rfl)
    (hdb : (x == ("__debug__" : Str)) = false := by decide) (hd : (a == ("__debug__" : Str)) = false := by decide) (hcd : (a == ("__classdict__" : Str)) = false := by decide) :
    ED X (.Call (.Name x p) [.Lambda params body scope lpos] [] pos) (dTold wd f) := by
  refine ⟨fun pins s σ H Q I h => ?_⟩
  obtain ⟨F0, B, F, ρ, P0, S, h, fin⟩ := h
  refine wpAny_Call_Name_kw (ld_glob I hg hm ?_ hdb)
  refine PySem.W.callWith_K (h₀ := X.base) I.ok.mod.kin Fg.kp ?_ (by rfl) (by rfl)
  show wpAny _ _ (spliced ((false, eval (.Lambda params body scope lpos) X.env) :: backTo pos (starEach [] X.env))) _ _ s
  refine Calls.spliced_cons (lam_new I TB hcode hmT hu S.nt.2 hdef (L.has I.ok) fun f1 c' pm' ctv H1 s' I1 sT aT hf hfn hfr hco => ?_)
  refine Calls.spliced_nil ⟨I1.kIn, ?_⟩
  have E1 := ext_tab S.fh S.nt sT aT
  obtain ⟨oc, od, kV, doc, pm, an, cdv, ct, osl, rfl, lk, hcg⟩ := Fg.ex
  have rc : codeAny (model X.prog X.w) X.A (.call (.ref g) ⟨[.ref f1], []⟩) (CR CX0 X.stack X.prog X.w H1 s' Q E0) s' := by
    refine LamX.run_ofS (k := k + 1) (N := NTold a n) (ps := [a]) (us := [.ref f1]) (vs := [.ref f1]) lk hcg Sg hr I1.env0 (hb s' [.ref f1] I1.kIn rfl) (.cons rfl .nil) rfl fun hr' => ?_
    rw [hst]
    have hge' : Gl (cxOf CX0 X.prog X.w X.K X.mg X.base (NTold a n) x (defScope st) g cdv X.A X.stack s' H1 E0).nox er := hge
    refine ⟨_, PSs.nox (pss_one (L2N.ps_try_as (X := (cxOf CX0 X.prog X.w X.K X.mg X.base (NTold a n) x (defScope st) g cdv X.A X.stack s' H1 E0).nox) (c := .ref CW) (i := 1)
      (tb := fun W D σ2 H2 => ∃ Ech : XK, (∀ cls d σ' H', Ech cls d H' → W cls d σ' H') ∧ σ2[0]? = some (some (.ref f1)) ∧ H2 c' = some (LamX.CodeO c' (X.env.qual ++ "<lambda>")) ∧ tX X.K Ech f σ H2 D.rt)
      (ts := fun a1 cls d D σ2 H2 => ∃ C w, cls = .ref C ∧ d = none ∧ wd C w ∧ (∃ σ' : St, σ2 = σ'.set 1 (some (.ref a1))) ∧ ∀ H', More H2 H' → D.rt (.str w) H')
      rfl rfl Sg.nd rfl hln ⟨hge', hdm, .inl hme⟩ takesN0 (fun W pn xe tk _ => ⟨fun pins2 s2 σ2 H2 D I2 h2 => ?_⟩) (fun a1 oe cls d pn hz hfl => ⟨fun pins2 s2 σ2 H2 D I2 h2 => ?_⟩))), ?_⟩
    · obtain ⟨Ech, hW, h1, h2, h3⟩ := h2
      have hp := pe_actN (CXg := CX0) (Eg := E0) (i := 0) (tb := tX X.K Ech f) I1 L hf hfn hfr (hbind _ _ _ _ _) tk hW hr' (fun A outer s H hr2 => hbody A outer s H Ech f1 c' hr2) (p1 := p1) (p2 := p2) (Ng := NTold a n) (a := a) rfl (.inl hla) hd hcd
      exact (pss_one (ps_ret (pos := p3) hp)).run pins2 s2 σ2 H2 D I2 ⟨h1, h2, h3⟩
    · obtain ⟨C, w, rfl, rfl, hw, ⟨σ', h1⟩, h2⟩ := h2
      have hl2 : σ2.length = 2 := I2.len
      have h1 : σ2[1]? = some (some (.ref a1)) := by
        rw [h1, List.length_set] at hl2
        rw [h1, List.getElem?_set_self (by omega)]
      have hp := hword ((cxOf CX0 X.prog X.w X.K X.mg X.base (NTold a n) x (defScope st) g cdv X.A X.stack s' H1 E0).nox.suite a1 ((a1, oe) :: pn)) a1 C w oe rfl rfl rfl rfl hw ⟨rfl, List.mem_cons_self, hz, hfl⟩ ⟨((L2H.roomH_of hr').mono (Nat.le_succ k)).dp, ((L2H.roomH_of hr').mono (Nat.le_succ k)).un⟩
      exact (pss_one (ps_ret (pos := p8) hp)).run pins2 s2 σ2 H2 D I2 ⟨h1, h2⟩
    · refine ⟨fun cls d H' => ∃ C w, cls = .ref C ∧ d = none ∧ wd C w ∧ ∀ H'', More H' H'' → Q (.str w) H'', fun cls d σ' H' ⟨C, w, e1, e2, hw, q⟩ => ?_, rfl, hco, F0, B, F, ρ, P0, _, S.step E1, h, fin.later E1, fun C ⟨w, hw, p⟩ F2 H2 E2 => ⟨C, w, rfl, rfl, hw, fun H3 m => fin _ p (.str w) F2 H3 ((E1.trans E2).trans (m F2 E2.fh E2.nt)) (.str w)⟩⟩
      subst e1 e2
      exact ⟨true, hwm C w hw, fun _ a1 na => ⟨C, w, rfl, rfl, hw, ⟨σ', rfl⟩, q⟩, fun z => nomatch z⟩
  refine wpAny_call (codeAny_mono rc fun r s2 hq => ?_)
  cases r with
  | error e => exact (show False from hq).elim
  | ok fl =>
    cases fl with
    | ret u => exact I1.after hq
    | next => exact False.elim hq
    | brk => exact False.elim hq
    | cont => exact False.elim hq
end
end Dy

/-! # word(e): its reading; told bundled. -/
namespace Dy
variable [Tn]
open PySem PySem.Spec PyProof.Rows L2
/-- the three classes' words -/
def Word3 (aN aF aL : Addr) (C : Addr) (w : Str) : Prop := (C = aN ∧ w = "BadNet") ∨ (C = aF ∧ w = "BadFlow") ∨ (C = aL ∧ w = "BadFloor")
/-- which flags are up -/
def Flags3 (b1 b2 b3 : Bool) (w : Str) : Prop := (b1 = true ∧ b2 = false ∧ b3 = false ∧ w = "BadNet") ∨ (b1 = false ∧ b2 = true ∧ b3 = false ∧ w = "BadFlow") ∨ (b1 = false ∧ b2 = false ∧ b3 = true ∧ w = "BadFloor")
def tWord (K : PySem.W.Frag) (C a aN aF aL : Addr) : TS := tSeq
  (tAsg (tLst (tCons (tCB (rIsE K C a) (tCons (tVar 0) (tCons (tC (.ref aN)) tNil))) (tCons (tCB (rIsE K C a) (tCons (tVar 0) (tCons (tC (.ref aF)) tNil))) (tCons (tCB (rIsE K C a) (tCons (tVar 0) (tCons (tC (.ref aL)) tNil))) tNil)))) (gName 1))
  (tSeq (tIfS (tOr (tTest (tOp rNe (tCB (rHotSum K) (tCons (tHotInts K (tVar 1)) tNil)) (tC (.int 1)))) (tNot (tB (tCB (rIsE K C a) (tCons (tVar 0) (tCons (tC (.ty "ValueError")) tNil)))))) (tRet (tC (.str "other"))) tNext)
    (tRet (tOp (rIxL K) (tLst (tCons (tC (.str "BadNet")) (tCons (tC (.str "BadFlow")) (tCons (tC (.str "BadFloor")) tNil)))) (tBM K "list" (rIndex K) (tVar 1) (tCons (tC (.bl true)) tNil)))))
theorem ref_rel {a : Addr} : ∀ u, RelV (.ref a) u → u = Value.ref a := fun _ h => h
theorem ty_rel {n : String} : ∀ u, RelV (.ty n) u → u = Value.type n := fun _ h => h
theorem word_reads {K : PySem.W.Frag} {C a aN aF aL : Addr} {b1 b2 b3 : Bool} {w : Str} {H : Hp} {Q : VK} {σ0 : St} (k1 : PySem.W.kitOne K (.ref C) (.ref aN) = some b1) (k2 : PySem.W.kitOne K (.ref C) (.ref aF) = some b2) (k3 : PySem.W.kitOne K (.ref C) (.ref aL) = some b3)
    (kv : PySem.W.kitOne K (.ref C) (.type "ValueError") = some true) (hw : Flags3 b1 b2 b3 w) (hs : σ0[0]? = some (some (.ref a))) (hl : σ0.length = 2) (q : ∀ H', More H H' → Q (.str w) H') : tWord K C a aN aF aL { nx := fun _ H' => Q .non H', rt := Q } σ0 H := by
  have hset : ∀ v, (σ0.set 1 v)[0]? = some (some (.ref a)) := fun v => by rw [List.getElem?_set_ne (by decide)]; exact hs
  have hset1 : ∀ v, (σ0.set 1 v)[1]? = some v := fun v => by rw [List.getElem?_set_self (by omega)]
  refine ⟨.ref a, hs, .ref aN, _, b1, rfl, ref_rel, k1, .ref a, hs, .ref aF, _, b2, rfl, ref_rel, k2, .ref a, hs, .ref aL, _, b3, rfl, ref_rel, k3, Nat.le_of_lt (small1000 (by show 3 ≤ 1000; omega)), fun p hp => ?_⟩
  have sum1 : ([b1, b2, b3].map b01).sum = 1 := by
    rcases hw with ⟨rfl, rfl, rfl, _⟩ | ⟨rfl, rfl, rfl, _⟩ | ⟨rfl, rfl, rfl, _⟩ <;> rfl
  refine ⟨.ref p, hset1 _, p, [b1, b2, b3], rfl, SqL.of upd_same, fun r hr => ⟨r, [b1, b2, b3], rfl, SqL.of upd_same, (by show 3 ≤ 1000; omega), rfl, false, ?_, ?_⟩⟩
  · rw [sum1]
    rfl
  · refine ⟨.ref a, hset _, .ty "ValueError", _, true, rfl, ty_rel, kv, true, rfl, ?_⟩
    refine ⟨Nat.le_of_lt (small1000 (by decide)), fun t ht => ⟨.ref p, hset1 _, .inl ⟨rfl, [V.bl b1, V.bl b2, V.bl b3], ?_⟩, p, [V.bl b1, V.bl b2, V.bl b3], V.bl true, ?_⟩⟩
    · have hpr : p ≠ r := fun z => by subst z; rw [upd_same] at hr; cases hr
      have hpt : p ≠ t := fun z => by subst z; rw [upd_ne hpr, upd_same] at ht; cases ht
      exact SqL.of (by rw [upd_ne hpt, upd_ne hpr, upd_same])
    · have hpr : p ≠ r := fun z => by subst z; rw [upd_same] at hr; cases hr
      have hpt : p ≠ t := fun z => by subst z; rw [upd_ne hpr, upd_same] at ht; cases ht
      have mo : More H (upd (upd (upd H p (.lst [V.bl b1, V.bl b2, V.bl b3])) r (.lst (([b1, b2, b3].map b01).map V.int))) t (.lst [V.str "BadNet", V.str "BadFlow", V.str "BadFloor"])) :=
        ((More.alloc (o := .lst _) hp trivial).trans (More.alloc (o := .lst _) hr trivial)).trans (More.alloc (o := .lst _) ht trivial)
      have sq : SqL K (upd (upd (upd H p (.lst [V.bl b1, V.bl b2, V.bl b3])) r (.lst (([b1, b2, b3].map b01).map V.int))) t (.lst [V.str "BadNet", V.str "BadFlow", V.str "BadFloor"])) p [V.bl b1, V.bl b2, V.bl b3] := SqL.of (by rw [upd_ne hpt, upd_ne hpr, upd_same])
      rcases hw with ⟨rfl, rfl, rfl, e⟩ | ⟨rfl, rfl, rfl, e⟩ | ⟨rfl, rfl, rfl, e⟩ <;> subst e
      · exact ⟨0, .bl true, rfl, rfl, sq, rfl, rfl, rfl, rfl, fun m z' h => absurd h (by omega), t, _, _, _, rfl, rfl, SqL.of upd_same, rfl, q _ mo⟩
      · refine ⟨1, .bl true, rfl, rfl, sq, rfl, rfl, rfl, rfl, fun m z' h e => ?_, t, _, _, _, rfl, rfl, SqL.of upd_same, rfl, q _ mo⟩
        obtain rfl : m = 0 := by omega
        cases e
        rfl
      · refine ⟨2, .bl true, rfl, rfl, sq, rfl, rfl, rfl, rfl, fun m z' h e => ?_, t, _, _, _, rfl, rfl, SqL.of upd_same, rfl, q _ mo⟩
        obtain rfl | rfl : m = 0 ∨ m = 1 := by omega
        all_goals
          cases e
          rfl
/-- the call of word in the suite -/
theorem word_call {Z : Cx} {wn n a0 : Str} {st : Stmt} {f a C aN aF aL : Addr} {fd : FuncData} {oe : Obj} {k : Nat} {b1 b2 b3 : Bool} {w : Str} {N : List Str} {p5 p6 p7 : Pos} {x0 x1 : Str} (F : Fun Z.K wn wn st f fd) (hb : Binds Z.K fd [x0] []) (hN : N = [x0, x1]) (S : FnScope N [x0] (defScope st)) (gm : Z.mg wn = some (.ref f)) (hg : Gl Z wn) (hdb : (wn == ("__debug__" : Str)) = false)
    (hZN : Z.N = NTold a0 n) (hv : Vis Z.env.scope n) (hd : (n == ("__debug__" : Str)) = false) (hcd : (n == ("__classdict__" : Str)) = false) (hst : starEach [.Name n p6] Z.env = (false, eval (.Name n p6) Z.env) :: starEach [] Z.env) (he : HotE Z a oe C) (hr : L2H.RoomH (k + 1) Z.A)
    (k1 : PySem.W.kitOne Z.K (.ref C) (.ref aN) = some b1) (k2 : PySem.W.kitOne Z.K (.ref C) (.ref aF) = some b2) (k3 : PySem.W.kitOne Z.K (.ref C) (.ref aL) = some b3) (kv : PySem.W.kitOne Z.K (.ref C) (.type "ValueError") = some true) (hw : Flags3 b1 b2 b3 w)
    (hbody : ∀ (cdv : Value) (s : Shared) (H : Hp), HotE (L2H.cxH CX0 Z.prog Z.w Z.K Z.mg Z.base N wn (defScope st) f cdv Z.A Z.stack s H E0 (a, oe)) a oe C → PSs (L2H.cxH CX0 Z.prog Z.w Z.K Z.mg Z.base N wn (defScope st) f cdv Z.A Z.stack s H E0 (a, oe)) (defBody st) (tWord Z.K C a aN aF aL)) :
    PE Z (.Call (.Name wn p5) [.Name n p6] [] p7) (fun σ H Q => σ[1]? = some (some (.ref a)) ∧ ∀ H', More H H' → Q (.str w) H') := by
  refine ⟨fun pins s σ H Q I ⟨h1, h2⟩ => ?_⟩
  have ha : PA Z [.Name n p6] (tCons (tVar 1) tNil) := pa_cons (pe_var (by rw [hZN]; rfl) hv hd hcd) pa_nil hst
  refine wpAny_Call_Name_kw (ld_glob I hg gm ?_ hdb)
  refine PySem.W.callWith_K (h₀ := Z.base) I.ok.mod.kin F.kp (thn (ha.run p7 pins s σ H (fun vs H1 => vs = [V.ref a] ∧ H1 = H) I ⟨.ref a, h1, rfl, rfl⟩) fun us s1 ⟨vs, H1, I1, r, ev, eH⟩ => ⟨I1.kIn, ?_⟩) hst (by rfl)
  subst ev
  rw [eH] at I1
  refine run_hot F S hb he hr I1 r rfl fun cdv hr' => ⟨_, hbody cdv s1 H ⟨he.hh, List.mem_cons_self, he.z, he.fl⟩, ?_⟩
  subst hN
  exact word_reads k1 k2 k3 kv hw rfl rfl h2
/-- told, with what the text has left -/
structure ToldOk (K : PySem.W.Frag) (mg : Str → Option Value) (k : Nat) (wd : Addr → Str → Prop) : Prop where
  ex : ∃ (st : Stmt) (g CW : Addr) (fdg : FuncData) (p1 p2 p3 p4 p5 p6 p7 p8 p9 p10 : Pos), Fun K "_law_told" "_law_told" st g fdg ∧ Binds K fdg ["_law_deed"] [] ∧ FnScope (NTold "_law_deed" "_law_e") ["_law_deed"] (defScope st) ∧
    defBody st = [.Try [.Return (some (.Call (.Name "_law_deed" p1) [] [] p2)) p3] [.ExceptHandler (some (.Name "WareError" p4)) (some "_law_e") [.Return (some (.Call (.Name "_law_word" p5) [.Name "_law_e" p6] [] p7)) p8] p9] [] [] p10] ∧
    (defScope st).names.lookup ("_law_e" : Str) = some .local ∧ (defScope st).names.lookup ("_law_deed" : Str) = some .local ∧ (defScope st).names.lookup ("WareError" : Str) = some .globalImplicit ∧ mg "WareError" = some (.ref CW) ∧ mg "_law_told" = some (.ref g) ∧
    (∀ C w, wd C w → PySem.W.exmOne K (.ref C) (.ref CW) = some true) ∧
    ∀ (Z : Cx) (a1 C : Addr) (w : Str) (oe : Obj), Z.K = K → Z.mg = mg → Z.N = NTold "_law_deed" "_law_e" → Z.env.scope = defScope st → wd C w → HotE Z a1 oe C → L2H.RoomH k Z.A → PE Z (.Call (.Name "_law_word" p5) [.Name "_law_e" p6] [] p7) (fun σ H Q => σ[1]? = some (some (.ref a1)) ∧ ∀ H', More H H' → Q (.str w) H')
theorem ed_tell {X : Cx} {c P : Addr} {k n : Nat} {params : Arguments} {body : Expr} {scope : Scope} {f : DX} {wd : Addr → Str → Prop} {p lpos pos : Pos} (T : ToldOk X.K X.mg k wd) (TB : LamX.TabB X.base X.mg c P) (hmT : (P, X.env.qual ++ "<lambda>") ∈ Tn.ns) (hu : ∀ p ∈ Tn.ns, p.1 = P → p.2 = X.env.qual ++ "<lambda>") (hr : Room n X.A)
    (hbody : ∀ (A : Around) (outer : List Env) (s : Shared) (H : Hp) (E : XK) (f1 c' : Addr), Room k (A.deeper (LamX.lamEnv X scope s.heap.objs.size f1 c')) → XD (lamN X A outer s H E scope f1 c') E body f) (hn : k + 2 ≤ n := by decide) (hcode : X.env.code = .ref c := by rfl) (L : LamX.LamS X.env.scope scope := by exact LamX.lamS_by (by kernel_rfl)) (hg : Gl X "_law_told" := by rfl)
    (hdef : defaultsOf params X.env = ([], []) := by rfl) (hbind : ∀ (q : Str) (cl : List (Str × Addr)) (pm cv ctv : Value), bindArgs (PySem.W.kla_fn "<lambda>" q params body scope cl pm cv ctv) ⟨[], []⟩ = pure [] := by intro _ _ _ _ _; rfl) :
    ED X (.Call (.Name "_law_told" p) [.Lambda params body scope lpos] [] pos) (dTold wd f) := by
  obtain ⟨st, g, CW, fdg, p1, p2, p3, p4, p5, p6, p7, p8, p9, p10, F, hb, S, hst, l1, l2, l3, gW, gm, hx, hw⟩ := T.ex
  exact ed_told F hb S hst l1 l2 l3 gW (by decide) hx hw hg gm TB hcode hmT hu (hr.mono hn) L hbody hdef hbind
/-- the name of a lambda made in the def x -/
def lamQ (x : Str) : Str := x ++ ".<locals>." ++ "<lambda>"
/-- a def that makes lambdas: its code object is known -/
theorem fnC {P : Program} {w : World} {K : PySem.W.Frag} {mg : Str → Option Value} {base : Heap} {x : Str} {st : Stmt} {f c : Addr} {fd : FuncData} {N ps : List Str} {k : Nat} {φ : Spc} (F : Fun K x x st f fd) (S : FnScope N ps (defScope st)) (hc : fd.code = .ref c) (len : ∀ ds P Z, φ ds P Z → ds.length = ps.length)
    (body : ∀ (A : Around) (outer : List Env) (s : Shared) (H : Hp) (E : XK), Room k (A.deeper (envOfC x (defScope st) s.heap.objs.size f (.ref c))) →
      ∃ g : DS, SsD (cxOf CX0 P w K mg base N x (defScope st) f (.ref c) A outer s H E).nox E0 (defBody st) g ∧ ∀ ds Q Z, φ ds Q Z → g { nx := fun _ => Q .non, rt := Q } (startS N ds)) : FnOk P w K mg base CX0 (k + 1) f fd ps (spD K φ) := by
  obtain ⟨oc, od, kV, doc, pm, an, cdv, ct, osl, rfl, lk, hcd⟩ := F.ex
  have e : cdv = .ref c := hc
  subst e
  refine fn_of lk hcd S (fun vs H Q E ⟨F', ds, P', Z, s, n, r, h, _⟩ => by rw [← r.length]; exact len ds P' Z h) (fun A outer s H vs Q E hr ⟨F', ds, P', Z, sm, n, r, h, fin, _⟩ => ?_)
  obtain ⟨g, hg, q⟩ := body A outer s H E hr
  exact ⟨_, PSs.nox hg, F', H, F', _, _, stR_start N sm n r, q ds P' Z h, ⟨fun ρ' F2 σ' H' p _ S' => fin .non p .non F2 H' S'.ext .non, fun _ _ _ _ z => z.elim, fun _ _ _ _ z => z.elim, fun d v F2 H' p E' r' => fin d p v F2 H' E' r', fun _ _ _ z => z.elim⟩⟩
end Dy

/-! # The law: what is refused, what is said. -/
namespace Dy
variable [Tn]
open PySem PySem.Spec PyProof.Rows L2
structure WdOk (wd : Addr → Str → Prop) (aF aN : Addr) : Prop where
  f : wd aF "BadFlow"
  n : wd aN "BadNet"
section
variable {wd : Addr → Str → Prop} {aF aN : Addr} {net flow : D} {P : D → Prop} {n : Int} {ways wares : List W3} {rs : List (List Rat)} {m b : Nat}
variable {Z : Addr → Prop}
theorem goes_bad (h1 : NetF net) (h2 : FlowF flow) (h3 : netB net = false) (z : Z aN) : sp_goes aF aN [net, flow] P Z := by
  refine ⟨net, flow, rfl, h1, h2, fun _ => z, fun z => ?_, fun z => ?_⟩ <;> (rw [h3] at z; cases z)
theorem brought_bad (h1 : NetF net) (h2 : FlowF flow) (h3 : netB net = false) (z : Z aN) : sp_brought aF aN [net, flow] P Z := by
  refine ⟨net, flow, rfl, h1, h2, fun _ => z, fun z => ?_, fun z => ?_⟩ <;> (rw [h3] at z; cases z)
theorem goes_badF (h1 : NetF net) (h2 : FlowF flow) (h3 : netB net = true) (h4 : flowB net flow = false) (z : Z aF) : sp_goes aF aN [net, flow] P Z := by
  refine ⟨net, flow, rfl, h1, h2, fun z => ?_, fun _ _ => z, fun _ z => ?_⟩
  · rw [h3] at z; cases z
  · rw [h4] at z; cases z
theorem brought_badF (h1 : NetF net) (h2 : FlowF flow) (h3 : netB net = true) (h4 : flowB net flow = false) (z : Z aF) : sp_brought aF aN [net, flow] P Z := by
  refine ⟨net, flow, rfl, h1, h2, fun z => ?_, fun _ _ => z, fun _ z => ?_⟩
  · rw [h3] at z; cases z
  · rw [h4] at z; cases z
theorem pl_wD (k : Nat) (w : W3) : pl (k + 1) (wD w) = true := by simp
theorem all_wD (l : List W3) : (l.map wD).all (pl 50) = true := by simp
theorem netF_netD (hw : ways.length ≤ 1000) (ha : wares.length ≤ 1000) : NetF (netD n ways wares) := ⟨_, _, _, rfl, pl_int _ _, all_wD _, all_wD _, by simpa using hw, by simpa using ha⟩
theorem wayB_wD {w : W3} (h : WOk n w) : wayB (wD w) n 1 20 = true := by
  obtain ⟨h1, h2, h3, h4, h5, h6, h7⟩ := h
  simp [wayB, cnt_int, h1, h3, h5, h6, h7]
  omega
theorem netB_netD (h : Net n ways wares) : netB (netD n ways wares) = true := by
  have hw : (ways.map wD ++ wares.map wD).all (fun w => wayB w n 1 20) = true := by
    rw [List.all_eq_true]
    intro x hx
    rw [← List.map_append] at hx
    obtain ⟨w, hw, rfl⟩ := List.mem_map.mp hx
    exact wayB_wD (h.w w hw)
  simp [netB, netD, h.n2, h.n6, h.lw, h.l1, h.l3, h.s]
  simpa using hw
theorem fracB_fr (q : Rat) : fracB (fr q) = true := by
  have := q.den_pos
  have := q.reduced
  simp [fracB, fr]
  exact ⟨q.den_pos, q.reduced⟩
theorem shareB_fr {q : Rat} (h : 0 ≤ q) : shareB (fr q) = true := by
  unfold shareB
  rw [fracB_fr]
  simp [fr, Rat.num_nonneg, h]
theorem sharesB_row {r : List Rat} (h : ∀ q ∈ r, 0 ≤ q) : sharesB (rowD r) r.length = true := by
  simp [sharesB, rowD]
  exact fun q hq => shareB_fr (h q hq)
theorem flowB_flowD (h1 : rs.length = wares.length) (h2 : ∀ r ∈ rs, r.length = ways.length ∧ ∀ q ∈ r, 0 ≤ q) : flowB (netD n ways wares) (flowD rs) = true := by
  simp [flowB, netD, flowD, h1]
  intro r hr
  rw [← (h2 r hr).1]
  exact sharesB_row (h2 r hr).2
theorem pl_rowD (k : Nat) (r : List Rat) : pl (k + 2) (rowD r) = true := by simp [rowD]
theorem flowF_of {l : List D} (h1 : l.all (pl 51) = true) (h2 : l.length ≤ 1000000) (h3 : ∀ r ∈ l, ∀ l', r = .lst l' → l'.length ≤ 1000000) : FlowF (.lst l) :=
  ⟨by simpa using h1, fun l' e => by cases e; exact ⟨h2, h3⟩⟩
theorem flowF_flowD (h1 : rs.length ≤ 1000) (h2 : ∀ r ∈ rs, r.length ≤ 1000) : FlowF (flowD rs) := flowF_of (by simp [pl_rowD 49]) (by simp; omega) fun r hr l' e => by
  obtain ⟨r', hr', rfl⟩ := List.mem_map.mp hr
  cases e
  have := h2 r' hr'
  simp
  omega
end
/-! ### the bad nets -/
def badNets (n : Int) (ways wares : List D) : List D :=
  [.tup [.int 1, .lst [], .lst [wD (0, 1, 1)]], .tup [.int 7, .lst ways, .lst wares], .tup [.int n, .lst ways, .lst []], .tup [.int n, .lst ways, .lst (List.replicate 4 wares).flatten], .tup [.int n, .lst ((List.replicate 2 (ways.take 1)).flatten ++ [wD (0, 0, 1)]), .lst wares],
    .tup [.int n, .lst [wD (0, n, 1)], .lst wares], .tup [.int n, .lst [wD (0, 1, 0)], .lst wares], .tup [.int n, .lst [wD (0, 1, 21)], .lst wares], .tup [.int n, .lst [.lst [.int 0, .int 1, .int 1]], .lst wares], .tup [.int n, .lst [wD (1, 0, 1), wD (0, 1, 1)], .lst wares],
    .tup [.int n, .lst ways, .lst [wD (0, 0, 1)]], .tup [.int n, .lst ways, .lst [.tup [.int 0, .int 1, .bl true]]], .tup [.int n, .lst ways, .lst [.tup [.int 0, .int 1]]]]
theorem bad_net {n : Int} {ways wares : List W3} (hn : Net n ways wares) : ∀ d ∈ badNets n (ways.map wD) (wares.map wD), NetF d ∧ netB d = false := by
  have lw := hn.lw
  have l1 := hn.l1
  have l3 := hn.l3
  have hw := all_wD ways
  have ha := all_wD wares
  have tk : ((ways.map wD).take 1).length ≤ 1 := by rw [List.length_take]; omega
  have tka : ((ways.map wD).take 1).all (pl 50) = true := List.all_eq_true.mpr fun x hx => List.all_eq_true.mp hw x (List.mem_of_mem_take hx)
  have F : ∀ {p : D} {a b : List D}, pl 50 p = true → a.all (pl 50) = true → b.all (pl 50) = true → a.length ≤ 1000 → b.length ≤ 1000 → NetF (.tup [p, .lst a, .lst b]) := fun h1 h2 h3 h4 h5 => ⟨_, _, _, rfl, h1, h2, h3, h4, h5⟩
  intro d hd
  simp only [badNets, List.mem_cons, List.not_mem_nil, or_false] at hd
  rcases hd with rfl | rfl | rfl | rfl | rfl | rfl | rfl | rfl | rfl | rfl | rfl | rfl | rfl
  · exact ⟨F (by simp) (by simp) (by simp) (by simp) (by simp), by simp [netB]⟩
  · exact ⟨F (by simp) hw ha (by simp; omega) (by simp; omega), by simp [netB]⟩
  · exact ⟨F (by simp) hw (by simp) (by simp; omega) (by simp), by simp [netB]⟩
  · exact ⟨F (by simp) hw (by simp) (by simp; omega) (by simp; omega), by simp [netB]; omega⟩
  · exact ⟨F (by simp) (by simp at tka ⊢; exact tka) ha (by simp; omega) (by simp; omega), by simp [netB, wayB, cnt_int]⟩
  · exact ⟨F (by simp) (by simp) ha (by simp) (by simp; omega), by simp [netB, wayB, cnt_int]; omega⟩
  · exact ⟨F (by simp) (by simp) ha (by simp) (by simp; omega), by simp [netB, wayB, cnt_int]⟩
  · exact ⟨F (by simp) (by simp) ha (by simp) (by simp; omega), by simp [netB, wayB, cnt_int]⟩
  · exact ⟨F (by simp) (by simp) ha (by simp) (by simp; omega), by simp [netB, wayB, cnt_int]⟩
  · exact ⟨F (by simp) (by simp) ha (by simp) (by simp; omega), by simp [netB, sortB, keyD, HT.lexLt_cons]⟩
  · exact ⟨F (by simp) hw (by simp) (by simp; omega) (by simp), by simp [netB, wayB, cnt_int]⟩
  · exact ⟨F (by simp) hw (by simp) (by simp; omega) (by simp), by simp [netB, wayB, cnt]⟩
  · exact ⟨F (by simp) hw (by simp) (by simp; omega) (by simp), by simp [netB, wayB]⟩
theorem ix_any {l : List D} {z : Int} {K R : D → Prop} (h0 : 0 ≤ z) (h1 : z < l.length) (hK : ∀ d ∈ l, K d) (hR : ∀ d, K d → R d) : ∃ d, atI l z = some d ∧ R d := by
  obtain ⟨i, rfl⟩ := Int.eq_ofNat_of_zero_le h0
  have hi : i < l.length := by omega
  exact ⟨l[i], atI_of (List.getElem?_eq_getElem hi), hR _ (hK _ (List.getElem_mem hi))⟩
def badFlows (ways wares : List W3) (rs : List (List Rat)) : List D :=
  [.lst (rs.map rowD ++ (rs.map rowD).take 1), .lst ((rs.map rowD).drop 1), .lst (rs.map fun r => .lst (r.map fr ++ [.tup [.int 0, .int 1]])), .non, .lst (wares.map (fun _ => .lst (List.replicate ways.length (.tup [.int (-1), .int 1]))) ++ [.lst []]), .lst (List.replicate wares.length .non)]
theorem bad_flow {n : Int} {ways wares : List W3} {rs : List (List Rat)} (hn : Net n ways wares) (h1 : rs.length = wares.length) (h2 : ∀ r ∈ rs, r.length = ways.length) : ∀ d ∈ badFlows ways wares rs, FlowF d ∧ flowB (netD n ways wares) d = false := by
  have lw := hn.lw
  have l1 := hn.l1
  have l3 := hn.l3
  intro d hd
  have hrow : ∀ r ∈ rs.map rowD, ∀ l', r = .lst l' → l'.length ≤ 1000000 := fun r hr l' e => by
    obtain ⟨r', hr', rfl⟩ := List.mem_map.mp hr
    cases e
    have := h2 r' hr'
    simp
    omega
  have hpl : (rs.map rowD).all (pl 51) = true := by simp [pl_rowD 49]
  simp only [badFlows, List.mem_cons, List.not_mem_nil, or_false] at hd
  rcases hd with rfl | rfl | rfl | rfl | rfl | rfl
  · refine ⟨flowF_of ?_ (by simp; omega) (fun r hr => ?_), ?_⟩
    · rw [List.all_append, hpl, Bool.true_and]
      exact List.all_eq_true.mpr fun x hx => List.all_eq_true.mp hpl x (List.mem_of_mem_take hx)
    · rcases List.mem_append.mp hr with z | z
      · exact hrow r z
      · exact hrow r (List.mem_of_mem_take z)
    · simp [flowB, netD]
      first | done | omega
  · refine ⟨flowF_of (List.all_eq_true.mpr fun x hx => List.all_eq_true.mp hpl x (List.mem_of_mem_drop hx)) (by simp; omega) (fun r hr => hrow r (List.mem_of_mem_drop hr)), ?_⟩
    simp [flowB, netD]
    omega
  · refine ⟨flowF_of (by simp) (by simp; omega) (fun r hr l' e => ?_), ?_⟩
    · obtain ⟨r', hr', rfl⟩ := List.mem_map.mp hr
      cases e
      have := h2 r' hr'
      simp
      omega
    · cases rs with
      | nil => simp at h1; omega
      | cons r rs =>
        have := h2 r (by simp)
        simp [flowB, netD, sharesB, this]
  · exact ⟨⟨by simp, fun l e => by cases e⟩, by simp [flowB, netD]⟩
  · refine ⟨flowF_of ?_ (by simp; omega) (fun r hr l' e => ?_), ?_⟩
    · simp
    · rcases List.mem_append.mp hr with z | z
      · obtain ⟨w, hw, rfl⟩ := List.mem_map.mp z
        cases e
        simp
        omega
      · rw [List.mem_singleton.mp z] at e
        cases e
        simp
    · simp [flowB, netD]
  · refine ⟨flowF_of (by simp) (by simp; omega) (fun r hr l' e => ?_), ?_⟩
    · rw [(List.mem_replicate.mp hr).2] at e
      cases e
    · have hl : wares.length = (wares.length - 1) + 1 := by omega
      rw [hl, List.replicate_succ]
      simp [flowB, netD, sharesB]
/-! ### refused_right -/
def sp__law_refused_right : Spc := fun ds Q _ => ∃ (n : Int) (ways wares : List W3) (rs : List (List Rat)) (more : Nat), ds = [netD n ways wares, flowD rs, .int more] ∧ Net n ways wares ∧ rs.length = wares.length ∧ (∀ r ∈ rs, RowOk ways.length 300 r) ∧ Q (.bl true)
theorem len__law_refused_right : ∀ ds Q Z, sp__law_refused_right ds Q Z → ds.length = 3 := len3 (fun ds Q Z ⟨_, _, _, _, _, e, _⟩ => ⟨_, _, _, e⟩)
def g__law_refused_right (a_BadFlow : Addr) (a_BadNet : Addr) (wd : Addr → Str → Prop) : DS := (dSeq2 (dUnp (gdTup 3 (gdCons (gdName 3) (gdCons (gdName 4) (gdCons (gdName 5) gdNil)))) (dVar 0))
    (dSeq2 (dSet 6 (dLst (dCons (dTup (dCons (dC (.int 1)) (dCons (dLst dNil) (dCons (dLst (dCons (dTup (dCons (dC (.int 0)) (dCons (dC (.int 1)) (dCons (dC (.int 1)) dNil)))) dNil)) dNil)))) (dCons (dTup (dCons (dC (.int 7)) (dCons (dVar 4) (dCons (dVar 5) dNil)))) (dCons (dTup (dCons (dVar 3) (dCons (dVar 4) (dCons (dLst dNil) dNil)))) dNil)))))
    (dSeq2 (dSet 6 (dOp addD (dVar 6) (dLst (dCons (dTup (dCons (dVar 3) (dCons (dVar 4) (dCons (dOp mulD (dVar 5) (dC (.int 4))) dNil)))) (dCons (dTup (dCons (dVar 3) (dCons (dOp addD (dOp mulD (dSl (dVar 4) dNoPart (dPart (dC (.int 1)))) (dC (.int 2))) (dLst (dCons (dTup (dCons (dC (.int 0)) (dCons (dC (.int 0)) (dCons (dC (.int 1)) dNil)))) dNil))) (dCons (dVar 5) dNil)))) dNil)))))
    (dSeq2 (dSet 6 (dOp addD (dVar 6) (dLst (dCons (dTup (dCons (dVar 3) (dCons (dLst (dCons (dTup (dCons (dC (.int 0)) (dCons (dVar 3) (dCons (dC (.int 1)) dNil)))) dNil)) (dCons (dVar 5) dNil)))) (dCons (dTup (dCons (dVar 3) (dCons (dLst (dCons (dTup (dCons (dC (.int 0)) (dCons (dC (.int 1)) (dCons (dC (.int 0)) dNil)))) dNil)) (dCons (dVar 5) dNil)))) dNil)))))
    (dSeq2 (dSet 6 (dOp addD (dVar 6) (dLst (dCons (dTup (dCons (dVar 3) (dCons (dLst (dCons (dTup (dCons (dC (.int 0)) (dCons (dC (.int 1)) (dCons (dC (.int 21)) dNil)))) dNil)) (dCons (dVar 5) dNil)))) (dCons (dTup (dCons (dVar 3) (dCons (dLst (dCons (dLst (dCons (dC (.int 0)) (dCons (dC (.int 1)) (dCons (dC (.int 1)) dNil)))) dNil)) (dCons (dVar 5) dNil)))) dNil)))))
    (dSeq2 (dSet 6 (dOp addD (dVar 6) (dLst (dCons (dTup (dCons (dVar 3) (dCons (dLst (dCons (dTup (dCons (dC (.int 1)) (dCons (dC (.int 0)) (dCons (dC (.int 1)) dNil)))) (dCons (dTup (dCons (dC (.int 0)) (dCons (dC (.int 1)) (dCons (dC (.int 1)) dNil)))) dNil))) (dCons (dVar 5) dNil)))) (dCons (dTup (dCons (dVar 3) (dCons (dVar 4) (dCons (dLst (dCons (dTup (dCons (dC (.int 0)) (dCons (dC (.int 0)) (dCons (dC (.int 1)) dNil)))) dNil)) dNil)))) dNil)))))
    (dSeq2 (dSet 6 (dOp addD (dVar 6) (dLst (dCons (dTup (dCons (dVar 3) (dCons (dVar 4) (dCons (dLst (dCons (dTup (dCons (dC (.int 0)) (dCons (dC (.int 1)) (dCons (dC (.bl true)) dNil)))) dNil)) dNil)))) (dCons (dTup (dCons (dVar 3) (dCons (dVar 4) (dCons (dLst (dCons (dTup (dCons (dC (.int 0)) (dCons (dC (.int 1)) dNil))) dNil)) dNil)))) dNil)))))
    (dSeq2 (dSet 7 (dOp ixD (dVar 6) (dOp modD (dVar 2) (dC (.int 13)))))
    (dSeq2 (dSet 8 (dFz (dLc (dSeq (dVar 1)) (gdName 13) dYes (dOp addD (dVar 13) (dLst (dCons (dTup (dCons (dC (.int 0)) (dCons (dC (.int 1)) dNil))) dNil))) [13])))
    (dSeq2 (dSet 9 (dLst (dCons (dOp addD (dVar 1) (dSl (dVar 1) dNoPart (dPart (dC (.int 1))))) (dCons (dSl (dVar 1) (dPart (dC (.int 1))) dNoPart) (dCons (dVar 8) (dCons (dC .non) (dCons (dOp addD (dFz (dLc (dSeq (dVar 5)) (gdName 14) dYes (dOp mulD (dLst (dCons (dTup (dCons (dUn negD (dC (.int 1))) (dCons (dC (.int 1)) dNil))) dNil)) (dCB lenD (dCons (dVar 4) dNil))) [14])) (dLst (dCons (dLst dNil) dNil))) (dCons (dOp mulD (dLst (dCons (dC .non) dNil)) (dCB lenD (dCons (dVar 5) dNil))) dNil))))))))
    (dSeq2 (dSet 10 (dOp ixD (dVar 9) (dOp modD (dOp fdivD (dVar 2) (dC (.int 16))) (dC (.int 6)))))
    (dSeq2 (dIf (dTest (dOp neD (dTold wd (dXCall (sp_need_net a_BadNet) (dCons (dVar 7) dNil))) (dC (.str "BadNet"))))
    (dRet (dC (.bl false)))
    dSkip)
    (dSeq2 (dIf (dTest (dOp neD (dTold wd (dXCall (sp_goes a_BadFlow a_BadNet) (dCons (dVar 7) (dCons (dVar 10) dNil)))) (dC (.str "BadNet"))))
    (dRet (dC (.bl false)))
    dSkip)
    (dSeq2 (dIf (dTest (dOp neD (dTold wd (dXCall (sp_brought a_BadFlow a_BadNet) (dCons (dVar 7) (dCons (dVar 10) dNil)))) (dC (.str "BadNet"))))
    (dRet (dC (.bl false)))
    dSkip)
    (dSeq2 (dIf (dTest (dOp neD (dTold wd (dXCall (sp_goes a_BadFlow a_BadNet) (dCons (dVar 0) (dCons (dVar 10) dNil)))) (dC (.str "BadFlow"))))
    (dRet (dC (.bl false)))
    dSkip)
    (dSeq2 (dIf (dTest (dOp neD (dVar 4) (dLst dNil)))
    (dFor (dSeq (dLst (dCons (dTup (dCons (dUn negD (dC (.int 1))) (dCons (dC (.int 2)) dNil))) (dCons (dTup (dCons (dC (.int 2)) (dCons (dC (.int 4)) dNil))) (dCons (dTup (dCons (dC (.int 1)) (dCons (dC (.int 0)) dNil))) (dCons (dC (.int 1)) (dCons (dC .non) (dCons (dTup (dCons (dC (.bl true)) (dCons (dC (.int 1)) dNil))) dNil)))))))) (gdName 11)
    (dSeq2 (dSet 12 (dOp addD (dLst (dCons (dOp addD (dLst (dCons (dVar 11) dNil)) (dSl (dOp ixD (dVar 1) (dC (.int 0))) (dPart (dC (.int 1))) dNoPart)) dNil)) (dSl (dVar 1) (dPart (dC (.int 1))) dNoPart)))
    (dIf (dTest (dOp neD (dTold wd (dXCall (sp_goes a_BadFlow a_BadNet) (dCons (dVar 0) (dCons (dVar 12) dNil)))) (dC (.str "BadFlow"))))
    (dRet (dC (.bl false)))
    dSkip)))
    dSkip)
    (dRet (dOp eqD (dTold wd (dXCall (sp_brought a_BadFlow a_BadNet) (dCons (dVar 0) (dCons (dVar 10) dNil)))) (dC (.str "BadFlow"))))))))))))))))))))
def refLoop (aF aN : Addr) (wd : Addr → Str → Prop) : DS := (dSeq2 (dSet 12 (dOp addD (dLst (dCons (dOp addD (dLst (dCons (dVar 11) dNil)) (dSl (dOp ixD (dVar 1) (dC (.int 0))) (dPart (dC (.int 1))) dNoPart)) dNil)) (dSl (dVar 1) (dPart (dC (.int 1))) dNoPart)))
    (dIf (dTest (dOp neD (dTold wd (dXCall (sp_goes aF aN) (dCons (dVar 0) (dCons (dVar 12) dNil)))) (dC (.str "BadFlow"))))
    (dRet (dC (.bl false)))
    dSkip))
theorem refused_loop {aF aN : Addr} {wd : Addr → Str → Prop} (W : WdOk wd aF aN) {G : DEnds} {n : Int} {ways wares : List W3} {rs : List (List Rat)} {s2 s3 s4 s5 s6 s7 s8 s9 s10 x11 x12 x13 x14 : Sl} (hn : Net n ways wares) (h1 : rs.length = wares.length) (h2 : ∀ r ∈ rs, r.length = ways.length) (hw : ways ≠ []) {items : List D} (hi : ∀ d ∈ items, pl 50 d = true ∧ shareB d = false)
    (hG : ∀ x11 x12, G.nx [.d (netD n ways wares), .d (flowD rs), s2, s3, s4, s5, s6, s7, s8, s9, s10, x11, x12, x13, x14]) : forI (gdName 11) (refLoop aF aN wd) G items [.d (netD n ways wares), .d (flowD rs), s2, s3, s4, s5, s6, s7, s8, s9, s10, x11, x12, x13, x14] := by
  have lw := hn.lw
  have l1 := hn.l1
  have l3 := hn.l3
  have sF : PyData.strOk "BadFlow" = true := by decide +kernel
  have hlw : 0 < ways.length := List.length_pos_iff.mpr hw
  refine ⟨fun rest ρ => (∀ d ∈ rest, pl 50 d = true ∧ shareB d = false) ∧ ∃ x11 x12, ρ = [.d (netD n ways wares), .d (flowD rs), s2, s3, s4, s5, s6, s7, s8, s9, s10, x11, x12, x13, x14], ⟨hi, _, _, rfl⟩, ?_, ?_⟩
  · rintro d rest ρ ⟨hi, x11, x12, rfl⟩
    obtain ⟨hd1, hd2⟩ := hi d (by simp)
    cases rs with
    | nil => simp at h1; omega
    | cons r rs =>
      have hr := h2 r (by simp)
      have hl : rs.length ≤ 3 := by simp at h1; omega
      have hF : FlowF (.lst (.lst (d :: (r.map fr).tail) :: rs.map rowD)) := by
        refine flowF_of ?_ (by simp; omega) (fun r' hr' l' e => ?_)
        · simp [hd1, pl_rowD 49]
          intro x hx
          obtain ⟨q, _, rfl⟩ := List.mem_map.mp (List.mem_of_mem_tail hx)
          simp
        · rcases List.mem_cons.mp hr' with z | z
          · rw [z] at e
            cases e
            simp
            omega
          · obtain ⟨r2, hr2, rfl⟩ := List.mem_map.mp z
            cases e
            have := h2 r2 (by simp [hr2])
            simp
            omega
      have hB : flowB (netD n ways wares) (.lst (.lst (d :: (r.map fr).tail) :: rs.map rowD)) = false := by
        simp [flowB, netD, sharesB, hd2]
      simp [refLoop, flowD, rowD, and_assoc, sF]
      refine ⟨by omega, by omega, goes_badF (netF_netD (by omega) (by omega)) hF (netB_netD hn) hB ⟨_, W.f, sF, ?_⟩⟩
      simp
      exact fun e he => hi e (by simp [he])
  · rintro ρ ⟨_, x11, x12, rfl⟩
    exact hG _ _
theorem pure__law_refused_right (aF aN : Addr) (wd : Addr → Str → Prop) (W : WdOk wd aF aN) : ∀ ds Q Z, sp__law_refused_right ds Q Z → g__law_refused_right aF aN wd { nx := fun _ => Q .non, rt := Q } (startS ["_law_net_here", "_law_flow_here", "_law_more", "_law_places", "_law_ways", "_law_wares", "_law_bad", "_law_none", "_law_long", "_law_odd", "_law_wrong", "_law_one", "_law_spoilt", "_law_row", "_law_ware"] ds) := by
  rintro ds Q Z ⟨n, ways, wares, rs, more, rfl, hn, hlen, hrs, h⟩
  have lw := hn.lw
  have l1 := hn.l1
  have l3 := hn.l3
  have sN : PyData.strOk "BadNet" = true := by decide +kernel
  have sF : PyData.strOk "BadFlow" = true := by decide +kernel
  have hnb := netB_netD hn
  have hnF : NetF (netD n ways wares) := netF_netD (by omega) (by omega)
  simp [g__law_refused_right, netD, flowD, and_assoc, sN, sF]
  refine ⟨by omega, by omega, by omega, ix_any (K := fun d => NetF d ∧ netB d = false) (by omega) (by simp; omega) (by simpa [badNets] using bad_net hn) fun d hd => ⟨by omega, lc_mapE (fun r => .lst (r.map fr ++ [.tup [.int 0, .int 1]])) (fun r hr Q q => ?_) ?_⟩⟩
  · have := (hrs r hr).1
    simp [rowD]
    exact ⟨by omega, q⟩
  refine ⟨by omega, by omega, lc_mapE (fun _ => .lst (List.replicate ways.length (.tup [.int (-1), .int 1]))) (fun w hw Q q => ?_) ?_⟩
  · simp
    exact ⟨by omega, by omega, q⟩
  refine ⟨by simp; omega, by omega, by omega, divC (by decide) (by decide), ix_any (K := fun d => FlowF d ∧ flowB (netD n ways wares) d = false) (by omega) (by simp; omega) (by simpa [badFlows] using bad_flow hn hlen fun r hr => (hrs r hr).1) fun f hf => ?_⟩
  refine ⟨hd.1, ?_⟩
  rw [if_neg (by simp [hd.2])]
  refine ⟨_, W.n, sN, ?_⟩
  simp
  refine goes_bad hd.1 hf.1 hd.2 ⟨_, W.n, sN, ?_⟩
  simp
  refine brought_bad hd.1 hf.1 hd.2 ⟨_, W.n, sN, ?_⟩
  simp
  refine goes_badF hnF hf.1 hnb hf.2 ⟨_, W.f, sF, ?_⟩
  simp
  have fin : sp_brought aF aN [netD n ways wares, f] (fun x => lay 60 x = true ∧ Q (D.bl (eqv x (D.str "BadFlow")))) fun C => ∃ w, wd C w ∧ PyData.strOk w = true ∧ Q (D.bl (w == "BadFlow")) :=
    brought_badF hnF hf.1 hnb hf.2 ⟨_, W.f, sF, by simpa using h⟩
  by_cases hw : ways = []
  · rw [if_pos hw]
    exact fin
  · rw [if_neg hw]
    refine refused_loop W hn hlen (fun r hr => (hrs r hr).1) hw ?_ fun x11 x12 => ?_
    · intro d hd
      simp only [List.mem_cons, List.not_mem_nil, or_false] at hd
      rcases hd with rfl | rfl | rfl | rfl | rfl | rfl <;> simp [shareB, fracB]
    · simpa [sF] using fin
/-! ### the law -/
def sp_law : Spc := fun ds Q _ => ∃ ns : List Int, ds = [.scr ns] ∧ ns.length ≤ 1000 ∧ Q (.bl true)
theorem len_law : ∀ ds Q Z, sp_law ds Q Z → ds.length = 1 := len1 (fun ds Q Z ⟨_, e, _⟩ => ⟨_, e⟩)
def g_law (a_BadFlow : Addr) (a_BadNet : Addr) (wd : Addr → Str → Prop) : DS := (dSeq2 (dFor (dRng1 (dCons (dCB max2D (dCons (dC (.int 1)) (dCons (dCB min2D (dCons (dC (.int 4)) (dCons (dCB lenD (dCons (dVar 0) dNil)) dNil))) dNil))) dNil)) (gdName 1)
    (dSeq2 (dSet 2 (dCall sp__law_drawn (dCons (dCall sp__law_cell (dCons (dVar 0) (dCons (dVar 1) dNil))) (dCons (dVar 1) dNil))))
    (dSeq2 (dSet 3 (dCall sp__law_net (dCons (dVar 2) dNil)))
    (dSeq2 (dIf (dTest (dOp notND (dTold wd (dXCall (sp_need_net a_BadNet) (dCons (dVar 3) dNil))) (dC .non)))
    (dRet (dC (.bl false)))
    dSkip)
    (dSeq2 (dFor (dRng1 (dCons (dC (.int 3)) dNil)) (gdName 4)
    (dSeq2 (dSet 5 (dCall sp__law_flow (dCons (dVar 3) (dCons (dCall sp__law_drawn (dCons (dVar 2) (dCons (dOp addD (dC (.int 80)) (dVar 4)) dNil))) dNil))))
    (dSeq2 (dSet 6 (dTold wd (dXCall (sp_goes a_BadFlow a_BadNet) (dCons (dVar 3) (dCons (dVar 5) dNil)))))
    (dSeq2 (dIf (dOrT (dNotT (dTest (dIsi "bool" (dVar 6)))) (dTest (dOp neD (dVar 6) (dCall sp__law_goes (dCons (dVar 3) (dCons (dVar 5) dNil))))))
    (dRet (dC (.bl false)))
    dSkip)
    (dIf (dTest (dOp neD (dTold wd (dXCall (sp_brought a_BadFlow a_BadNet) (dCons (dVar 3) (dCons (dVar 5) dNil)))) (dCall sp__law_brought (dCons (dVar 3) (dCons (dVar 5) dNil)))))
    (dRet (dC (.bl false)))
    dSkip)))))
    (dIf (dNotT (dTest (dCall sp__law_refused_right (dCons (dVar 3) (dCons (dVar 5) (dCons (dOp fdivD (dVar 2) (dOp powD (dC (.int 2)) (dC (.int 20)))) dNil))))))
    (dRet (dC (.bl false)))
    dSkip))))))
    (dRet (dC (.bl true))))
theorem flo_of {n : Int} {ways wares : List W3} {rs : List (List Rat)} (h1 : rs.length = wares.length) (h2 : ∀ r ∈ rs, RowOk ways.length 300 r) : Flo 6 300 ways wares rs :=
  ⟨by decide, by rw [bD_eq]; exact Nat.lt_of_lt_of_le (by decide : 6 < 2 ^ 3) (Nat.pow_le_pow_right (by decide) (by decide)), by rw [bN_eq]; exact Nat.lt_of_lt_of_le (by decide : 1000 * 300 < 2 ^ 20) (Nat.pow_le_pow_right (by decide) (by decide)), h1, fun r hr => (h2 r hr).1, fun r hr q hq => ((h2 r hr).2 q hq).2⟩
section
variable {wd : Addr → Str → Prop} {aF aN : Addr} {P : D → Prop} {Z : Addr → Prop} {n : Int} {ways wares : List W3} {rs : List (List Rat)}
theorem goes_ok (hn : Net n ways wares) (h1 : rs.length = wares.length) (h2 : ∀ r ∈ rs, RowOk ways.length 300 r) (p : P (.bl (goB n ways wares rs))) : sp_goes aF aN [netD n ways wares, flowD rs] P Z := by
  have lw := hn.lw
  have l3 := hn.l3
  refine ⟨_, _, rfl, netF_netD (by omega) (by omega), flowF_flowD (by omega) (fun r hr => by have := (h2 r hr).1; omega), fun z => ?_, fun _ z => ?_, fun _ _ => ⟨n, ways, wares, rs, 6, 300, rfl, rfl, hn, flo_of (n := n) h1 h2, p⟩⟩
  · rw [netB_netD hn] at z; cases z
  · rw [flowB_flowD h1 fun r hr => ⟨(h2 r hr).1, fun q hq => ((h2 r hr).2 q hq).1⟩] at z; cases z
theorem brought_ok (hn : Net n ways wares) (h1 : rs.length = wares.length) (h2 : ∀ r ∈ rs, RowOk ways.length 300 r) (p : P (.lst ((brL ways wares rs).map fr))) : sp_brought aF aN [netD n ways wares, flowD rs] P Z := by
  have lw := hn.lw
  have l3 := hn.l3
  refine ⟨_, _, rfl, netF_netD (by omega) (by omega), flowF_flowD (by omega) (fun r hr => by have := (h2 r hr).1; omega), fun z => ?_, fun _ z => ?_, fun _ _ => ⟨n, ways, wares, rs, 6, 300, rfl, rfl, hn, flo_of (n := n) h1 h2, p⟩⟩
  · rw [netB_netD hn] at z; cases z
  · rw [flowB_flowD h1 fun r hr => ⟨(h2 r hr).1, fun q hq => ((h2 r hr).2 q hq).1⟩] at z; cases z
end
theorem pure_law (aF aN : Addr) (wd : Addr → Str → Prop) (W : WdOk wd aF aN) : ∀ ds Q Z, sp_law ds Q Z → g_law aF aN wd { nx := fun _ => Q .non, rt := Q } (startS ["_law_script", "_law_k", "_law_more", "_law_net_here", "_law_j", "_law_flow_here", "_law_told_here"] ds) := by
  rintro ds Q Z ⟨ns, rfl, hns, h⟩
  simp [g_law, and_assoc]
  generalize hm : (if (if (ns.length : Int) < 4 then (ns.length : Int) else 4) > 1 then (if (ns.length : Int) < 4 then (ns.length : Int) else 4) else 1) = m
  have m1 : 1 ≤ m := by rw [← hm]; split <;> omega
  have m4 : m ≤ 4 := by rw [← hm]; split <;> (try split) <;> omega
  refine ⟨by omega, by omega, for_E (fun done left ρ => ∃ x1 x2 x3 x4 x5 x6, ρ = [.d (.scr ns), x1, x2, x3, x4, x5, x6]) ⟨_, _, _, _, _, _, rfl⟩ ?_ ?_⟩
  · rintro done k left ρ N e ⟨x1, x2, x3, x4, x5, x6, rfl⟩ hN
    have hk : k < m.toNat := List.mem_range.mp (by rw [← e]; simp)
    simp [and_assoc]
    refine ⟨ns, k, rfl, by omega, hns, fun v => drawn_at fun more => ⟨more, rfl, fun n ways wares hn hn5 hl8 _ => ?_⟩⟩
    have lw := hn.lw
    have l3 := hn.l3
    simp [netB_netD hn, netF_netD (n := n) (ways := ways) (wares := wares) (by omega) (by omega)]
    refine for_E (fun dn lf ρ => ∃ x4 x5 x6, ρ = [.d (.scr ns), .d (.int k), .d (.int more), .d (netD n ways wares), x4, x5, x6] ∧ (0 < dn.length → ∃ rs : List (List Rat), x5 = .d (flowD rs) ∧ rs.length = wares.length ∧ ∀ r ∈ rs, RowOk ways.length 300 r)) ⟨_, _, _, rfl, by simp⟩ ?_ ?_
    · rintro dn j lf ρ N2 e2 ⟨x4, x5, x6, rfl, _⟩ hN2
      simp [and_assoc]
      refine drawn_atI (by omega) fun mo => ⟨n, ways, wares, mo, rfl, hn, hn5, hl8, fun rs hrs1 hrs2 => ?_⟩
      have hrs : ∀ r ∈ rs, RowOk ways.length 300 r := hrs2
      simp [and_assoc]
      refine goes_ok hn hrs1 hrs ?_
      simp [and_assoc]
      refine ⟨n, ways, wares, rs, 6, 300, rfl, hn, flo_of (n := n) hrs1 hrs, ?_⟩
      simp [and_assoc]
      refine brought_ok hn hrs1 hrs ⟨n, ways, wares, rs, 6, 300, rfl, hn, flo_of (n := n) hrs1 hrs, ?_⟩
      simp [eqv_self]
      exact hN2 _ ⟨_, _, _, rfl, fun _ => ⟨rs, rfl, hrs1, hrs⟩⟩
    · rintro ρ ⟨x4, x5, x6, rfl, h5⟩
      obtain ⟨rs, rfl, hrs1, hrs⟩ := h5 (by simp)
      simp [and_assoc]
      refine ⟨by unfold CPow; decide, divSm (by decide) (small_lt (by decide)), ?_⟩
      have e2 : (more : Int) / 1048576 = ((more / 1048576 : Nat) : Int) := by simp
      refine ⟨n, ways, wares, rs, more / 1048576, by rw [← e2], hn, hrs1, hrs, ?_⟩
      simp
      exact hN _ ⟨_, _, _, _, _, _, rfl⟩
  · rintro ρ ⟨x1, x2, x3, x4, x5, x6, rfl⟩
    simpa using h
end Dy

/-! # The program's text, def by def. -/
namespace Dy
variable [Tn]
open PySem PySem.Spec PyProof.Rows L2
def topS (i : Nat) : Stmt := PySem.Challenge.pw_sharedways_k10_nets_and_flows.main.body.getD i (.Pass ⟨0, 0, 0, 0⟩)
structure Blt (mg : Str → Option Value) : Prop where
  isinstance : mg "isinstance" = none
  n_len : mg "len" = none
  n_abs : mg "abs" = none
  n_all : mg "all" = none
  n_any : mg "any" = none
  n_sum : mg "sum" = none
  n_int : mg "int" = none
  n_bool : mg "bool" = none
  n_tuple : mg "tuple" = none
  n_list : mg "list" = none
  n_range : mg "range" = none
  n_enumerate : mg "enumerate" = none
  n_zip : mg "zip" = none
  n_max : mg "max" = none
  n_min : mg "min" = none
  n_ValueError : mg "ValueError" = none
/-- an exception's class that stands in the module -/
structure ExcD (K : PySem.W.Frag) (mg : Str → Option Value) (x : Str) (C : Addr) : Prop where
  g : mg x = some (.ref C)
  k : PySem.W.keepIn K (.ref C) = true
  x : PySem.W.excIn K C [.type "ValueError", .type "Exception", .type "BaseException", .type "object"] "ValueError.__new__" = true
  b : PySem.W.subIn K (.ref C) (.type "BaseException") = some true
  t : PySem.W.typeIn K (.ref C) = some (.type "type")
section
variable {P : Program} {w : World} {K : PySem.W.Frag} {mg : Str → Option Value} {base : Heap}
abbrev s_common : Stmt := topS 7
abbrev N_common : List Str := ["one", "other"]
theorem sc_common : FnScope N_common ["one", "other"] (defScope s_common) := ⟨rfl, rfl, rfl, by decide +kernel, rfl, by decide +kernel, by decide +kernel⟩
theorem ok_common (B : Blt mg) {f : Addr} {fd : FuncData} (F : Fun K "common" "common" s_common f fd) (gm : mg "common" = some (.ref f)) : DefD P w K mg base CX0 "common" 1 sp_common := by
  refine fnD F sc_common gm (F.binds fun _ _ _ _ _ _ us hl => match us, hl with | [_, _], _ => rfl) len_common (fun cdv A outer s H E hr => ⟨g_common, ?_, pure_common⟩)
  exact (sd_cons (sd_while PassesOwn.never (td_cmp oGt (ed_var 1) ed_int (nomark _))
    (sd_one (sd_par 0 1 rfl sc_common.nd (ad_cons (ed_var 1) (ad_cons (ed_op oMod (ed_var 0) (ed_var 1)) ad_nil)))))
    (sd_one (sd_ret (ed_var 0))))
abbrev s_fraction : Stmt := topS 8
abbrev N_fraction : List Str := ["top", "under", "part"]
theorem sc_fraction : FnScope N_fraction ["top", "under"] (defScope s_fraction) := ⟨rfl, rfl, rfl, by decide +kernel, rfl, by decide +kernel, by decide +kernel⟩
theorem ok_fraction (B : Blt mg) {f : Addr} {fd : FuncData} (F : Fun K "fraction" "fraction" s_fraction f fd) (gm : mg "fraction" = some (.ref f)) (D_common : DefD P w K mg base CX0 "common" 1 sp_common) : DefD P w K mg base CX0 "fraction" 2 sp_fraction := by
  refine fnD F sc_fraction gm (F.binds fun _ _ _ _ _ _ us hl => match us, hl with | [_, _], _ => rfl) len_fraction (fun cdv A outer s H E hr => ⟨g_fraction, ?_, pure_fraction⟩)
  exact (sd_cons (sd_set 2 sc_fraction.nd (ed_call D_common hr pass0 (ad_cons (ed_callB (cAbs) B.n_abs (by decide +kernel) (ad_cons (ed_var 0) ad_nil)) (ad_cons (ed_var 1) ad_nil))))
    (sd_one (sd_ret (ed_tup (ad_cons (ed_op oFdiv (ed_var 0) (ed_var 2)) (ad_cons (ed_op oFdiv (ed_var 1) (ed_var 2)) ad_nil))))))
abbrev s_plus : Stmt := topS 9
abbrev N_plus : List Str := ["one", "other"]
theorem sc_plus : FnScope N_plus ["one", "other"] (defScope s_plus) := ⟨rfl, rfl, rfl, by decide +kernel, rfl, by decide +kernel, by decide +kernel⟩
theorem ok_plus (B : Blt mg) {f : Addr} {fd : FuncData} (F : Fun K "plus" "plus" s_plus f fd) (gm : mg "plus" = some (.ref f)) (D_fraction : DefD P w K mg base CX0 "fraction" 2 sp_fraction) : DefD P w K mg base CX0 "plus" 3 sp_plus := by
  refine fnD F sc_plus gm (F.binds fun _ _ _ _ _ _ us hl => match us, hl with | [_, _], _ => rfl) len_plus (fun cdv A outer s H E hr => ⟨g_plus, ?_, pure_plus⟩)
  exact (sd_one (sd_ret (ed_call D_fraction hr pass0 (ad_cons (ed_op oAdd (ed_op oMul (ed_ix (ed_var 0) ed_int) (ed_ix (ed_var 1) ed_int)) (ed_op oMul (ed_ix (ed_var 1) ed_int) (ed_ix (ed_var 0) ed_int))) (ad_cons (ed_op oMul (ed_ix (ed_var 0) ed_int) (ed_ix (ed_var 1) ed_int)) ad_nil)))))
abbrev s_minus : Stmt := topS 10
abbrev N_minus : List Str := ["one", "other"]
theorem sc_minus : FnScope N_minus ["one", "other"] (defScope s_minus) := ⟨rfl, rfl, rfl, by decide +kernel, rfl, by decide +kernel, by decide +kernel⟩
theorem ok_minus (B : Blt mg) {f : Addr} {fd : FuncData} (F : Fun K "minus" "minus" s_minus f fd) (gm : mg "minus" = some (.ref f)) (D_fraction : DefD P w K mg base CX0 "fraction" 2 sp_fraction) : DefD P w K mg base CX0 "minus" 3 sp_minus := by
  refine fnD F sc_minus gm (F.binds fun _ _ _ _ _ _ us hl => match us, hl with | [_, _], _ => rfl) len_minus (fun cdv A outer s H E hr => ⟨g_minus, ?_, pure_minus⟩)
  exact (sd_one (sd_ret (ed_call D_fraction hr pass0 (ad_cons (ed_op oSub (ed_op oMul (ed_ix (ed_var 0) ed_int) (ed_ix (ed_var 1) ed_int)) (ed_op oMul (ed_ix (ed_var 1) ed_int) (ed_ix (ed_var 0) ed_int))) (ad_cons (ed_op oMul (ed_ix (ed_var 0) ed_int) (ed_ix (ed_var 1) ed_int)) ad_nil)))))
abbrev s_is_less : Stmt := topS 11
abbrev N_is_less : List Str := ["one", "other"]
theorem sc_is_less : FnScope N_is_less ["one", "other"] (defScope s_is_less) := ⟨rfl, rfl, rfl, by decide +kernel, rfl, by decide +kernel, by decide +kernel⟩
theorem ok_is_less (B : Blt mg) {f : Addr} {fd : FuncData} (F : Fun K "is_less" "is_less" s_is_less f fd) (gm : mg "is_less" = some (.ref f)) : DefD P w K mg base CX0 "is_less" 1 sp_is_less := by
  refine fnD F sc_is_less gm (F.binds fun _ _ _ _ _ _ us hl => match us, hl with | [_, _], _ => rfl) len_is_less (fun cdv A outer s H E hr => ⟨g_is_less, ?_, pure_is_less⟩)
  exact (sd_one (sd_ret (ed_cmp (oLt hr.units0) (ed_op oMul (ed_ix (ed_var 0) ed_int) (ed_ix (ed_var 1) ed_int)) (ed_op oMul (ed_ix (ed_var 1) ed_int) (ed_ix (ed_var 0) ed_int)) (nomark _))))
abbrev s_total : Stmt := topS 12
abbrev N_total : List Str := ["some", "found", "one"]
theorem sc_total : FnScope N_total ["some"] (defScope s_total) := ⟨rfl, rfl, rfl, by decide +kernel, rfl, by decide +kernel, by decide +kernel⟩
theorem ok_total (B : Blt mg) {f : Addr} {fd : FuncData} (F : Fun K "total" "total" s_total f fd) (gm : mg "total" = some (.ref f)) (C_NOUGHT : Gc K mg "NOUGHT" c_NOUGHT) (D_plus : DefD P w K mg base CX0 "plus" 3 sp_plus) : DefD P w K mg base CX0 "total" 4 sp_total := by
  refine fnD F sc_total gm (F.binds fun _ _ _ _ _ _ us hl => match us, hl with | [_], _ => rfl) len_total (fun cdv A outer s H E hr => ⟨g_total, ?_, pure_total⟩)
  exact (sd_cons (sd_set 1 sc_total.nd (ed_glob C_NOUGHT))
    (sd_cons (sd_for PassesOwn.never rfl (id_seq (ed_var 0)) (gd_name 2 sc_total.nd)
    (sd_one (sd_set 1 sc_total.nd (ed_call D_plus hr pass0 (ad_cons (ed_var 1) (ad_cons (ed_var 2) ad_nil))))))
    (sd_one (sd_ret (ed_var 1)))))
abbrev s_is_fraction : Stmt := topS 13
abbrev N_is_fraction : List Str := ["thing", "part"]
theorem sc_is_fraction : FnScope N_is_fraction ["thing"] (defScope s_is_fraction) := ⟨rfl, rfl, rfl, by decide +kernel, rfl, by decide +kernel, by decide +kernel⟩
theorem ok_is_fraction (B : Blt mg) {f : Addr} {fd : FuncData} (F : Fun K "is_fraction" "is_fraction" s_is_fraction f fd) (gm : mg "is_fraction" = some (.ref f)) (D_common : DefD P w K mg base CX0 "common" 1 sp_common) : DefD P w K mg base CX0 "is_fraction" 2 sp_is_fraction := by
  refine fnD F sc_is_fraction gm (F.binds fun _ _ _ _ _ _ us hl => match us, hl with | [_], _ => rfl) len_is_fraction (fun cdv A outer s H E hr => ⟨g_is_fraction, ?_, pure_is_fraction⟩)
  exact (sd_cons (sd_if (PW.pt (wd_or (td_not (td_val (ed_isi (Ts := "tuple") (ed_var 0) (by decide) B.isinstance B.n_tuple (by decide +kernel)))) (wd_or1 (td_cmp (oNe hr.units) (ed_callB (cLen) B.n_len PySem.boot_len (ad_cons (ed_var 0) ad_nil)) ed_int (nomark _)))))
    (sd_one (sd_ret ed_bl))
    sd_nil)
    (sd_cons (sd_if (td_not (td_val (ed_callB (cAll rfl) B.n_all (by decide +kernel) (ad_cons (ed_fresh (ld_lc (own := [("part", 1)]) rfl sc_is_fraction.nd (id_seq (ed_var 0)) (blkOk_by (N := N_is_fraction) (sc := defScope s_is_fraction) (by decide +kernel)) (fun _ _ _ _ _ => (gd_name 1 sc_is_fraction.nd)) (fun _ _ _ _ _ => tsd_nil) (fun _ _ _ _ _ => (ed_and (ed_isi (Ts := "int") (ed_var 1) (by decide) B.isinstance B.n_int (by decide +kernel)) (ed_one (ed_not (ed_isi (Ts := "bool") (ed_var 1) (by decide) B.isinstance B.n_bool (by decide +kernel)))))))) ad_nil))))
    (sd_one (sd_ret ed_bl))
    sd_nil)
    (sd_one (sd_ret (ed_and (ed_cmp oGt (ed_ix (ed_var 0) ed_int) ed_int (nomark _)) (ed_one (ed_cmp (oEq hr.units) (ed_call D_common hr pass0 (ad_cons (ed_callB (cAbs) B.n_abs (by decide +kernel) (ad_cons (ed_ix (ed_var 0) ed_int) ad_nil)) (ad_cons (ed_ix (ed_var 0) ed_int) ad_nil))) ed_int (nomark _))))))))
abbrev s_are_shares : Stmt := topS 14
abbrev N_are_shares : List Str := ["thing", "many", "one"]
theorem sc_are_shares : FnScope N_are_shares ["thing", "many"] (defScope s_are_shares) := ⟨rfl, rfl, rfl, by decide +kernel, rfl, by decide +kernel, by decide +kernel⟩
theorem ok_are_shares (B : Blt mg) {f : Addr} {fd : FuncData} (F : Fun K "are_shares" "are_shares" s_are_shares f fd) (gm : mg "are_shares" = some (.ref f)) (D_is_fraction : DefD P w K mg base CX0 "is_fraction" 2 sp_is_fraction) : DefD P w K mg base CX0 "are_shares" 3 sp_are_shares := by
  refine fnD F sc_are_shares gm (F.binds fun _ _ _ _ _ _ us hl => match us, hl with | [_, _], _ => rfl) len_are_shares (fun cdv A outer s H E hr => ⟨g_are_shares, ?_, pure_are_shares⟩)
  exact (sd_cons (sd_if (PW.pt (wd_or (td_not (td_val (ed_isi (Ts := "list") (ed_var 0) (by decide) B.isinstance B.n_list (by decide +kernel)))) (wd_or1 (td_cmp (oNe hr.units) (ed_callB (cLen) B.n_len PySem.boot_len (ad_cons (ed_var 0) ad_nil)) (ed_var 1) (nomark _)))))
    (sd_one (sd_ret ed_bl))
    sd_nil)
    (sd_one (sd_ret (ed_callB (cAll rfl) B.n_all (by decide +kernel) (ad_cons (ed_fresh (ld_lc (own := [("one", 2)]) rfl sc_are_shares.nd (id_seq (ed_var 0)) (blkOk_by (N := N_are_shares) (sc := defScope s_are_shares) (by decide +kernel)) (fun _ _ _ _ _ => (gd_name 2 sc_are_shares.nd)) (fun _ _ _ _ _ => tsd_nil) (fun _ _ _ _ _ => (ed_and (ed_call D_is_fraction hr pass0 (ad_cons (ed_var 2) ad_nil)) (ed_one (ed_cmp oGe (ed_ix (ed_var 2) ed_int) ed_int (nomark _))))))) ad_nil)))))
abbrev s_is_count : Stmt := topS 20
abbrev N_is_count : List Str := ["thing", "least", "most"]
theorem sc_is_count : FnScope N_is_count ["thing", "least", "most"] (defScope s_is_count) := ⟨rfl, rfl, rfl, by decide +kernel, rfl, by decide +kernel, by decide +kernel⟩
theorem ok_is_count (B : Blt mg) {f : Addr} {fd : FuncData} (F : Fun K "is_count" "is_count" s_is_count f fd) (gm : mg "is_count" = some (.ref f)) : DefD P w K mg base CX0 "is_count" 1 sp_is_count := by
  refine fnD F sc_is_count gm (F.binds fun _ _ _ _ _ _ us hl => match us, hl with | [_, _, _], _ => rfl) len_is_count (fun cdv A outer s H E hr => ⟨g_is_count, ?_, pure_is_count⟩)
  exact (sd_one (sd_ret (ed_and (ed_isi (Ts := "int") (ed_var 0) (by decide) B.isinstance B.n_int (by decide +kernel)) (ed_and (ed_not (ed_isi (Ts := "bool") (ed_var 0) (by decide) B.isinstance B.n_bool (by decide +kernel))) (ed_one (ed_chain oLe oLe (ed_var 1) (ed_var 0) (ed_var 2)))))))
abbrev s_is_way : Stmt := topS 21
abbrev N_is_way : List Str := ["thing", "places", "least", "most", "place"]
theorem sc_is_way : FnScope N_is_way ["thing", "places", "least", "most"] (defScope s_is_way) := ⟨rfl, rfl, rfl, by decide +kernel, rfl, by decide +kernel, by decide +kernel⟩
theorem ok_is_way (B : Blt mg) {f : Addr} {fd : FuncData} (F : Fun K "is_way" "is_way" s_is_way f fd) (gm : mg "is_way" = some (.ref f)) (D_is_count : DefD P w K mg base CX0 "is_count" 1 sp_is_count) : DefD P w K mg base CX0 "is_way" 2 sp_is_way := by
  refine fnD F sc_is_way gm (F.binds fun _ _ _ _ _ _ us hl => match us, hl with | [_, _, _, _], _ => rfl) len_is_way (fun cdv A outer s H E hr => ⟨g_is_way, ?_, pure_is_way⟩)
  exact (sd_cons (sd_if (PW.pt (wd_or (td_not (td_val (ed_isi (Ts := "tuple") (ed_var 0) (by decide) B.isinstance B.n_tuple (by decide +kernel)))) (wd_or1 (td_cmp (oNe hr.units) (ed_callB (cLen) B.n_len PySem.boot_len (ad_cons (ed_var 0) ad_nil)) ed_int (nomark _)))))
    (sd_one (sd_ret ed_bl))
    sd_nil)
    (sd_cons (sd_if (PW.pt (wd_or (td_not (td_val (ed_callB (cAll rfl) B.n_all (by decide +kernel) (ad_cons (ed_fresh (ld_lc (own := [("place", 4)]) rfl sc_is_way.nd (id_seq (ed_slice (ed_var 0) od_none (od_some ed_int))) (blkOk_by (N := N_is_way) (sc := defScope s_is_way) (by decide +kernel)) (fun _ _ _ _ _ => (gd_name 4 sc_is_way.nd)) (fun _ _ _ _ _ => tsd_nil) (fun _ _ _ _ _ => (ed_call D_is_count hr pass0 (ad_cons (ed_var 4) (ad_cons ed_int (ad_cons (ed_op oSub (ed_var 1) ed_int) ad_nil))))))) ad_nil)))) (wd_or1 (td_cmp (oEq hr.units) (ed_ix (ed_var 0) ed_int) (ed_ix (ed_var 0) ed_int) (nomark _)))))
    (sd_one (sd_ret ed_bl))
    sd_nil)
    (sd_one (sd_ret (ed_call D_is_count hr pass0 (ad_cons (ed_ix (ed_var 0) ed_int) (ad_cons (ed_var 2) (ad_cons (ed_var 3) ad_nil))))))))
abbrev s_is_net : Stmt := topS 22
abbrev N_is_net : List Str := ["net", "places", "ways", "wares", "way", "one", "other"]
theorem sc_is_net : FnScope N_is_net ["net"] (defScope s_is_net) := ⟨rfl, rfl, rfl, by decide +kernel, rfl, by decide +kernel, by decide +kernel⟩
theorem ok_is_net (B : Blt mg) {f : Addr} {fd : FuncData} (F : Fun K "is_net" "is_net" s_is_net f fd) (gm : mg "is_net" = some (.ref f)) (C_MOST : Gc K mg "MOST" c_MOST) (C_MOST_PLACES : Gc K mg "MOST_PLACES" c_MOST_PLACES) (C_MOST_WARES : Gc K mg "MOST_WARES" c_MOST_WARES) (C_MOST_WAYS : Gc K mg "MOST_WAYS" c_MOST_WAYS) (D_is_count : DefD P w K mg base CX0 "is_count" 1 sp_is_count) (D_is_way : DefD P w K mg base CX0 "is_way" 2 sp_is_way) : DefD P w K mg base CX0 "is_net" 3 sp_is_net := by
  refine fnD F sc_is_net gm (F.binds fun _ _ _ _ _ _ us hl => match us, hl with | [_], _ => rfl) len_is_net (fun cdv A outer s H E hr => ⟨g_is_net, ?_, pure_is_net⟩)
  exact (sd_cons (sd_asg (ed_var 0) (gd_tup 3 rfl (gsd_cons (gd_name 1 sc_is_net.nd) (gsd_cons (gd_name 2 sc_is_net.nd) (gsd_cons (gd_name 3 sc_is_net.nd) gsd_nil)))))
    (sd_cons (sd_if (PW.pt (wd_or (td_not (td_val (ed_call D_is_count hr pass0 (ad_cons (ed_var 1) (ad_cons ed_int (ad_cons (ed_glob C_MOST_PLACES) ad_nil)))))) (wd_or (td_cmp oGt (ed_callB (cLen) B.n_len PySem.boot_len (ad_cons (ed_var 2) ad_nil)) (ed_glob C_MOST_WAYS) (nomark _)) (wd_or1 (td_not (td_chain oLe oLe ed_int (ed_callB (cLen) B.n_len PySem.boot_len (ad_cons (ed_var 3) ad_nil)) (ed_glob C_MOST_WARES)))))))
    (sd_one (sd_ret ed_bl))
    sd_nil)
    (sd_cons (sd_if (td_not (td_val (ed_callB (cAll rfl) B.n_all (by decide +kernel) (ad_cons (ed_fresh (ld_lc (own := [("way", 4)]) rfl sc_is_net.nd (id_seq (ed_op oAdd (ed_var 2) (ed_var 3))) (blkOk_by (N := N_is_net) (sc := defScope s_is_net) (by decide +kernel)) (fun _ _ _ _ _ => (gd_name 4 sc_is_net.nd)) (fun _ _ _ _ _ => tsd_nil) (fun _ _ _ _ _ => (ed_call D_is_way hr pass0 (ad_cons (ed_var 4) (ad_cons (ed_var 1) (ad_cons ed_int (ad_cons (ed_glob C_MOST) ad_nil)))))))) ad_nil))))
    (sd_one (sd_ret ed_bl))
    sd_nil)
    (sd_one (sd_ret (ed_callB (cAll rfl) B.n_all (by decide +kernel) (ad_cons (ed_fresh (ld_lc (own := [("one", 5), ("other", 6)]) rfl sc_is_net.nd (id_zip (ad_cons (ed_var 2) (ad_cons (ed_slice (ed_var 2) (od_some ed_int) od_none) ad_nil)) B.n_zip) (blkOk_by (N := N_is_net) (sc := defScope s_is_net) (by decide +kernel)) (fun _ _ _ _ _ => (gd_tup 2 rfl (gsd_cons (gd_name 5 sc_is_net.nd) (gsd_cons (gd_name 6 sc_is_net.nd) gsd_nil)))) (fun _ _ _ _ _ => tsd_nil) (fun _ _ _ _ _ => (ed_cmp (oLt hr.units0) (ed_slice (ed_var 5) od_none (od_some ed_int)) (ed_slice (ed_var 6) od_none (od_some ed_int)) (nomark _))))) ad_nil)))))))
abbrev s_need_net : Stmt := topS 23
abbrev N_need_net : List Str := ["net"]
theorem sc_need_net : FnScope N_need_net ["net"] (defScope s_need_net) := ⟨rfl, rfl, rfl, by decide +kernel, rfl, by decide +kernel, by decide +kernel⟩
theorem ok_need_net (B : Blt mg) {f : Addr} {fd : FuncData} (F : Fun K "need_net" "need_net" s_need_net f fd) (gm : mg "need_net" = some (.ref f)) {a_BadNet : Addr} (X_BadNet : ExcD K mg "BadNet" a_BadNet) (D_is_net : DefD P w K mg base CX0 "is_net" 3 sp_is_net) : DefD P w K mg base (L2N.CX P w) "need_net" 4 (sp_need_net a_BadNet) := by
  refine fnN F sc_need_net gm (F.binds fun _ _ _ _ _ _ us hl => match us, hl with | [_], _ => rfl) (len_need_net _) (fun cdv A outer s H E hr => ⟨(g_need_net a_BadNet), ?_, (pure_need_net _)⟩)
  exact (sd_one (sd_if (td_not (td_val (ed_call D_is_net hr pass0 (ad_cons (ed_var 0) ad_nil))))
    (sd_one (sd_raiseN rfl (L2N.takes_of rfl rfl rfl rfl) PySem.F.excBase_ValueError X_BadNet.x X_BadNet.g X_BadNet.k (raises_own X_BadNet.b X_BadNet.t)))
    sd_nil))
abbrev s_is_flow : Stmt := topS 24
abbrev N_is_flow : List Str := ["net", "flow", "row"]
theorem sc_is_flow : FnScope N_is_flow ["net", "flow"] (defScope s_is_flow) := ⟨rfl, rfl, rfl, by decide +kernel, rfl, by decide +kernel, by decide +kernel⟩
theorem ok_is_flow (B : Blt mg) {f : Addr} {fd : FuncData} (F : Fun K "is_flow" "is_flow" s_is_flow f fd) (gm : mg "is_flow" = some (.ref f)) (D_are_shares : DefD P w K mg base CX0 "are_shares" 3 sp_are_shares) : DefD P w K mg base CX0 "is_flow" 4 sp_is_flow := by
  refine fnD F sc_is_flow gm (F.binds fun _ _ _ _ _ _ us hl => match us, hl with | [_, _], _ => rfl) len_is_flow (fun cdv A outer s H E hr => ⟨g_is_flow, ?_, pure_is_flow⟩)
  exact (sd_cons (sd_if (PW.pt (wd_or (td_not (td_val (ed_isi (Ts := "list") (ed_var 1) (by decide) B.isinstance B.n_list (by decide +kernel)))) (wd_or1 (td_cmp (oNe hr.units) (ed_callB (cLen) B.n_len PySem.boot_len (ad_cons (ed_var 1) ad_nil)) (ed_callB (cLen) B.n_len PySem.boot_len (ad_cons (ed_ix (ed_var 0) ed_int) ad_nil)) (nomark _)))))
    (sd_one (sd_ret ed_bl))
    sd_nil)
    (sd_one (sd_ret (ed_callB (cAll rfl) B.n_all (by decide +kernel) (ad_cons (ed_fresh (ld_lc (own := [("row", 2)]) rfl sc_is_flow.nd (id_seq (ed_var 1)) (blkOk_by (N := N_is_flow) (sc := defScope s_is_flow) (by decide +kernel)) (fun _ _ _ _ _ => (gd_name 2 sc_is_flow.nd)) (fun _ _ _ _ _ => tsd_nil) (fun _ _ _ _ _ => (ed_call D_are_shares hr pass0 (ad_cons (ed_var 2) (ad_cons (ed_callB (cLen) B.n_len PySem.boot_len (ad_cons (ed_ix (ed_var 0) ed_int) ad_nil)) ad_nil)))))) ad_nil)))))
abbrev s_need_flow : Stmt := topS 25
abbrev N_need_flow : List Str := ["net", "flow"]
theorem sc_need_flow : FnScope N_need_flow ["net", "flow"] (defScope s_need_flow) := ⟨rfl, rfl, rfl, by decide +kernel, rfl, by decide +kernel, by decide +kernel⟩
theorem ok_need_flow (B : Blt mg) {f : Addr} {fd : FuncData} (F : Fun K "need_flow" "need_flow" s_need_flow f fd) (gm : mg "need_flow" = some (.ref f)) {a_BadNet : Addr} {a_BadFlow : Addr} (X_BadFlow : ExcD K mg "BadFlow" a_BadFlow) (D_need_net : DefD P w K mg base (L2N.CX P w) "need_net" 4 (sp_need_net a_BadNet)) (D_is_flow : DefD P w K mg base CX0 "is_flow" 4 sp_is_flow) : DefD P w K mg base (L2N.CX P w) "need_flow" 5 (sp_need_flow a_BadFlow a_BadNet) := by
  refine fnN F sc_need_flow gm (F.binds fun _ _ _ _ _ _ us hl => match us, hl with | [_, _], _ => rfl) (len_need_flow _ _) (fun cdv A outer s H E hr => ⟨(g_need_flow a_BadFlow a_BadNet), ?_, (pure_need_flow _ _)⟩)
  exact (sd_cons (sd_callX D_need_net hr passN (ad_cons (ed_var 0) ad_nil))
    (sd_one (sd_if (td_not (td_val (ed_call D_is_flow hr pass0 (ad_cons (ed_var 0) (ad_cons (ed_var 1) ad_nil)))))
    (sd_one (sd_raiseN rfl (L2N.takes_of rfl rfl rfl rfl) PySem.F.excBase_ValueError X_BadFlow.x X_BadFlow.g X_BadFlow.k (raises_own X_BadFlow.b X_BadFlow.t)))
    sd_nil)))
abbrev s_left_at : Stmt := topS 26
abbrev N_left_at : List Str := ["net", "row", "place", "came", "one", "way"]
theorem sc_left_at : FnScope N_left_at ["net", "row", "place"] (defScope s_left_at) := ⟨rfl, rfl, rfl, by decide +kernel, rfl, by decide +kernel, by decide +kernel⟩
theorem ok_left_at (B : Blt mg) {f : Addr} {fd : FuncData} (F : Fun K "left_at" "left_at" s_left_at f fd) (gm : mg "left_at" = some (.ref f)) (D_total : DefD P w K mg base CX0 "total" 4 sp_total) (D_minus : DefD P w K mg base CX0 "minus" 3 sp_minus) : DefD P w K mg base CX0 "left_at" 5 sp_left_at := by
  refine fnD F sc_left_at gm (F.binds fun _ _ _ _ _ _ us hl => match us, hl with | [_, _, _], _ => rfl) len_left_at (fun cdv A outer s H E hr => ⟨g_left_at, ?_, pure_left_at⟩)
  exact (sd_cons (sd_set 3 sc_left_at.nd (ed_call D_total hr pass0 (ad_cons (ed_fresh (ld_lc (own := [("one", 4), ("way", 5)]) rfl sc_left_at.nd (id_zip (ad_cons (ed_var 1) (ad_cons (ed_ix (ed_var 0) ed_int) ad_nil)) B.n_zip) (blkOk_by (N := N_left_at) (sc := defScope s_left_at) (by decide +kernel)) (fun _ _ _ _ _ => (gd_tup 2 rfl (gsd_cons (gd_name 4 sc_left_at.nd) (gsd_cons (gd_name 5 sc_left_at.nd) gsd_nil)))) (fun _ _ _ _ _ => (tsd_one (td_cmp (oEq hr.units) (ed_ix (ed_var 5) ed_int) (ed_var 2) (nomark _)))) (fun _ _ _ _ _ => (ed_var 4)))) ad_nil)))
    (sd_one (sd_ret (ed_call D_minus hr pass0 (ad_cons (ed_var 3) (ad_cons (ed_call D_total hr pass0 (ad_cons (ed_fresh (ld_lc (own := [("one", 4), ("way", 5)]) rfl sc_left_at.nd (id_zip (ad_cons (ed_var 1) (ad_cons (ed_ix (ed_var 0) ed_int) ad_nil)) B.n_zip) (blkOk_by (N := N_left_at) (sc := defScope s_left_at) (by decide +kernel)) (fun _ _ _ _ _ => (gd_tup 2 rfl (gsd_cons (gd_name 4 sc_left_at.nd) (gsd_cons (gd_name 5 sc_left_at.nd) gsd_nil)))) (fun _ _ _ _ _ => (tsd_one (td_cmp (oEq hr.units) (ed_ix (ed_var 5) ed_int) (ed_var 2) (nomark _)))) (fun _ _ _ _ _ => (ed_var 4)))) ad_nil)) ad_nil))))))
abbrev s_does_go : Stmt := topS 27
abbrev N_does_go : List Str := ["net", "flow", "ware", "row", "at", "way", "place"]
theorem sc_does_go : FnScope N_does_go ["net", "flow"] (defScope s_does_go) := ⟨rfl, rfl, rfl, by decide +kernel, rfl, by decide +kernel, by decide +kernel⟩
theorem ok_does_go (B : Blt mg) {f : Addr} {fd : FuncData} (F : Fun K "does_go" "does_go" s_does_go f fd) (gm : mg "does_go" = some (.ref f)) (D_left_at : DefD P w K mg base CX0 "left_at" 5 sp_left_at) (D_total : DefD P w K mg base CX0 "total" 4 sp_total) (D_is_less : DefD P w K mg base CX0 "is_less" 1 sp_is_less) : DefD P w K mg base CX0 "does_go" 6 sp_does_go := by
  refine fnD F sc_does_go gm (F.binds fun _ _ _ _ _ _ us hl => match us, hl with | [_, _], _ => rfl) len_does_go (fun cdv A outer s H E hr => ⟨g_does_go, ?_, pure_does_go⟩)
  exact (sd_cons (sd_for PassesOwn.never rfl (id_zip (ad_cons (ed_ix (ed_var 0) ed_int) (ad_cons (ed_var 1) ad_nil)) B.n_zip) (gd_tup 2 rfl (gsd_cons (gd_name 2 sc_does_go.nd) (gsd_cons (gd_name 3 sc_does_go.nd) gsd_nil)))
    (sd_one (sd_if (td_val (ed_callB (cAny rfl) B.n_any (by decide +kernel) (ad_cons (ed_fresh (ld_lc (own := [("place", 6)]) rfl sc_does_go.nd (id_range1 (ad_cons (ed_ix (ed_var 0) ed_int) ad_nil) B.n_range) (blkOk_by (N := N_does_go) (sc := defScope s_does_go) (by decide +kernel)) (fun _ _ _ _ _ => (gd_name 6 sc_does_go.nd)) (fun _ _ _ _ _ => (tsd_one (td_cmp oNotIn (ed_var 6) (ed_slice (ed_var 2) od_none (od_some ed_int)) (by rfl)))) (fun _ _ _ _ _ => (ed_cmp (oNe hr.units) (ed_ix (ed_call D_left_at hr pass0 (ad_cons (ed_var 0) (ad_cons (ed_var 3) (ad_cons (ed_var 6) ad_nil)))) ed_int) ed_int (nomark _))))) ad_nil)))
    (sd_one (sd_ret ed_bl))
    sd_nil)))
    (sd_cons (sd_for PassesOwn.never rfl (id_enum (ad_cons (ed_ix (ed_var 0) ed_int) ad_nil) B.n_enumerate) (gd_tup 2 rfl (gsd_cons (gd_name 4 sc_does_go.nd) (gsd_cons (gd_name 5 sc_does_go.nd) gsd_nil)))
    (sd_one (sd_if (td_val (ed_call D_is_less hr pass0 (ad_cons (ed_tup (ad_cons (ed_ix (ed_var 5) ed_int) (ad_cons ed_int ad_nil))) (ad_cons (ed_call D_total hr pass0 (ad_cons (ed_fresh (ld_lc (own := [("row", 3)]) rfl sc_does_go.nd (id_seq (ed_var 1)) (blkOk_by (N := N_does_go) (sc := defScope s_does_go) (by decide +kernel)) (fun _ _ _ _ _ => (gd_name 3 sc_does_go.nd)) (fun _ _ _ _ _ => tsd_nil) (fun _ _ _ _ _ => (ed_ix (ed_var 3) (ed_var 4))))) ad_nil)) ad_nil))))
    (sd_one (sd_ret ed_bl))
    sd_nil)))
    (sd_one (sd_ret ed_bl))))
abbrev s_goes : Stmt := topS 28
abbrev N_goes : List Str := ["net", "flow"]
theorem sc_goes : FnScope N_goes ["net", "flow"] (defScope s_goes) := ⟨rfl, rfl, rfl, by decide +kernel, rfl, by decide +kernel, by decide +kernel⟩
theorem ok_goes (B : Blt mg) {f : Addr} {fd : FuncData} (F : Fun K "goes" "goes" s_goes f fd) (gm : mg "goes" = some (.ref f)) {a_BadFlow : Addr} {a_BadNet : Addr} (D_need_flow : DefD P w K mg base (L2N.CX P w) "need_flow" 5 (sp_need_flow a_BadFlow a_BadNet)) (D_does_go : DefD P w K mg base CX0 "does_go" 6 sp_does_go) : DefD P w K mg base (L2N.CX P w) "goes" 7 (sp_goes a_BadFlow a_BadNet) := by
  refine fnN F sc_goes gm (F.binds fun _ _ _ _ _ _ us hl => match us, hl with | [_, _], _ => rfl) (len_goes _ _) (fun cdv A outer s H E hr => ⟨(g_goes a_BadFlow a_BadNet), ?_, (pure_goes _ _)⟩)
  exact (sd_cons (sd_callX D_need_flow hr passN (ad_cons (ed_var 0) (ad_cons (ed_var 1) ad_nil)))
    (sd_one (sd_ret (ed_call D_does_go hr pass0 (ad_cons (ed_var 0) (ad_cons (ed_var 1) ad_nil))))))
abbrev s_brought_by : Stmt := topS 29
abbrev N_brought_by : List Str := ["net", "flow", "ware", "row"]
theorem sc_brought_by : FnScope N_brought_by ["net", "flow"] (defScope s_brought_by) := ⟨rfl, rfl, rfl, by decide +kernel, rfl, by decide +kernel, by decide +kernel⟩
theorem ok_brought_by (B : Blt mg) {f : Addr} {fd : FuncData} (F : Fun K "brought_by" "brought_by" s_brought_by f fd) (gm : mg "brought_by" = some (.ref f)) (D_left_at : DefD P w K mg base CX0 "left_at" 5 sp_left_at) : DefD P w K mg base CX0 "brought_by" 6 sp_brought_by := by
  refine fnD F sc_brought_by gm (F.binds fun _ _ _ _ _ _ us hl => match us, hl with | [_, _], _ => rfl) len_brought_by (fun cdv A outer s H E hr => ⟨g_brought_by, ?_, pure_brought_by⟩)
  exact (sd_one (sd_ret (ed_fresh (ld_lc (own := [("ware", 2), ("row", 3)]) rfl sc_brought_by.nd (id_zip (ad_cons (ed_ix (ed_var 0) ed_int) (ad_cons (ed_var 1) ad_nil)) B.n_zip) (blkOk_by (N := N_brought_by) (sc := defScope s_brought_by) (by decide +kernel)) (fun _ _ _ _ _ => (gd_tup 2 rfl (gsd_cons (gd_name 2 sc_brought_by.nd) (gsd_cons (gd_name 3 sc_brought_by.nd) gsd_nil)))) (fun _ _ _ _ _ => tsd_nil) (fun _ _ _ _ _ => (ed_call D_left_at hr pass0 (ad_cons (ed_var 0) (ad_cons (ed_var 3) (ad_cons (ed_ix (ed_var 2) ed_int) ad_nil)))))))))
abbrev s_brought : Stmt := topS 30
abbrev N_brought : List Str := ["net", "flow"]
theorem sc_brought : FnScope N_brought ["net", "flow"] (defScope s_brought) := ⟨rfl, rfl, rfl, by decide +kernel, rfl, by decide +kernel, by decide +kernel⟩
theorem ok_brought (B : Blt mg) {f : Addr} {fd : FuncData} (F : Fun K "brought" "brought" s_brought f fd) (gm : mg "brought" = some (.ref f)) {a_BadFlow : Addr} {a_BadNet : Addr} (D_need_flow : DefD P w K mg base (L2N.CX P w) "need_flow" 5 (sp_need_flow a_BadFlow a_BadNet)) (D_brought_by : DefD P w K mg base CX0 "brought_by" 6 sp_brought_by) : DefD P w K mg base (L2N.CX P w) "brought" 7 (sp_brought a_BadFlow a_BadNet) := by
  refine fnN F sc_brought gm (F.binds fun _ _ _ _ _ _ us hl => match us, hl with | [_, _], _ => rfl) (len_brought _ _) (fun cdv A outer s H E hr => ⟨(g_brought a_BadFlow a_BadNet), ?_, (pure_brought _ _)⟩)
  exact (sd_cons (sd_callX D_need_flow hr passN (ad_cons (ed_var 0) (ad_cons (ed_var 1) ad_nil)))
    (sd_one (sd_ret (ed_call D_brought_by hr pass0 (ad_cons (ed_var 0) (ad_cons (ed_var 1) ad_nil))))))
abbrev s__law_cell : Stmt := topS 32
abbrev N__law_cell : List Str := ["_law_script", "_law_k"]
theorem sc__law_cell : FnScope N__law_cell ["_law_script", "_law_k"] (defScope s__law_cell) := ⟨rfl, rfl, rfl, by decide +kernel, rfl, by decide +kernel, by decide +kernel⟩
theorem ok__law_cell (B : Blt mg) {f : Addr} {fd : FuncData} (F : Fun K "_law_cell" "_law_cell" s__law_cell f fd) (gm : mg "_law_cell" = some (.ref f)) : DefD P w K mg base CX0 "_law_cell" 1 sp__law_cell := by
  refine fnD F sc__law_cell gm (F.binds fun _ _ _ _ _ _ us hl => match us, hl with | [_, _], _ => rfl) len__law_cell (fun cdv A outer s H E hr => ⟨g__law_cell, ?_, pure__law_cell⟩)
  exact (sd_cons (sd_if (td_cmp (oEq hr.units) (ed_var 0) (ed_lst ad_nil) (nomark _))
    (sd_one (sd_ret (ed_op oMul (ed_var 1) ed_int)))
    sd_nil)
    (sd_one (sd_ret (ed_op oAdd (ed_ix (ed_var 0) (ed_op oMod (ed_var 1) (ed_callB (cLen) B.n_len PySem.boot_len (ad_cons (ed_var 0) ad_nil)))) (ed_op oMul (ed_op oFdiv (ed_var 1) (ed_callB (cLen) B.n_len PySem.boot_len (ad_cons (ed_var 0) ad_nil))) ed_int)))))
abbrev s__law_drawn : Stmt := topS 33
abbrev N__law_drawn : List Str := ["_law_cell_here", "_law_k", "_law_more"]
theorem sc__law_drawn : FnScope N__law_drawn ["_law_cell_here", "_law_k"] (defScope s__law_drawn) := ⟨rfl, rfl, rfl, by decide +kernel, rfl, by decide +kernel, by decide +kernel⟩
theorem ok__law_drawn (B : Blt mg) {f : Addr} {fd : FuncData} (F : Fun K "_law_drawn" "_law_drawn" s__law_drawn f fd) (gm : mg "_law_drawn" = some (.ref f)) : DefD P w K mg base CX0 "_law_drawn" 1 sp__law_drawn := by
  refine fnD F sc__law_drawn gm (F.binds fun _ _ _ _ _ _ us hl => match us, hl with | [_, _], _ => rfl) len__law_drawn (fun cdv A outer s H E hr => ⟨g__law_drawn, ?_, pure__law_drawn⟩)
  exact (sd_cons (sd_set 2 sc__law_drawn.nd (ed_op oMod (ed_op oAdd (ed_op oMul (ed_var 0) ed_int) (ed_op oMul (ed_op oAdd (ed_var 1) ed_int) ed_int)) ed_int))
    (sd_one (sd_ret (ed_op oMod (ed_op oMul (ed_var 2) (ed_var 2)) ed_int))))
abbrev s__law_made : Stmt := topS 36
abbrev N__law_made : List Str := ["_law_top", "_law_under_here", "_law_one", "_law_other"]
theorem sc__law_made : FnScope N__law_made ["_law_top", "_law_under_here"] (defScope s__law_made) := ⟨rfl, rfl, rfl, by decide +kernel, rfl, by decide +kernel, by decide +kernel⟩
theorem ok__law_made (B : Blt mg) {f : Addr} {fd : FuncData} (F : Fun K "_law_made" "_law_made" s__law_made f fd) (gm : mg "_law_made" = some (.ref f)) : DefD P w K mg base CX0 "_law_made" 1 sp__law_made := by
  refine fnD F sc__law_made gm (F.binds fun _ _ _ _ _ _ us hl => match us, hl with | [_, _], _ => rfl) len__law_made (fun cdv A outer s H E hr => ⟨g__law_made, ?_, pure__law_made⟩)
  exact (sd_cons (sd_par 2 3 rfl sc__law_made.nd (ad_cons (ed_callB (cAbs) B.n_abs (by decide +kernel) (ad_cons (ed_var 0) ad_nil)) (ad_cons (ed_var 1) ad_nil)))
    (sd_cons (sd_while PassesOwn.never (td_cmp oGt (ed_var 3) ed_int (nomark _))
    (sd_one (sd_par 2 3 rfl sc__law_made.nd (ad_cons (ed_var 3) (ad_cons (ed_op oMod (ed_var 2) (ed_var 3)) ad_nil)))))
    (sd_one (sd_ret (ed_tup (ad_cons (ed_op oFdiv (ed_var 0) (ed_var 2)) (ad_cons (ed_op oFdiv (ed_var 1) (ed_var 2)) ad_nil)))))))
abbrev s__law_plus : Stmt := topS 37
abbrev N__law_plus : List Str := ["_law_one", "_law_other"]
theorem sc__law_plus : FnScope N__law_plus ["_law_one", "_law_other"] (defScope s__law_plus) := ⟨rfl, rfl, rfl, by decide +kernel, rfl, by decide +kernel, by decide +kernel⟩
theorem ok__law_plus (B : Blt mg) {f : Addr} {fd : FuncData} (F : Fun K "_law_plus" "_law_plus" s__law_plus f fd) (gm : mg "_law_plus" = some (.ref f)) (D__law_made : DefD P w K mg base CX0 "_law_made" 1 sp__law_made) : DefD P w K mg base CX0 "_law_plus" 2 sp__law_plus := by
  refine fnD F sc__law_plus gm (F.binds fun _ _ _ _ _ _ us hl => match us, hl with | [_, _], _ => rfl) len__law_plus (fun cdv A outer s H E hr => ⟨g__law_plus, ?_, pure__law_plus⟩)
  exact (sd_one (sd_ret (ed_call D__law_made hr pass0 (ad_cons (ed_op oAdd (ed_op oMul (ed_ix (ed_var 0) ed_int) (ed_ix (ed_var 1) ed_int)) (ed_op oMul (ed_ix (ed_var 1) ed_int) (ed_ix (ed_var 0) ed_int))) (ad_cons (ed_op oMul (ed_ix (ed_var 0) ed_int) (ed_ix (ed_var 1) ed_int)) ad_nil)))))
abbrev s__law_times : Stmt := topS 38
abbrev N__law_times : List Str := ["_law_one", "_law_other"]
theorem sc__law_times : FnScope N__law_times ["_law_one", "_law_other"] (defScope s__law_times) := ⟨rfl, rfl, rfl, by decide +kernel, rfl, by decide +kernel, by decide +kernel⟩
theorem ok__law_times (B : Blt mg) {f : Addr} {fd : FuncData} (F : Fun K "_law_times" "_law_times" s__law_times f fd) (gm : mg "_law_times" = some (.ref f)) (D__law_made : DefD P w K mg base CX0 "_law_made" 1 sp__law_made) : DefD P w K mg base CX0 "_law_times" 2 sp__law_times := by
  refine fnD F sc__law_times gm (F.binds fun _ _ _ _ _ _ us hl => match us, hl with | [_, _], _ => rfl) len__law_times (fun cdv A outer s H E hr => ⟨g__law_times, ?_, pure__law_times⟩)
  exact (sd_one (sd_ret (ed_call D__law_made hr pass0 (ad_cons (ed_op oMul (ed_ix (ed_var 0) ed_int) (ed_ix (ed_var 1) ed_int)) (ad_cons (ed_op oMul (ed_ix (ed_var 0) ed_int) (ed_ix (ed_var 1) ed_int)) ad_nil)))))
abbrev s__law_all : Stmt := topS 39
abbrev N__law_all : List Str := ["_law_some", "_law_found", "_law_one"]
theorem sc__law_all : FnScope N__law_all ["_law_some"] (defScope s__law_all) := ⟨rfl, rfl, rfl, by decide +kernel, rfl, by decide +kernel, by decide +kernel⟩
theorem ok__law_all (B : Blt mg) {f : Addr} {fd : FuncData} (F : Fun K "_law_all" "_law_all" s__law_all f fd) (gm : mg "_law_all" = some (.ref f)) (D__law_plus : DefD P w K mg base CX0 "_law_plus" 2 sp__law_plus) : DefD P w K mg base CX0 "_law_all" 3 sp__law_all := by
  refine fnD F sc__law_all gm (F.binds fun _ _ _ _ _ _ us hl => match us, hl with | [_], _ => rfl) len__law_all (fun cdv A outer s H E hr => ⟨g__law_all, ?_, pure__law_all⟩)
  exact (sd_cons (sd_set 1 sc__law_all.nd (ed_tup (ad_cons ed_int (ad_cons ed_int ad_nil))))
    (sd_cons (sd_for PassesOwn.never rfl (id_seq (ed_var 0)) (gd_name 2 sc__law_all.nd)
    (sd_one (sd_set 1 sc__law_all.nd (ed_call D__law_plus hr pass0 (ad_cons (ed_var 1) (ad_cons (ed_var 2) ad_nil))))))
    (sd_one (sd_ret (ed_var 1)))))
abbrev s__law_under : Stmt := topS 40
abbrev N__law_under : List Str := ["_law_one", "_law_other"]
theorem sc__law_under : FnScope N__law_under ["_law_one", "_law_other"] (defScope s__law_under) := ⟨rfl, rfl, rfl, by decide +kernel, rfl, by decide +kernel, by decide +kernel⟩
theorem ok__law_under (B : Blt mg) {f : Addr} {fd : FuncData} (F : Fun K "_law_under" "_law_under" s__law_under f fd) (gm : mg "_law_under" = some (.ref f)) : DefD P w K mg base CX0 "_law_under" 1 sp__law_under := by
  refine fnD F sc__law_under gm (F.binds fun _ _ _ _ _ _ us hl => match us, hl with | [_, _], _ => rfl) len__law_under (fun cdv A outer s H E hr => ⟨g__law_under, ?_, pure__law_under⟩)
  exact (sd_one (sd_ret (ed_cmp (oLt hr.units0) (ed_op oMul (ed_ix (ed_var 0) ed_int) (ed_ix (ed_var 1) ed_int)) (ed_op oMul (ed_ix (ed_var 1) ed_int) (ed_ix (ed_var 0) ed_int)) (nomark _))))
abbrev s__law_net : Stmt := topS 42
abbrev N__law_net : List Str := ["_law_more", "_law_places", "_law_ways", "_law_one", "_law_other", "_law_here", "_law_wares", "_law_j", "_law_first"]
theorem sc__law_net : FnScope N__law_net ["_law_more"] (defScope s__law_net) := ⟨rfl, rfl, rfl, by decide +kernel, rfl, by decide +kernel, by decide +kernel⟩
theorem ok__law_net (B : Blt mg) {f : Addr} {fd : FuncData} (F : Fun K "_law_net" "_law_net" s__law_net f fd) (gm : mg "_law_net" = some (.ref f)) (D__law_drawn : DefD P w K mg base CX0 "_law_drawn" 1 sp__law_drawn) : DefD P w K mg base CX0 "_law_net" 2 sp__law_net := by
  refine fnD F sc__law_net gm (F.binds fun _ _ _ _ _ _ us hl => match us, hl with | [_], _ => rfl) len__law_net (fun cdv A outer s H E hr => ⟨g__law_net, ?_, pure__law_net⟩)
  exact (sd_cons (sd_set 1 sc__law_net.nd (ed_op oAdd ed_int (ed_op oMod (ed_var 0) ed_int)))
    (sd_cons (sd_setL 2 sc__law_net.nd (ld_lst ad_nil))
    (sd_cons (sd_for PassesOwn.never rfl (id_range1 (ad_cons (ed_var 1) ad_nil) B.n_range) (gd_name 3 sc__law_net.nd)
    (sd_one (sd_for PassesOwn.never rfl (id_range1 (ad_cons (ed_var 1) ad_nil) B.n_range) (gd_name 4 sc__law_net.nd)
    (sd_cons (sd_set 5 sc__law_net.nd (ed_call D__law_drawn hr pass0 (ad_cons (ed_var 0) (ad_cons (ed_op oAdd (ed_op oMul ed_int (ed_var 3)) (ed_var 4)) ad_nil))))
    (sd_one (sd_if (PW.pt (wd_and (td_cmp (oNe hr.units) (ed_var 3) (ed_var 4) (nomark _)) (wd_and (td_cmp (oLt hr.units0) (ed_op oMod (ed_var 5) ed_int) (ed_op oAdd ed_int (ed_op oMod (ed_op oFdiv (ed_var 0) ed_int) ed_int)) (nomark _)) (wd_and1 (td_cmp (oLt hr.units0) (ed_lenOwn 2 B.n_len) ed_int (nomark _))))))
    (sd_one (sd_app 2 (ed_tup (ad_cons (ed_var 3) (ad_cons (ed_var 4) (ad_cons (ed_op oAdd ed_int (ed_op oMod (ed_op oFdiv (ed_var 5) ed_int) (ed_ix (ed_lst (ad_cons ed_int (ad_cons ed_int ad_nil))) (ed_op oMod (ed_op oFdiv (ed_var 0) ed_int) ed_int)))) ad_nil))))))
    sd_nil))))))
    (sd_cons (sd_setL 6 sc__law_net.nd (ld_lst ad_nil))
    (sd_cons (sd_for PassesOwn.never rfl (id_range1 (ad_cons (ed_op oAdd ed_int (ed_op oMod (ed_op oFdiv (ed_var 0) ed_int) ed_int)) ad_nil) B.n_range) (gd_name 7 sc__law_net.nd)
    (sd_cons (sd_set 5 sc__law_net.nd (ed_call D__law_drawn hr pass0 (ad_cons (ed_var 0) (ad_cons (ed_op oAdd ed_int (ed_var 7)) ad_nil))))
    (sd_cons (sd_set 8 sc__law_net.nd (ed_op oMod (ed_var 5) (ed_var 1)))
    (sd_one (sd_app 6 (ed_tup (ad_cons (ed_var 8) (ad_cons (ed_op oMod (ed_op oAdd (ed_op oAdd (ed_var 8) ed_int) (ed_op oMod (ed_op oFdiv (ed_var 5) ed_int) (ed_op oSub (ed_var 1) ed_int))) (ed_var 1)) (ad_cons (ed_op oAdd ed_int (ed_op oMod (ed_op oFdiv (ed_var 5) ed_int) ed_int)) ad_nil)))))))))
    (sd_frz 2 (sd_frz 6 (sd_one (sd_ret (ed_tup (ad_cons (ed_var 1) (ad_cons (ed_var 2) (ad_cons (ed_var 6) ad_nil)))))))))))))
abbrev s__law_net_at : Stmt := topS 43
abbrev N__law_net_at : List Str := ["_law_net_here", "_law_row", "_law_place", "_law_found", "_law_much", "_law_way"]
theorem sc__law_net_at : FnScope N__law_net_at ["_law_net_here", "_law_row", "_law_place"] (defScope s__law_net_at) := ⟨rfl, rfl, rfl, by decide +kernel, rfl, by decide +kernel, by decide +kernel⟩
theorem ok__law_net_at (B : Blt mg) {f : Addr} {fd : FuncData} (F : Fun K "_law_net_at" "_law_net_at" s__law_net_at f fd) (gm : mg "_law_net_at" = some (.ref f)) (D__law_times : DefD P w K mg base CX0 "_law_times" 2 sp__law_times) (D__law_plus : DefD P w K mg base CX0 "_law_plus" 2 sp__law_plus) : DefD P w K mg base CX0 "_law_net_at" 3 sp__law_net_at := by
  refine fnD F sc__law_net_at gm (F.binds fun _ _ _ _ _ _ us hl => match us, hl with | [_, _, _], _ => rfl) len__law_net_at (fun cdv A outer s H E hr => ⟨g__law_net_at, ?_, pure__law_net_at⟩)
  exact (sd_cons (sd_set 3 sc__law_net_at.nd (ed_tup (ad_cons ed_int (ad_cons ed_int ad_nil))))
    (sd_cons (sd_for PassesOwn.never rfl (id_zip (ad_cons (ed_var 1) (ad_cons (ed_ix (ed_var 0) ed_int) ad_nil)) B.n_zip) (gd_tup 2 rfl (gsd_cons (gd_name 4 sc__law_net_at.nd) (gsd_cons (gd_name 5 sc__law_net_at.nd) gsd_nil)))
    (sd_one (sd_set 3 sc__law_net_at.nd (ed_call D__law_plus hr pass0 (ad_cons (ed_var 3) (ad_cons (ed_call D__law_times hr pass0 (ad_cons (ed_var 4) (ad_cons (ed_tup (ad_cons (ed_op oSub (ed_callTy (cInt) B.n_int (by decide +kernel) (ad_cons (ed_cmp (oEq hr.units) (ed_ix (ed_var 5) ed_int) (ed_var 2) (nomark _)) ad_nil)) (ed_callTy (cInt) B.n_int (by decide +kernel) (ad_cons (ed_cmp (oEq hr.units) (ed_ix (ed_var 5) ed_int) (ed_var 2) (nomark _)) ad_nil))) (ad_cons ed_int ad_nil))) ad_nil))) ad_nil))))))
    (sd_one (sd_ret (ed_var 3)))))
abbrev s__law_goes : Stmt := topS 44
abbrev N__law_goes : List Str := ["_law_net_here", "_law_flow_here", "_law_ware", "_law_row", "_law_place", "_law_at", "_law_way"]
theorem sc__law_goes : FnScope N__law_goes ["_law_net_here", "_law_flow_here"] (defScope s__law_goes) := ⟨rfl, rfl, rfl, by decide +kernel, rfl, by decide +kernel, by decide +kernel⟩
theorem ok__law_goes (B : Blt mg) {f : Addr} {fd : FuncData} (F : Fun K "_law_goes" "_law_goes" s__law_goes f fd) (gm : mg "_law_goes" = some (.ref f)) (D__law_net_at : DefD P w K mg base CX0 "_law_net_at" 3 sp__law_net_at) (D__law_all : DefD P w K mg base CX0 "_law_all" 3 sp__law_all) (D__law_under : DefD P w K mg base CX0 "_law_under" 1 sp__law_under) : DefD P w K mg base CX0 "_law_goes" 4 sp__law_goes := by
  refine fnD F sc__law_goes gm (F.binds fun _ _ _ _ _ _ us hl => match us, hl with | [_, _], _ => rfl) len__law_goes (fun cdv A outer s H E hr => ⟨g__law_goes, ?_, pure__law_goes⟩)
  exact (sd_cons (sd_for PassesOwn.never rfl (id_zip (ad_cons (ed_ix (ed_var 0) ed_int) (ad_cons (ed_var 1) ad_nil)) B.n_zip) (gd_tup 2 rfl (gsd_cons (gd_name 2 sc__law_goes.nd) (gsd_cons (gd_name 3 sc__law_goes.nd) gsd_nil)))
    (sd_one (sd_for PassesOwn.never rfl (id_range1 (ad_cons (ed_ix (ed_var 0) ed_int) ad_nil) B.n_range) (gd_name 4 sc__law_goes.nd)
    (sd_one (sd_if (PW.pt (wd_and (td_cmp oNotIn (ed_var 4) (ed_slice (ed_var 2) od_none (od_some ed_int)) (by rfl)) (wd_and1 (td_cmp (oNe hr.units) (ed_call D__law_net_at hr pass0 (ad_cons (ed_var 0) (ad_cons (ed_var 3) (ad_cons (ed_var 4) ad_nil)))) (ed_tup (ad_cons ed_int (ad_cons ed_int ad_nil))) (nomark _)))))
    (sd_one (sd_ret ed_bl))
    sd_nil)))))
    (sd_cons (sd_for PassesOwn.never rfl (id_enum (ad_cons (ed_ix (ed_var 0) ed_int) ad_nil) B.n_enumerate) (gd_tup 2 rfl (gsd_cons (gd_name 5 sc__law_goes.nd) (gsd_cons (gd_name 6 sc__law_goes.nd) gsd_nil)))
    (sd_one (sd_if (td_val (ed_call D__law_under hr pass0 (ad_cons (ed_tup (ad_cons (ed_ix (ed_var 6) ed_int) (ad_cons ed_int ad_nil))) (ad_cons (ed_call D__law_all hr pass0 (ad_cons (ed_fresh (ld_lc (own := [("_law_row", 3)]) rfl sc__law_goes.nd (id_seq (ed_var 1)) (blkOk_by (N := N__law_goes) (sc := defScope s__law_goes) (by decide +kernel)) (fun _ _ _ _ _ => (gd_name 3 sc__law_goes.nd)) (fun _ _ _ _ _ => tsd_nil) (fun _ _ _ _ _ => (ed_ix (ed_var 3) (ed_var 5))))) ad_nil)) ad_nil))))
    (sd_one (sd_ret ed_bl))
    sd_nil)))
    (sd_one (sd_ret ed_bl))))
abbrev s__law_brought : Stmt := topS 45
abbrev N__law_brought : List Str := ["_law_net_here", "_law_flow_here", "_law_ware", "_law_row"]
theorem sc__law_brought : FnScope N__law_brought ["_law_net_here", "_law_flow_here"] (defScope s__law_brought) := ⟨rfl, rfl, rfl, by decide +kernel, rfl, by decide +kernel, by decide +kernel⟩
theorem ok__law_brought (B : Blt mg) {f : Addr} {fd : FuncData} (F : Fun K "_law_brought" "_law_brought" s__law_brought f fd) (gm : mg "_law_brought" = some (.ref f)) (D__law_net_at : DefD P w K mg base CX0 "_law_net_at" 3 sp__law_net_at) : DefD P w K mg base CX0 "_law_brought" 4 sp__law_brought := by
  refine fnD F sc__law_brought gm (F.binds fun _ _ _ _ _ _ us hl => match us, hl with | [_, _], _ => rfl) len__law_brought (fun cdv A outer s H E hr => ⟨g__law_brought, ?_, pure__law_brought⟩)
  exact (sd_one (sd_ret (ed_fresh (ld_lc (own := [("_law_ware", 2), ("_law_row", 3)]) rfl sc__law_brought.nd (id_zip (ad_cons (ed_ix (ed_var 0) ed_int) (ad_cons (ed_var 1) ad_nil)) B.n_zip) (blkOk_by (N := N__law_brought) (sc := defScope s__law_brought) (by decide +kernel)) (fun _ _ _ _ _ => (gd_tup 2 rfl (gsd_cons (gd_name 2 sc__law_brought.nd) (gsd_cons (gd_name 3 sc__law_brought.nd) gsd_nil)))) (fun _ _ _ _ _ => tsd_nil) (fun _ _ _ _ _ => (ed_call D__law_net_at hr pass0 (ad_cons (ed_var 0) (ad_cons (ed_var 3) (ad_cons (ed_ix (ed_var 2) ed_int) ad_nil)))))))))
abbrev s__law_rows : Stmt := topS 46
abbrev N__law_rows : List Str := ["_law_net_here", "_law_first", "_law_goal", "_law_gone", "_law_found", "_law_at", "_law_way", "_law_row"]
theorem sc__law_rows : FnScope N__law_rows ["_law_net_here", "_law_first", "_law_goal", "_law_gone"] (defScope s__law_rows) := ⟨rfl, rfl, rfl, by decide +kernel, rfl, by decide +kernel, by decide +kernel⟩
theorem ok__law_rows (B : Blt mg) {f : Addr} {fd : FuncData} (F : Fun K "_law_rows" "_law_rows" s__law_rows f fd) (gm : mg "_law_rows" = some (.ref f)) {j : Nat} {self ψ : Spc} (D_self : DefD P w K mg base CX0 "_law_rows" j self) (len : ∀ ds Q Z, ψ ds Q Z → ds.length = 4) (pure : ∀ ds Q Z, ψ ds Q Z → g__law_rows self { nx := fun _ => Q .non, rt := Q } (startS N__law_rows ds)) : DefD P w K mg base CX0 "_law_rows" (j + 1) ψ := by
  refine fnD F sc__law_rows gm (F.binds fun _ _ _ _ _ _ us hl => match us, hl with | [_, _, _, _], _ => rfl) len (fun cdv A outer s H E hr => ⟨g__law_rows self, ?_, pure⟩)
  exact (sd_cons (sd_if (td_cmp (oEq hr.units) (ed_var 1) (ed_var 2) (nomark _))
    (sd_one (sd_ret (ed_lst (ad_cons (ed_lst ad_nil) ad_nil))))
    sd_nil)
    (sd_cons (sd_set 4 sc__law_rows.nd (ed_lst ad_nil))
    (sd_cons (sd_for PassesOwn.never rfl (id_enum (ad_cons (ed_ix (ed_var 0) ed_int) ad_nil) B.n_enumerate) (gd_tup 2 rfl (gsd_cons (gd_name 5 sc__law_rows.nd) (gsd_cons (gd_name 6 sc__law_rows.nd) gsd_nil)))
    (sd_one (sd_if (PW.pt (wd_and (td_cmp (oEq hr.units) (ed_ix (ed_var 6) ed_int) (ed_var 1) (nomark _)) (wd_and1 (td_cmp oNotIn (ed_ix (ed_var 6) ed_int) (ed_var 3) (by rfl)))))
    (sd_one (sd_set 4 sc__law_rows.nd (ed_op oAdd (ed_var 4) (ed_fresh (ld_lc (own := [("_law_row", 7)]) rfl sc__law_rows.nd (id_seq (ed_call D_self hr pass0 (ad_cons (ed_var 0) (ad_cons (ed_ix (ed_var 6) ed_int) (ad_cons (ed_var 2) (ad_cons (ed_op oAdd (ed_var 3) (ed_lst (ad_cons (ed_ix (ed_var 6) ed_int) ad_nil))) ad_nil)))) (Nat.le_refl _))) (blkOk_by (N := N__law_rows) (sc := defScope s__law_rows) (by decide +kernel)) (fun _ _ _ _ _ => (gd_name 7 sc__law_rows.nd)) (fun _ _ _ _ _ => tsd_nil) (fun _ _ _ _ _ => (ed_op oAdd (ed_lst (ad_cons (ed_var 5) ad_nil)) (ed_var 7))))))))
    sd_nil)))
    (sd_one (sd_ret (ed_var 4))))))
abbrev s__law_flow : Stmt := topS 47
abbrev N__law_flow : List Str := ["_law_net_here", "_law_more", "_law_found", "_law_j", "_law_ware", "_law_row", "_law_ways", "_law_here", "_law_much", "_law_at"]
theorem sc__law_flow : FnScope N__law_flow ["_law_net_here", "_law_more"] (defScope s__law_flow) := ⟨rfl, rfl, rfl, by decide +kernel, rfl, by decide +kernel, by decide +kernel⟩
theorem ok__law_flow (B : Blt mg) {f : Addr} {fd : FuncData} (F : Fun K "_law_flow" "_law_flow" s__law_flow f fd) (gm : mg "_law_flow" = some (.ref f)) (D__law_rows : DefD P w K mg base CX0 "_law_rows" 8 sp__law_rows) (D__law_drawn : DefD P w K mg base CX0 "_law_drawn" 1 sp__law_drawn) (D__law_made : DefD P w K mg base CX0 "_law_made" 1 sp__law_made) (D__law_plus : DefD P w K mg base CX0 "_law_plus" 2 sp__law_plus) : DefD P w K mg base CX0 "_law_flow" 9 sp__law_flow := by
  refine fnD F sc__law_flow gm (F.binds fun _ _ _ _ _ _ us hl => match us, hl with | [_, _], _ => rfl) len__law_flow (fun cdv A outer s H E hr => ⟨g__law_flow, ?_, pure__law_flow⟩)
  exact (sd_cons (sd_setL 2 sc__law_flow.nd (ld_lst ad_nil))
    (sd_cons (sd_for PassesOwn.never rfl (id_enum (ad_cons (ed_ix (ed_var 0) ed_int) ad_nil) B.n_enumerate) (gd_tup 2 rfl (gsd_cons (gd_name 3 sc__law_flow.nd) (gsd_cons (gd_name 4 sc__law_flow.nd) gsd_nil)))
    (sd_cons (sd_setL 5 sc__law_flow.nd (ld_rep (ed_lst (ad_cons (ed_tup (ad_cons ed_int (ad_cons ed_int ad_nil))) ad_nil)) (ed_callB (cLen) B.n_len PySem.boot_len (ad_cons (ed_ix (ed_var 0) ed_int) ad_nil))))
    (sd_cons (sd_set 6 sc__law_flow.nd (ed_call D__law_rows hr pass0 (ad_cons (ed_var 0) (ad_cons (ed_ix (ed_var 4) ed_int) (ad_cons (ed_ix (ed_var 4) ed_int) (ad_cons (ed_lst (ad_cons (ed_ix (ed_var 4) ed_int) ad_nil)) ad_nil))))))
    (sd_cons (sd_set 7 sc__law_flow.nd (ed_call D__law_drawn hr pass0 (ad_cons (ed_var 1) (ad_cons (ed_var 3) ad_nil))))
    (sd_cons (sd_if (td_cmp (oNe hr.units) (ed_var 6) (ed_lst ad_nil) (nomark _))
    (sd_cons (sd_set 8 sc__law_flow.nd (ed_call D__law_made hr pass0 (ad_cons (ed_op oMod (ed_var 7) ed_int) (ad_cons (ed_op oAdd ed_int (ed_op oMod (ed_op oFdiv (ed_var 7) ed_int) ed_int)) ad_nil))))
    (sd_one (sd_for PassesOwn.never rfl (id_seq (ed_ix (ed_var 6) (ed_op oMod (ed_op oFdiv (ed_var 7) ed_int) (ed_callB (cLen) B.n_len PySem.boot_len (ad_cons (ed_var 6) ad_nil))))) (gd_name 9 sc__law_flow.nd)
    (sd_one (sd_put 5 rfl (ed_var 9) (ed_call D__law_plus hr pass0 (ad_cons (ed_ixOwn 5 (ed_var 9)) (ad_cons (ed_var 8) ad_nil))))))))
    sd_nil)
    (sd_cons (sd_if (PW.pt (wd_and (td_cmp (oEq hr.units) (ed_op oMod (ed_op oFdiv (ed_var 7) ed_int) ed_int) ed_int (nomark _)) (wd_and1 (td_neNil 5 hr.units))))
    (sd_cons (sd_set 9 sc__law_flow.nd (ed_op oMod (ed_op oFdiv (ed_var 7) ed_int) (ed_lenOwn 5 B.n_len)))
    (sd_one (sd_put 5 rfl (ed_var 9) (ed_call D__law_plus hr pass0 (ad_cons (ed_ixOwn 5 (ed_var 9)) (ad_cons (ed_tup (ad_cons ed_int (ad_cons ed_int ad_nil))) ad_nil))))))
    sd_nil)
    (sd_frz 5 (sd_one (sd_app 2 (ed_var 5))))))))))
    (sd_frz 2 (sd_one (sd_ret (ed_var 2))))))
abbrev s__law_refused_right : Stmt := topS 48
abbrev N__law_refused_right : List Str := ["_law_net_here", "_law_flow_here", "_law_more", "_law_places", "_law_ways", "_law_wares", "_law_bad", "_law_none", "_law_long", "_law_odd", "_law_wrong", "_law_one", "_law_spoilt", "_law_row", "_law_ware"]
theorem sc__law_refused_right : FnScope N__law_refused_right ["_law_net_here", "_law_flow_here", "_law_more"] (defScope s__law_refused_right) := ⟨rfl, rfl, rfl, by decide +kernel, rfl, by decide +kernel, by decide +kernel⟩
theorem ok__law_refused_right (B : Blt mg) {f : Addr} {fd : FuncData} (F : Fun K "_law_refused_right" "_law_refused_right" s__law_refused_right f fd) (gm : mg "_law_refused_right" = some (.ref f)) {a_BadFlow : Addr} {a_BadNet : Addr} (D_need_net : DefD P w K mg base (L2N.CX P w) "need_net" 4 (sp_need_net a_BadNet)) (D_goes : DefD P w K mg base (L2N.CX P w) "goes" 7 (sp_goes a_BadFlow a_BadNet)) (D_brought : DefD P w K mg base (L2N.CX P w) "brought" 7 (sp_brought a_BadFlow a_BadNet)) {c Pt : Addr} {wd : Addr → Str → Prop} (TT : ToldOk K mg 7 wd) (TB : LamX.TabB base mg c Pt) (hm : (Pt, lamQ "_law_refused_right") ∈ Tn.ns) (hu : ∀ p ∈ Tn.ns, p.1 = Pt → p.2 = lamQ "_law_refused_right") (hc : fd.code = .ref c) (hW : WdOk wd a_BadFlow a_BadNet) : FnOk P w K mg base CX0 10 f fd ["_law_net_here", "_law_flow_here", "_law_more"] (spD K (sp__law_refused_right)) := by
  refine fnC F sc__law_refused_right hc len__law_refused_right (fun A outer s H E hr => ⟨(g__law_refused_right a_BadFlow a_BadNet wd), ?_, (pure__law_refused_right _ _ _ hW)⟩)
  exact (sd_cons (sd_asg (ed_var 0) (gd_tup 3 rfl (gsd_cons (gd_name 3 sc__law_refused_right.nd) (gsd_cons (gd_name 4 sc__law_refused_right.nd) (gsd_cons (gd_name 5 sc__law_refused_right.nd) gsd_nil)))))
    (sd_cons (sd_set 6 sc__law_refused_right.nd (ed_lst (ad_cons (ed_tup (ad_cons ed_int (ad_cons (ed_lst ad_nil) (ad_cons (ed_lst (ad_cons (ed_tup (ad_cons ed_int (ad_cons ed_int (ad_cons ed_int ad_nil)))) ad_nil)) ad_nil)))) (ad_cons (ed_tup (ad_cons ed_int (ad_cons (ed_var 4) (ad_cons (ed_var 5) ad_nil)))) (ad_cons (ed_tup (ad_cons (ed_var 3) (ad_cons (ed_var 4) (ad_cons (ed_lst ad_nil) ad_nil)))) ad_nil)))))
    (sd_cons (sd_set 6 sc__law_refused_right.nd (ed_op oAdd (ed_var 6) (ed_lst (ad_cons (ed_tup (ad_cons (ed_var 3) (ad_cons (ed_var 4) (ad_cons (ed_op oMul (ed_var 5) ed_int) ad_nil)))) (ad_cons (ed_tup (ad_cons (ed_var 3) (ad_cons (ed_op oAdd (ed_op oMul (ed_slice (ed_var 4) od_none (od_some ed_int)) ed_int) (ed_lst (ad_cons (ed_tup (ad_cons ed_int (ad_cons ed_int (ad_cons ed_int ad_nil)))) ad_nil))) (ad_cons (ed_var 5) ad_nil)))) ad_nil)))))
    (sd_cons (sd_set 6 sc__law_refused_right.nd (ed_op oAdd (ed_var 6) (ed_lst (ad_cons (ed_tup (ad_cons (ed_var 3) (ad_cons (ed_lst (ad_cons (ed_tup (ad_cons ed_int (ad_cons (ed_var 3) (ad_cons ed_int ad_nil)))) ad_nil)) (ad_cons (ed_var 5) ad_nil)))) (ad_cons (ed_tup (ad_cons (ed_var 3) (ad_cons (ed_lst (ad_cons (ed_tup (ad_cons ed_int (ad_cons ed_int (ad_cons ed_int ad_nil)))) ad_nil)) (ad_cons (ed_var 5) ad_nil)))) ad_nil)))))
    (sd_cons (sd_set 6 sc__law_refused_right.nd (ed_op oAdd (ed_var 6) (ed_lst (ad_cons (ed_tup (ad_cons (ed_var 3) (ad_cons (ed_lst (ad_cons (ed_tup (ad_cons ed_int (ad_cons ed_int (ad_cons ed_int ad_nil)))) ad_nil)) (ad_cons (ed_var 5) ad_nil)))) (ad_cons (ed_tup (ad_cons (ed_var 3) (ad_cons (ed_lst (ad_cons (ed_lst (ad_cons ed_int (ad_cons ed_int (ad_cons ed_int ad_nil)))) ad_nil)) (ad_cons (ed_var 5) ad_nil)))) ad_nil)))))
    (sd_cons (sd_set 6 sc__law_refused_right.nd (ed_op oAdd (ed_var 6) (ed_lst (ad_cons (ed_tup (ad_cons (ed_var 3) (ad_cons (ed_lst (ad_cons (ed_tup (ad_cons ed_int (ad_cons ed_int (ad_cons ed_int ad_nil)))) (ad_cons (ed_tup (ad_cons ed_int (ad_cons ed_int (ad_cons ed_int ad_nil)))) ad_nil))) (ad_cons (ed_var 5) ad_nil)))) (ad_cons (ed_tup (ad_cons (ed_var 3) (ad_cons (ed_var 4) (ad_cons (ed_lst (ad_cons (ed_tup (ad_cons ed_int (ad_cons ed_int (ad_cons ed_int ad_nil)))) ad_nil)) ad_nil)))) ad_nil)))))
    (sd_cons (sd_set 6 sc__law_refused_right.nd (ed_op oAdd (ed_var 6) (ed_lst (ad_cons (ed_tup (ad_cons (ed_var 3) (ad_cons (ed_var 4) (ad_cons (ed_lst (ad_cons (ed_tup (ad_cons ed_int (ad_cons ed_int (ad_cons ed_bl ad_nil)))) ad_nil)) ad_nil)))) (ad_cons (ed_tup (ad_cons (ed_var 3) (ad_cons (ed_var 4) (ad_cons (ed_lst (ad_cons (ed_tup (ad_cons ed_int (ad_cons ed_int ad_nil))) ad_nil)) ad_nil)))) ad_nil)))))
    (sd_cons (sd_set 7 sc__law_refused_right.nd (ed_ix (ed_var 6) (ed_op oMod (ed_var 2) ed_int)))
    (sd_cons (sd_setLc 8 (own := [("_law_row", 13)]) rfl sc__law_refused_right.nd rfl (sw_true rfl rfl rfl (by decide +kernel)) (id_seq (ed_var 1)) (blkOk_by (N := N__law_refused_right) (sc := defScope s__law_refused_right) (by decide +kernel)) (fun _ _ _ _ _ => (gd_name 13 sc__law_refused_right.nd)) (fun _ _ _ _ _ => tsd_nil) (fun _ _ _ _ _ => (ed_op oAdd (ed_var 13) (ed_lst (ad_cons (ed_tup (ad_cons ed_int (ad_cons ed_int ad_nil))) ad_nil)))))
    (sd_cons (sd_set 9 sc__law_refused_right.nd (ed_lst (ad_cons (ed_op oAdd (ed_var 1) (ed_slice (ed_var 1) od_none (od_some ed_int))) (ad_cons (ed_slice (ed_var 1) (od_some ed_int) od_none) (ad_cons (ed_var 8) (ad_cons ed_non (ad_cons (ed_op oAdd (ed_fresh (ld_lc (own := [("_law_ware", 14)]) rfl sc__law_refused_right.nd (id_seq (ed_var 5)) (blkOk_by (N := N__law_refused_right) (sc := defScope s__law_refused_right) (by decide +kernel)) (fun _ _ _ _ _ => (gd_name 14 sc__law_refused_right.nd)) (fun _ _ _ _ _ => tsd_nil) (fun _ _ _ _ _ => (ed_op oMul (ed_lst (ad_cons (ed_tup (ad_cons (ed_un uNeg ed_int) (ad_cons ed_int ad_nil))) ad_nil)) (ed_callB (cLen) B.n_len PySem.boot_len (ad_cons (ed_var 4) ad_nil)))))) (ed_lst (ad_cons (ed_lst ad_nil) ad_nil))) (ad_cons (ed_op oMul (ed_lst (ad_cons ed_non ad_nil)) (ed_callB (cLen) B.n_len PySem.boot_len (ad_cons (ed_var 5) ad_nil))) ad_nil))))))))
    (sd_cons (sd_set 10 sc__law_refused_right.nd (ed_ix (ed_var 9) (ed_op oMod (ed_op oFdiv (ed_var 2) ed_int) ed_int)))
    (sd_cons (sd_if (td_cmp (oNe hr.units) (ed_tell TT TB hm hu hr (fun _ _ _ _ _ _ _ hr => xd_call D_need_net hr passLam (ad_cons (ed_var 7) ad_nil))) ed_str (nomark _))
    (sd_one (sd_ret ed_bl))
    sd_nil)
    (sd_cons (sd_if (td_cmp (oNe hr.units) (ed_tell TT TB hm hu hr (fun _ _ _ _ _ _ _ hr => xd_call D_goes hr passLam (ad_cons (ed_var 7) (ad_cons (ed_var 10) ad_nil)))) ed_str (nomark _))
    (sd_one (sd_ret ed_bl))
    sd_nil)
    (sd_cons (sd_if (td_cmp (oNe hr.units) (ed_tell TT TB hm hu hr (fun _ _ _ _ _ _ _ hr => xd_call D_brought hr passLam (ad_cons (ed_var 7) (ad_cons (ed_var 10) ad_nil)))) ed_str (nomark _))
    (sd_one (sd_ret ed_bl))
    sd_nil)
    (sd_cons (sd_if (td_cmp (oNe hr.units) (ed_tell TT TB hm hu hr (fun _ _ _ _ _ _ _ hr => xd_call D_goes hr passLam (ad_cons (ed_var 0) (ad_cons (ed_var 10) ad_nil)))) ed_str (nomark _))
    (sd_one (sd_ret ed_bl))
    sd_nil)
    (sd_cons (sd_if (td_cmp (oNe hr.units) (ed_var 4) (ed_lst ad_nil) (nomark _))
    (sd_one (sd_for PassesOwn.never rfl (id_seq (ed_lst (ad_cons (ed_tup (ad_cons (ed_un uNeg ed_int) (ad_cons ed_int ad_nil))) (ad_cons (ed_tup (ad_cons ed_int (ad_cons ed_int ad_nil))) (ad_cons (ed_tup (ad_cons ed_int (ad_cons ed_int ad_nil))) (ad_cons ed_int (ad_cons ed_non (ad_cons (ed_tup (ad_cons ed_bl (ad_cons ed_int ad_nil))) ad_nil)))))))) (gd_name 11 sc__law_refused_right.nd)
    (sd_cons (sd_set 12 sc__law_refused_right.nd (ed_op oAdd (ed_lst (ad_cons (ed_op oAdd (ed_lst (ad_cons (ed_var 11) ad_nil)) (ed_slice (ed_ix (ed_var 1) ed_int) (od_some ed_int) od_none)) ad_nil)) (ed_slice (ed_var 1) (od_some ed_int) od_none)))
    (sd_one (sd_if (td_cmp (oNe hr.units) (ed_tell TT TB hm hu hr (fun _ _ _ _ _ _ _ hr => xd_call D_goes hr passLam (ad_cons (ed_var 0) (ad_cons (ed_var 12) ad_nil)))) ed_str (nomark _))
    (sd_one (sd_ret ed_bl))
    sd_nil)))))
    sd_nil)
    (sd_one (sd_ret (ed_cmp (oEq hr.units) (ed_tell TT TB hm hu hr (fun _ _ _ _ _ _ _ hr => xd_call D_brought hr passLam (ad_cons (ed_var 0) (ad_cons (ed_var 10) ad_nil)))) ed_str (nomark _))))))))))))))))))))
abbrev s_law : Stmt := topS 49
abbrev N_law : List Str := ["_law_script", "_law_k", "_law_more", "_law_net_here", "_law_j", "_law_flow_here", "_law_told_here"]
theorem sc_law : FnScope N_law ["_law_script"] (defScope s_law) := ⟨rfl, rfl, rfl, by decide +kernel, rfl, by decide +kernel, by decide +kernel⟩
theorem ok_law (B : Blt mg) {f : Addr} {fd : FuncData} (F : Fun K "law" "law" s_law f fd) (gm : mg "law" = some (.ref f)) {a_BadFlow : Addr} {a_BadNet : Addr} (D__law_cell : DefD P w K mg base CX0 "_law_cell" 1 sp__law_cell) (D__law_drawn : DefD P w K mg base CX0 "_law_drawn" 1 sp__law_drawn) (D__law_net : DefD P w K mg base CX0 "_law_net" 2 sp__law_net) (D_need_net : DefD P w K mg base (L2N.CX P w) "need_net" 4 (sp_need_net a_BadNet)) (D__law_flow : DefD P w K mg base CX0 "_law_flow" 9 sp__law_flow) (D_goes : DefD P w K mg base (L2N.CX P w) "goes" 7 (sp_goes a_BadFlow a_BadNet)) (D__law_goes : DefD P w K mg base CX0 "_law_goes" 4 sp__law_goes) (D_brought : DefD P w K mg base (L2N.CX P w) "brought" 7 (sp_brought a_BadFlow a_BadNet)) (D__law_brought : DefD P w K mg base CX0 "_law_brought" 4 sp__law_brought) (D__law_refused_right : DefD P w K mg base CX0 "_law_refused_right" 10 sp__law_refused_right) {c Pt : Addr} {wd : Addr → Str → Prop} (TT : ToldOk K mg 7 wd) (TB : LamX.TabB base mg c Pt) (hm : (Pt, lamQ "law") ∈ Tn.ns) (hu : ∀ p ∈ Tn.ns, p.1 = Pt → p.2 = lamQ "law") (hc : fd.code = .ref c) (hW : WdOk wd a_BadFlow a_BadNet) : FnOk P w K mg base CX0 11 f fd ["_law_script"] (spD K (sp_law)) := by
  refine fnC F sc_law hc len_law (fun A outer s H E hr => ⟨(g_law a_BadFlow a_BadNet wd), ?_, (pure_law _ _ _ hW)⟩)
  exact (sd_cons (sd_for PassesOwn.never rfl (id_range1 (ad_cons (ed_callB (cMax2 rfl) B.n_max (by decide +kernel) (ad_cons ed_int (ad_cons (ed_callB (cMin2 rfl) B.n_min (by decide +kernel) (ad_cons ed_int (ad_cons (ed_callB (cLen) B.n_len PySem.boot_len (ad_cons (ed_var 0) ad_nil)) ad_nil))) ad_nil))) ad_nil) B.n_range) (gd_name 1 sc_law.nd)
    (sd_cons (sd_set 2 sc_law.nd (ed_call D__law_drawn hr pass0 (ad_cons (ed_call D__law_cell hr pass0 (ad_cons (ed_var 0) (ad_cons (ed_var 1) ad_nil))) (ad_cons (ed_var 1) ad_nil))))
    (sd_cons (sd_set 3 sc_law.nd (ed_call D__law_net hr pass0 (ad_cons (ed_var 2) ad_nil)))
    (sd_cons (sd_if (td_cmp oNotN (ed_tell TT TB hm hu hr (fun _ _ _ _ _ _ _ hr => xd_call D_need_net hr passLam (ad_cons (ed_var 3) ad_nil))) ed_non (nomark _))
    (sd_one (sd_ret ed_bl))
    sd_nil)
    (sd_cons (sd_for PassesOwn.never rfl (id_range1 (ad_cons ed_int ad_nil) B.n_range) (gd_name 4 sc_law.nd)
    (sd_cons (sd_set 5 sc_law.nd (ed_call D__law_flow hr pass0 (ad_cons (ed_var 3) (ad_cons (ed_call D__law_drawn hr pass0 (ad_cons (ed_var 2) (ad_cons (ed_op oAdd ed_int (ed_var 4)) ad_nil))) ad_nil))))
    (sd_cons (sd_set 6 sc_law.nd (ed_tell TT TB hm hu hr (fun _ _ _ _ _ _ _ hr => xd_call D_goes hr passLam (ad_cons (ed_var 3) (ad_cons (ed_var 5) ad_nil)))))
    (sd_cons (sd_if (PW.pt (wd_or (td_not (td_val (ed_isi (Ts := "bool") (ed_var 6) (by decide) B.isinstance B.n_bool (by decide +kernel)))) (wd_or1 (td_cmp (oNe hr.units) (ed_var 6) (ed_call D__law_goes hr pass0 (ad_cons (ed_var 3) (ad_cons (ed_var 5) ad_nil))) (nomark _)))))
    (sd_one (sd_ret ed_bl))
    sd_nil)
    (sd_one (sd_if (td_cmp (oNe hr.units) (ed_tell TT TB hm hu hr (fun _ _ _ _ _ _ _ hr => xd_call D_brought hr passLam (ad_cons (ed_var 3) (ad_cons (ed_var 5) ad_nil)))) (ed_call D__law_brought hr pass0 (ad_cons (ed_var 3) (ad_cons (ed_var 5) ad_nil))) (nomark _))
    (sd_one (sd_ret ed_bl))
    sd_nil))))))
    (sd_one (sd_if (td_not (td_val (ed_call D__law_refused_right hr pass0 (ad_cons (ed_var 3) (ad_cons (ed_var 5) (ad_cons (ed_op oFdiv (ed_var 2) (ed_op oPow ed_int ed_int)) ad_nil))))))
    (sd_one (sd_ret ed_bl))
    sd_nil)))))))
    (sd_one (sd_ret ed_bl)))
end
end Dy

/-! # What the module's top has left. -/
namespace Dy
open PySem PySem.Spec PyProof.Rows L2
/-! ### defs, constants, classes, as the written part tells them -/
structure DefK (K : PySem.W.Frag) (x : Str) (st : Stmt) : Prop where
  ex : ∃ (f : Addr) (fd : FuncData), PySem.W.nsIn K mainGlobals x = some (some (.ref f)) ∧ Fun K x x st f fd
theorem defK {K : PySem.W.Frag} {x : Str} {st : Stmt} {f : Addr} {oc : Value} {od an : Option Addr} {osl : Array (Option Value)} {kV doc pm cdv ct : Value} (a : PySem.W.nsIn K mainGlobals x = some (some (.ref f)))
    (l : K.lookup f = some ⟨oc, od, .func (PySem.W.fnOf x x (defArgs st) (defBody st) (defScope st) .none kV doc pm an cdv ct), osl⟩) (c : PySem.W.codeIn K cdv x = true) (k : PySem.W.keepIn K (.ref f) = true) : DefK K x st :=
  ⟨f, _, a, fun_mk l c k⟩
/-- a def that makes lambdas: its code object and table -/
structure DefT (K : PySem.W.Frag) (x : Str) (st : Stmt) (f c P : Addr) : Prop where
  ex : ∃ (fd : FuncData) (o : Obj) (e : Value) (dd : Option Addr) (vs : Array Value) (sl : Array (Option Value)), PySem.W.nsIn K mainGlobals x = some (some (.ref f)) ∧ Fun K x x st f fd ∧ fd.code = .ref c ∧ K.lookup f = some o ∧ o.data = .func fd ∧
    K.lookup c = some ⟨e, dd, .fields vs, sl⟩ ∧ vs[11]? = some (.ref P) ∧ PySem.W.codeHdIn K c P = true ∧ K.lookup P = none
theorem defT {K : PySem.W.Frag} {x : Str} {st : Stmt} {f c P : Addr} {oc e : Value} {od an dd : Option Addr} {osl sl : Array (Option Value)} {kV doc pm ct : Value} {vs : Array Value} (a : PySem.W.nsIn K mainGlobals x = some (some (.ref f)))
    (l : K.lookup f = some ⟨oc, od, .func (PySem.W.fnOf x x (defArgs st) (defBody st) (defScope st) .none kV doc pm an (.ref c) ct), osl⟩) (cc : PySem.W.codeIn K (.ref c) x = true) (k : PySem.W.keepIn K (.ref f) = true)
    (lc : K.lookup c = some ⟨e, dd, .fields vs, sl⟩) (hP : vs[11]? = some (.ref P)) (hc : PySem.W.codeHdIn K c P = true) (nP : K.lookup P = none) : DefT K x st f c P :=
  ⟨_, _, e, dd, vs, sl, a, fun_mk l cc k, rfl, l, rfl, lc, hP, hc, nP⟩
structure ExcK (K : PySem.W.Frag) (x : Str) (C : Addr) : Prop where
  a : PySem.W.nsIn K mainGlobals x = some (some (.ref C))
  k : PySem.W.keepIn K (.ref C) = true
  x : PySem.W.excIn K C [.type "ValueError", .type "Exception", .type "BaseException", .type "object"] "ValueError.__new__" = true
  b : PySem.W.subIn K (.ref C) (.type "BaseException") = some true
  v : PySem.W.subIn K (.ref C) (.type "ValueError") = some true
  t : PySem.W.typeIn K (.ref C) = some (.type "type")
  i : PySem.W.isClsIn K C = true
  s : PySem.W.subIn K (.ref C) (.ref C) = some true
  e : ExcC K C
theorem kit_ref {K : PySem.W.Frag} {C X : Addr} {b : Bool} (h1 : PySem.W.isClsIn K X = true) (h2 : PySem.W.typeIn K (.ref X) = some (.type "type")) (h3 : PySem.W.subIn K (.ref C) (.ref X) = some b) (hs : PySem.W.subIn K (.ref C) (.ref C) = some true) : PySem.W.kitOne K (.ref C) (.ref X) = some b := by
  unfold PySem.W.kitOne
  by_cases h : C = X
  · subst h
    rw [h3] at hs
    rw [hs]
    simp
  · rw [if_neg (by simpa using h)]
    have e2 : ((PySem.W.clsIn K X).isSome && PySem.W.typeIn K (.ref X) == some (.type "type")) = true := by
      have h1' : (PySem.W.clsIn K X).isSome = true := h1
      rw [h1', h2] <;> rfl
    show (if ((PySem.W.clsIn K X).isSome && PySem.W.typeIn K (.ref X) == some (.type "type")) = true then PySem.W.subIn K (.ref C) (.ref X) else none) = some b
    rw [if_pos e2]
    exact h3
theorem kit_val {K : PySem.W.Frag} {C : Addr} (h : PySem.W.subIn K (.ref C) (.type "ValueError") = some true) : PySem.W.kitOne K (.ref C) (.type "ValueError") = some true := by
  have e : PySem.W.kitMeta "ValueError" = true := by decide +kernel
  show (if (Value.ref C == Value.type "ValueError") = true then some true else (if PySem.W.kitMeta "ValueError" = true then PySem.W.subIn K (.ref C) (.type "ValueError") else none)) = some true
  rw [if_neg (by simp), if_pos e]
  exact h
/-! ### the end of a row: tables of all the defs that make lambdas -/
theorem walk_top {l : PySem.W.OpenLaw} {n k : Nat} {q : Program} {loose : List Str} {XP : (Str → Option Value) → Heap → Prop} {YP : World → Heap → Prop} {d : DefRec} {K : Params → PySem.W.Frag} {CX : World → CXT} {x : Str}
    (hn : l.most = some n) (hn2 : n ≤ sizeLine) (hdf : d.params.defaults = []) (hr : Room k callerA) (hY : ∀ (w : World) (h : Heap), YP w h → (K w.params).In h)
    (F : ∀ (w : World) (mg : Str → Option Value) (fa : Addr) (h : Heap), (K w.params).In h → h.Ns mainGlobals mg → mg d.name = some (.ref fa) → (∀ (y : Str) (fe : Addr), ((recsOf q).any fun e => e.name == y) = true → mg y = some (.ref fe) → LamX.OwnTab (K w.params) fe h) → LamX.LawAtS l w (K w.params) (CX w) k n x mg fa h)
    (hCX : ∀ (w : World) (H : Hp) (s : Shared) (e : Value) (s' : Shared), CX w [] H s (fun _ _ _ => False) e s' → False) :
    PySem.W.WalkO q loose XP YP l.row.toRowW d [] (fun f vs => PySem.call f vs) := by
  refine Att.attach_callB hn hdf fun w s₀ s₁ mg mb fa o pm cd doc a vs ns G Y ho hd hcd hmg hobj hints hlen hbits hg => ?_
  have KX := hY w _ Y
  have own : ∀ (y : Str) (fe : Addr), ((recsOf q).any fun e => e.name == y) = true → mg y = some (.ref fe) → LamX.OwnTab (K w.params) fe s₁.heap := fun y fe hany hy c P o1 fd1 e dd vs1 sl k1 k2 k3 k4 k5 => by
    obtain ⟨dL, hm, hn1⟩ := List.any_eq_true.mp hany
    obtain ⟨a', o', fd', c', P', h1, h2, h3, h4, h5, ⟨oc, vc, e1, _, e3, e4⟩, hP⟩ := G.T.tab dL hm
    rw [beq_iff_eq.mp hn1, hy] at h1
    cases h1
    rw [KX _ _ k1] at h2
    cases h2
    rw [k2] at h3
    cases h3
    rw [k3] at h4
    cases h4
    rw [KX _ _ k4] at e1
    cases e1
    cases e3
    rw [k5] at e4
    cases e4
    exact hP
  obtain ⟨fd, cs, sp, hT, nT, hC, hb, hsp, hF⟩ := F w mg fa _ KX G.T.g hmg own
  exact LamX.law_callTs KX G.T.g G.T.b G.T.builtins G.T.nolimit hg hT nT hC G.T.bmain hobj hints (Nat.le_trans hlen hn2) hr hF hb (fun H hH hS => hsp H a ns hlen hbits hH hS) fun H e s' => hCX w H s₁ e s'
theorem gc_int {K : PySem.W.Frag} {h : Heap} {mg : Str → Option Value} {x : Str} {i : Int} {t : Tok} (X : K.In h) (G : h.Ns mainGlobals mg) (a : PySem.W.nsIn K mainGlobals x = some (some (.int i t))) : Gc K mg x (.int i) :=
  ⟨_, .int i, PySem.W.mg_of X G a, ⟨t, rfl⟩, fun F => .int i⟩
theorem gc_pair {K : PySem.W.Frag} {h : Heap} {mg : Str → Option Value} {x : Str} {p : Addr} {i j : Int} {t u : Tok} {dd : Option Addr} {n : Nat} {sl : Array (Option Value)} (X : K.In h) (G : h.Ns mainGlobals mg) (a : PySem.W.nsIn K mainGlobals x = some (some (.ref p)))
    (l : K.lookup p = some ⟨.type "tuple", dd, .seq #[.int i t, .int j u] n, sl⟩) : Gc K mg x (.tup [.int i, .int j]) :=
  ⟨_, .ref p, PySem.W.mg_of X G a, rfl, fun F => by
    have hv : Vals [V.int i, V.int j] [Value.int i t, Value.int j u] := .cons (show RelV (.int i) _ from ⟨t, rfl⟩) (.cons (show RelV (.int j) _ from ⟨u, rfl⟩) .nil)
    have hz : (#[Value.int i t, Value.int j u] : Array Value).size ≤ sizeLine := by
      rw [sizeLine_eq]
      show 2 ≤ 16777216
      omega
    exact .tup (xs := [V.int i, V.int j]) (.inr ⟨_, #[.int i t, .int j u], n, l, rfl, rfl, hz, hv⟩) (.cons (.int i) (.cons (.int j) .nil))⟩
section
variable [Tn] {P : Program} {w : World} {K : PySem.W.Frag} {mg : Str → Option Value} {base : Heap}
theorem DefD.mono {CX : CXT} {x : Str} {j k : Nat} {φ : Spc} (h : DefD P w K mg base CX x j φ) (le : j ≤ k) : DefD P w K mg base CX x k φ := by
  obtain ⟨f, fd, ps, F, a, b, c⟩ := h.ex
  exact ⟨f, fd, ps, F.mono le, a, b, c⟩
/-- a promise of nothing -/
theorem defD_none {CX : CXT} {x : Str} {st : Stmt} {f : Addr} {fd : FuncData} {k : Nat} {ps : List Str} (F : Fun K x x st f fd) (gm : mg x = some (.ref f)) (hb : Binds K fd ps []) : DefD P w K mg base CX x k (fun _ _ _ => False) :=
  ⟨f, fd, ps, ⟨fun vs H Q E h => by obtain ⟨_, _, _, _, _, _, _, z, _⟩ := h; exact z.elim, fun A outer s H args us vs Q E _ _ _ _ h => by obtain ⟨_, _, _, _, _, _, _, z, _⟩ := h; exact z.elim⟩, gm, F.kp, hb⟩
end
end Dy

/-! # The end. -/
namespace Dy
open PySem PySem.Spec PyProof.Rows L2
section
variable [Tn]
abbrev s_word : Stmt := topS 34
abbrev N_word : List Str := ["_law_e", "_law_flags"]
theorem sc_word : FnScope N_word ["_law_e"] (defScope s_word) := ⟨rfl, rfl, rfl, by decide +kernel, rfl, by decide +kernel, by decide +kernel⟩
theorem body_word {P : Program} {w : World} {K : PySem.W.Frag} {mg : Str → Option Value} {base : Heap} {f a aN aF aL C : Addr} {cdv : Value} {A : Around} {outer : List Env} {s : Shared} {H : Hp} {oe : Obj} (B : Blt mg) (gN : mg "BadNet" = some (.ref aN)) (gF : mg "BadFlow" = some (.ref aF)) (gL : mg "BadFloor" = some (.ref aL)) (ec : ExcC K C)
    (he : HotE (L2H.cxH CX0 P w K mg base N_word "_law_word" (defScope s_word) f cdv A outer s H E0 (a, oe)) a oe C) : PSs (L2H.cxH CX0 P w K mg base N_word "_law_word" (defScope s_word) f cdv A outer s H E0 (a, oe)) (defBody s_word) (tWord K C a aN aF aL) := by
  have va : ∀ {p : Pos}, PE (L2H.cxH CX0 P w K mg base N_word "_law_word" (defScope s_word) f cdv A outer s H E0 (a, oe)) (.Name "_law_e" p) (tVar 0) := pe_var rfl (.inl rfl) (by decide) (by decide)
  have vf : ∀ {p : Pos}, PE (L2H.cxH CX0 P w K mg base N_word "_law_word" (defScope s_word) f cdv A outer s H E0 (a, oe)) (.Name "_law_flags" p) (tVar 1) := pe_var rfl (.inl rfl) (by decide) (by decide)
  exact pss_cons (ps_set (i := 1) sc_word.nd rfl (.inl rfl) (pe_lst (pa_cons (pe_callB (call_isH ec he) rfl B.isinstance (by decide +kernel) (pa_cons va (pa_cons (pe_glob rfl gN rfl) pa_nil))) (pa_cons (pe_callB (call_isH ec he) rfl B.isinstance (by decide +kernel) (pa_cons va (pa_cons (pe_glob rfl gF rfl) pa_nil))) (pa_cons (pe_callB (call_isH ec he) rfl B.isinstance (by decide +kernel) (pa_cons va (pa_cons (pe_glob rfl gL rfl) pa_nil))) pa_nil)))))
    (pss_cons (ps_if (PW.pt (pw_or (pt_cmpR op_ne (pe_callB (call_hotSum he) rfl B.n_sum (by decide +kernel) (pa_cons (pe_hotInts he vf B.n_int (by decide +kernel) (by decide +kernel) rfl (by decide +kernel) rfl rfl rfl) pa_nil)) pe_int (nomark _)) (pw_or1 (pt_not (pt_val (pe_callB (call_isH ec he) rfl B.isinstance (by decide +kernel) (pa_cons va (pa_cons (pe_bltn (v := .ty "ValueError") rfl B.n_ValueError (by decide +kernel) rfl) pa_nil)))))))) (pss_one (ps_ret pe_str)) pss_nil)
    (pss_one (ps_ret (pe_ix ix_list (pe_lst (pa_cons pe_str (pa_cons pe_str (pa_cons pe_str pa_nil)))) (pe_bm PySem.F.plainAttrs_list PySem.F.slot_list_index PySem.F.type_list_index mt_index vf (pa_cons pe_bl pa_nil)) (fun _ _ => rfl)))))
abbrev s_told : Stmt := topS 35
theorem sc_told : FnScope (NTold "_law_deed" "_law_e") ["_law_deed"] (defScope s_told) := ⟨rfl, rfl, rfl, by decide +kernel, rfl, by decide +kernel, by decide +kernel⟩
theorem told_ok {K : PySem.W.Frag} {mg : Str → Option Value} {aN aF aL aW fw ft : Addr} {fdw fdt : FuncData} (B : Blt mg) (gN : mg "BadNet" = some (.ref aN)) (gF : mg "BadFlow" = some (.ref aF)) (gL : mg "BadFloor" = some (.ref aL)) (gW : mg "WareError" = some (.ref aW))
    (Fw : Fun K "_law_word" "_law_word" s_word fw fdw) (gw : mg "_law_word" = some (.ref fw)) (Ft : Fun K "_law_told" "_law_told" s_told ft fdt) (gt : mg "_law_told" = some (.ref ft))
    (eN : ExcK K "BadNet" aN) (eF : ExcK K "BadFlow" aF) (eL : ExcK K "BadFloor" aL) (x : ∀ C w, Word3 aN aF aL C w → PySem.W.exmOne K (.ref C) (.ref aW) = some true)
    (nf : PySem.W.subIn K (.ref aN) (.ref aF) = some false) (nl : PySem.W.subIn K (.ref aN) (.ref aL) = some false) (fn : PySem.W.subIn K (.ref aF) (.ref aN) = some false) (fl : PySem.W.subIn K (.ref aF) (.ref aL) = some false) (ln : PySem.W.subIn K (.ref aL) (.ref aN) = some false) (lf : PySem.W.subIn K (.ref aL) (.ref aF) = some false) : ToldOk K mg 7 (Word3 aN aF aL) := by
  have bt : Binds K fdt ["_law_deed"] [] := Ft.binds fun _ _ _ _ _ _ us hl => match us, hl with | [_], _ => rfl
  have bw : Binds K fdw ["_law_e"] [] := Fw.binds fun _ _ _ _ _ _ us hl => match us, hl with | [_], _ => rfl
  refine ⟨s_told, ft, aW, fdt, _, _, _, _, _, _, _, _, _, _, Ft, bt, sc_told, rfl, rfl, rfl, rfl, gW, gt, x, fun Z a1 C w oe hK hm hN hs hw he hr => ?_⟩
  subst hK hm
  have hg : Gl Z "_law_word" := by show Z.env.scope.names.lookup ("_law_word" : Str) = some .globalImplicit; rw [hs]; rfl
  have hv : Vis Z.env.scope "_law_e" := by rw [hs]; exact .inl rfl
  rcases hw with ⟨rfl, rfl⟩ | ⟨rfl, rfl⟩ | ⟨rfl, rfl⟩
  · exact word_call (k := 6) Fw bw rfl sc_word gw hg (by decide) hN hv (by decide) (by decide) rfl he hr (kit_ref eN.i eN.t eN.s eN.s) (kit_ref eF.i eF.t nf eN.s) (kit_ref eL.i eL.t nl eN.s) (kit_val eN.v) (.inl ⟨rfl, rfl, rfl, rfl⟩) fun cdv s H h => body_word B gN gF gL eN.e h
  · exact word_call (k := 6) Fw bw rfl sc_word gw hg (by decide) hN hv (by decide) (by decide) rfl he hr (kit_ref eN.i eN.t fn eF.s) (kit_ref eF.i eF.t eF.s eF.s) (kit_ref eL.i eL.t fl eF.s) (kit_val eF.v) (.inr (.inl ⟨rfl, rfl, rfl, rfl⟩)) fun cdv s H h => body_word B gN gF gL eF.e h
  · exact word_call (k := 6) Fw bw rfl sc_word gw hg (by decide) hN hv (by decide) (by decide) rfl he hr (kit_ref eN.i eN.t ln eL.s) (kit_ref eF.i eF.t lf eL.s) (kit_ref eL.i eL.t eL.s eL.s) (kit_val eL.v) (.inr (.inr ⟨rfl, rfl, rfl, rfl⟩)) fun cdv s H h => body_word B gN gF gL eL.e h
end
theorem law_at {l : PySem.W.OpenLaw} {w : World} {K : PySem.W.Frag} {h : Heap} {mg : Str → Option Value} {fa aN aF aL aW f0 c0 P0 f1 c1 P1 : Addr} {n : Nat} (hn : n ≤ 1000) (X : K.In h) (G : h.Ns mainGlobals mg) (hfa : mg "law" = some (.ref fa))
    (own0 : ∀ fe, mg "_law_refused_right" = some (.ref fe) → LamX.OwnTab K fe h)
    (own1 : ∀ fe, mg "law" = some (.ref fe) → LamX.OwnTab K fe h)
    (aW0 : PySem.W.nsIn K mainGlobals "WareError" = some (some (.ref aW)))
    (w1 : PySem.W.subIn K (.ref aW) (.type "BaseException") = some true)
    (w2 : PySem.W.hasDictIn K aW = true)
    (w3 : PySem.W.typeIn K (.ref aW) = some (.type "type"))
    (zaN : PySem.W.nsIn K mainGlobals "BadNet" = some (some (.ref aN)))
    (zaF : PySem.W.nsIn K mainGlobals "BadFlow" = some (some (.ref aF)))
    (zaL : PySem.W.nsIn K mainGlobals "BadFloor" = some (some (.ref aL)))
    (eN : ExcK K "BadNet" aN)
    (saN : PySem.W.subIn K (.ref aN) (.ref aW) = some true)
    (nf : PySem.W.subIn K (.ref aN) (.ref aF) = some false)
    (nl : PySem.W.subIn K (.ref aN) (.ref aL) = some false)
    (eF : ExcK K "BadFlow" aF)
    (saF : PySem.W.subIn K (.ref aF) (.ref aW) = some true)
    (fn : PySem.W.subIn K (.ref aF) (.ref aN) = some false)
    (fl : PySem.W.subIn K (.ref aF) (.ref aL) = some false)
    (eL : ExcK K "BadFloor" aL)
    (saL : PySem.W.subIn K (.ref aL) (.ref aW) = some true)
    (ln : PySem.W.subIn K (.ref aL) (.ref aN) = some false)
    (lf : PySem.W.subIn K (.ref aL) (.ref aF) = some false)
    (b_isinstance : PySem.W.nsIn K mainGlobals "isinstance" = some none)
    (b_len : PySem.W.nsIn K mainGlobals "len" = some none)
    (b_abs : PySem.W.nsIn K mainGlobals "abs" = some none)
    (b_all : PySem.W.nsIn K mainGlobals "all" = some none)
    (b_any : PySem.W.nsIn K mainGlobals "any" = some none)
    (b_sum : PySem.W.nsIn K mainGlobals "sum" = some none)
    (b_int : PySem.W.nsIn K mainGlobals "int" = some none)
    (b_bool : PySem.W.nsIn K mainGlobals "bool" = some none)
    (b_tuple : PySem.W.nsIn K mainGlobals "tuple" = some none)
    (b_list : PySem.W.nsIn K mainGlobals "list" = some none)
    (b_range : PySem.W.nsIn K mainGlobals "range" = some none)
    (b_enumerate : PySem.W.nsIn K mainGlobals "enumerate" = some none)
    (b_zip : PySem.W.nsIn K mainGlobals "zip" = some none)
    (b_max : PySem.W.nsIn K mainGlobals "max" = some none)
    (b_min : PySem.W.nsIn K mainGlobals "min" = some none)
    (b_ValueError : PySem.W.nsIn K mainGlobals "ValueError" = some none)
    (c0_MOST : ∀ (h : Heap) (mg : Str → Option Value), K.In h → h.Ns mainGlobals mg → Gc K mg "MOST" c_MOST)
    (c0_MOST_PLACES : ∀ (h : Heap) (mg : Str → Option Value), K.In h → h.Ns mainGlobals mg → Gc K mg "MOST_PLACES" c_MOST_PLACES)
    (c0_MOST_WARES : ∀ (h : Heap) (mg : Str → Option Value), K.In h → h.Ns mainGlobals mg → Gc K mg "MOST_WARES" c_MOST_WARES)
    (c0_MOST_WAYS : ∀ (h : Heap) (mg : Str → Option Value), K.In h → h.Ns mainGlobals mg → Gc K mg "MOST_WAYS" c_MOST_WAYS)
    (c0_NOUGHT : ∀ (h : Heap) (mg : Str → Option Value), K.In h → h.Ns mainGlobals mg → Gc K mg "NOUGHT" c_NOUGHT)
    (d_common : DefK K "common" s_common)
    (d_fraction : DefK K "fraction" s_fraction)
    (d_plus : DefK K "plus" s_plus)
    (d_minus : DefK K "minus" s_minus)
    (d_is_less : DefK K "is_less" s_is_less)
    (d_total : DefK K "total" s_total)
    (d_is_fraction : DefK K "is_fraction" s_is_fraction)
    (d_are_shares : DefK K "are_shares" s_are_shares)
    (d_is_count : DefK K "is_count" s_is_count)
    (d_is_way : DefK K "is_way" s_is_way)
    (d_is_net : DefK K "is_net" s_is_net)
    (d_need_net : DefK K "need_net" s_need_net)
    (d_is_flow : DefK K "is_flow" s_is_flow)
    (d_need_flow : DefK K "need_flow" s_need_flow)
    (d_left_at : DefK K "left_at" s_left_at)
    (d_does_go : DefK K "does_go" s_does_go)
    (d_goes : DefK K "goes" s_goes)
    (d_brought_by : DefK K "brought_by" s_brought_by)
    (d_brought : DefK K "brought" s_brought)
    (d__law_cell : DefK K "_law_cell" s__law_cell)
    (d__law_drawn : DefK K "_law_drawn" s__law_drawn)
    (d__law_word : DefK K "_law_word" s_word)
    (d__law_told : DefK K "_law_told" s_told)
    (d__law_made : DefK K "_law_made" s__law_made)
    (d__law_plus : DefK K "_law_plus" s__law_plus)
    (d__law_times : DefK K "_law_times" s__law_times)
    (d__law_all : DefK K "_law_all" s__law_all)
    (d__law_under : DefK K "_law_under" s__law_under)
    (d__law_net : DefK K "_law_net" s__law_net)
    (d__law_net_at : DefK K "_law_net_at" s__law_net_at)
    (d__law_goes : DefK K "_law_goes" s__law_goes)
    (d__law_brought : DefK K "_law_brought" s__law_brought)
    (d__law_rows : DefK K "_law_rows" s__law_rows)
    (d__law_flow : DefK K "_law_flow" s__law_flow)
    (d__law_refused_right : DefT K "_law_refused_right" s__law_refused_right f0 c0 P0)
    (d_law : DefT K "law" s_law f1 c1 P1)
    (ne01 : P0 ≠ P1)
    : LamX.LawAtS l w K CX0 11 n "_law_script" mg fa h := by
  letI : Tn := ⟨[(P0, lamQ "_law_refused_right"), (P1, lamQ "law")]⟩
  have B : Blt mg := ⟨PySem.W.mg_none_of X G b_isinstance, PySem.W.mg_none_of X G b_len, PySem.W.mg_none_of X G b_abs, PySem.W.mg_none_of X G b_all, PySem.W.mg_none_of X G b_any, PySem.W.mg_none_of X G b_sum, PySem.W.mg_none_of X G b_int, PySem.W.mg_none_of X G b_bool, PySem.W.mg_none_of X G b_tuple, PySem.W.mg_none_of X G b_list, PySem.W.mg_none_of X G b_range, PySem.W.mg_none_of X G b_enumerate, PySem.W.mg_none_of X G b_zip, PySem.W.mg_none_of X G b_max, PySem.W.mg_none_of X G b_min, PySem.W.mg_none_of X G b_ValueError⟩
  obtain ⟨f_common, fd_common, a_common, F_common⟩ := d_common.ex
  have g_common := PySem.W.mg_of X G a_common
  obtain ⟨f_fraction, fd_fraction, a_fraction, F_fraction⟩ := d_fraction.ex
  have g_fraction := PySem.W.mg_of X G a_fraction
  obtain ⟨f_plus, fd_plus, a_plus, F_plus⟩ := d_plus.ex
  have g_plus := PySem.W.mg_of X G a_plus
  obtain ⟨f_minus, fd_minus, a_minus, F_minus⟩ := d_minus.ex
  have g_minus := PySem.W.mg_of X G a_minus
  obtain ⟨f_is_less, fd_is_less, a_is_less, F_is_less⟩ := d_is_less.ex
  have g_is_less := PySem.W.mg_of X G a_is_less
  obtain ⟨f_total, fd_total, a_total, F_total⟩ := d_total.ex
  have g_total := PySem.W.mg_of X G a_total
  obtain ⟨f_is_fraction, fd_is_fraction, a_is_fraction, F_is_fraction⟩ := d_is_fraction.ex
  have g_is_fraction := PySem.W.mg_of X G a_is_fraction
  obtain ⟨f_are_shares, fd_are_shares, a_are_shares, F_are_shares⟩ := d_are_shares.ex
  have g_are_shares := PySem.W.mg_of X G a_are_shares
  obtain ⟨f_is_count, fd_is_count, a_is_count, F_is_count⟩ := d_is_count.ex
  have g_is_count := PySem.W.mg_of X G a_is_count
  obtain ⟨f_is_way, fd_is_way, a_is_way, F_is_way⟩ := d_is_way.ex
  have g_is_way := PySem.W.mg_of X G a_is_way
  obtain ⟨f_is_net, fd_is_net, a_is_net, F_is_net⟩ := d_is_net.ex
  have g_is_net := PySem.W.mg_of X G a_is_net
  obtain ⟨f_need_net, fd_need_net, a_need_net, F_need_net⟩ := d_need_net.ex
  have g_need_net := PySem.W.mg_of X G a_need_net
  obtain ⟨f_is_flow, fd_is_flow, a_is_flow, F_is_flow⟩ := d_is_flow.ex
  have g_is_flow := PySem.W.mg_of X G a_is_flow
  obtain ⟨f_need_flow, fd_need_flow, a_need_flow, F_need_flow⟩ := d_need_flow.ex
  have g_need_flow := PySem.W.mg_of X G a_need_flow
  obtain ⟨f_left_at, fd_left_at, a_left_at, F_left_at⟩ := d_left_at.ex
  have g_left_at := PySem.W.mg_of X G a_left_at
  obtain ⟨f_does_go, fd_does_go, a_does_go, F_does_go⟩ := d_does_go.ex
  have g_does_go := PySem.W.mg_of X G a_does_go
  obtain ⟨f_goes, fd_goes, a_goes, F_goes⟩ := d_goes.ex
  have g_goes := PySem.W.mg_of X G a_goes
  obtain ⟨f_brought_by, fd_brought_by, a_brought_by, F_brought_by⟩ := d_brought_by.ex
  have g_brought_by := PySem.W.mg_of X G a_brought_by
  obtain ⟨f_brought, fd_brought, a_brought, F_brought⟩ := d_brought.ex
  have g_brought := PySem.W.mg_of X G a_brought
  obtain ⟨f__law_cell, fd__law_cell, a__law_cell, F__law_cell⟩ := d__law_cell.ex
  have g__law_cell := PySem.W.mg_of X G a__law_cell
  obtain ⟨f__law_drawn, fd__law_drawn, a__law_drawn, F__law_drawn⟩ := d__law_drawn.ex
  have g__law_drawn := PySem.W.mg_of X G a__law_drawn
  obtain ⟨f__law_word, fd__law_word, a__law_word, F__law_word⟩ := d__law_word.ex
  have g__law_word := PySem.W.mg_of X G a__law_word
  obtain ⟨f__law_told, fd__law_told, a__law_told, F__law_told⟩ := d__law_told.ex
  have g__law_told := PySem.W.mg_of X G a__law_told
  obtain ⟨f__law_made, fd__law_made, a__law_made, F__law_made⟩ := d__law_made.ex
  have g__law_made := PySem.W.mg_of X G a__law_made
  obtain ⟨f__law_plus, fd__law_plus, a__law_plus, F__law_plus⟩ := d__law_plus.ex
  have g__law_plus := PySem.W.mg_of X G a__law_plus
  obtain ⟨f__law_times, fd__law_times, a__law_times, F__law_times⟩ := d__law_times.ex
  have g__law_times := PySem.W.mg_of X G a__law_times
  obtain ⟨f__law_all, fd__law_all, a__law_all, F__law_all⟩ := d__law_all.ex
  have g__law_all := PySem.W.mg_of X G a__law_all
  obtain ⟨f__law_under, fd__law_under, a__law_under, F__law_under⟩ := d__law_under.ex
  have g__law_under := PySem.W.mg_of X G a__law_under
  obtain ⟨f__law_net, fd__law_net, a__law_net, F__law_net⟩ := d__law_net.ex
  have g__law_net := PySem.W.mg_of X G a__law_net
  obtain ⟨f__law_net_at, fd__law_net_at, a__law_net_at, F__law_net_at⟩ := d__law_net_at.ex
  have g__law_net_at := PySem.W.mg_of X G a__law_net_at
  obtain ⟨f__law_goes, fd__law_goes, a__law_goes, F__law_goes⟩ := d__law_goes.ex
  have g__law_goes := PySem.W.mg_of X G a__law_goes
  obtain ⟨f__law_brought, fd__law_brought, a__law_brought, F__law_brought⟩ := d__law_brought.ex
  have g__law_brought := PySem.W.mg_of X G a__law_brought
  obtain ⟨f__law_rows, fd__law_rows, a__law_rows, F__law_rows⟩ := d__law_rows.ex
  have g__law_rows := PySem.W.mg_of X G a__law_rows
  obtain ⟨f__law_flow, fd__law_flow, a__law_flow, F__law_flow⟩ := d__law_flow.ex
  have g__law_flow := PySem.W.mg_of X G a__law_flow
  obtain ⟨fd__law_refused_right, o0, e0, dd0, vs0, sl0, a__law_refused_right, F__law_refused_right, hc0, lo0, od0, lc0, hP0, cd0, nP0⟩ := d__law_refused_right.ex
  have g__law_refused_right := PySem.W.mg_of X G a__law_refused_right
  obtain ⟨fd_law, o1, e1, dd1, vs1, sl1, a_law, F_law, hc1, lo1, od1, lc1, hP1, cd1, nP1⟩ := d_law.ex
  have g_law := PySem.W.mg_of X G a_law
  have X_BadNet : ExcD K mg "BadNet" aN := ⟨PySem.W.mg_of X G eN.a, eN.k, eN.x, eN.b, eN.t⟩
  have X_BadFlow : ExcD K mg "BadFlow" aF := ⟨PySem.W.mg_of X G eF.a, eF.k, eF.x, eF.b, eF.t⟩
  have X_BadFloor : ExcD K mg "BadFloor" aL := ⟨PySem.W.mg_of X G eL.a, eL.k, eL.x, eL.b, eL.t⟩
  have C_MOST := c0_MOST h mg X G
  have C_MOST_PLACES := c0_MOST_PLACES h mg X G
  have C_MOST_WARES := c0_MOST_WARES h mg X G
  have C_MOST_WAYS := c0_MOST_WAYS h mg X G
  have C_NOUGHT := c0_NOUGHT h mg X G
  have hx : ∀ C w, Word3 aN aF aL C w → PySem.W.exmOne K (.ref C) (.ref aW) = some true := by
    rintro C w (⟨rfl, rfl⟩ | ⟨rfl, rfl⟩ | ⟨rfl, rfl⟩)
    · exact PySem.W.exm_ref w1 w2 w3 saN
    · exact PySem.W.exm_ref w1 w2 w3 saF
    · exact PySem.W.exm_ref w1 w2 w3 saL
  have TT := told_ok B X_BadNet.g X_BadFlow.g X_BadFloor.g (PySem.W.mg_of X G aW0) F__law_word g__law_word F__law_told g__law_told eN eF eL hx nf nl fn fl ln lf
  have hW : WdOk (Word3 aN aF aL) aF aN := ⟨.inr (.inl ⟨rfl, rfl⟩), .inl ⟨rfl, rfl⟩⟩
  have ef : f1 = fa := by
    rw [hfa] at g_law
    cases g_law
    rfl
  subst ef
  have tabE : ∀ p ∈ [(c0, P0), (c1, P1)], h.get? p.2 = some { cls := .none, data := .fields #[] } := fun p hp => by
    simp only [List.mem_cons, List.not_mem_nil, or_false] at hp
    rcases hp with rfl | rfl
    · exact own0 _ g__law_refused_right _ _ _ _ _ _ _ _ lo0 od0 hc0 lc0 hP0
    · exact own1 _ g_law _ _ _ _ _ _ _ _ lo1 od1 hc1 lc1 hP1
  refine ⟨fd_law, [(c0, P0), (c1, P1)], spD K sp_law, tabE, ?_, ?_, ?_, ?_, ?_⟩
  · intro p hp
    simp only [List.mem_cons, List.not_mem_nil, or_false] at hp
    rcases hp with rfl | rfl
    · exact nP0
    · exact nP1
  · intro p hp
    simp only [List.mem_cons, List.not_mem_nil, or_false] at hp
    rcases hp with rfl | rfl
    · exact PySem.W.codeHd_of_K X cd0
    · exact PySem.W.codeHd_of_K X cd1
  · intro s u
    obtain ⟨oc, od, kV, doc, pm, an, cdv, ct, osl, rfl, lk, hcd⟩ := F_law.ex
    exact .of_eq rfl
  · intro H a ns hl _ hT hS
    have nt : ∀ {b : Addr} {o : HO}, (match H b with | some (.tbl _) => none | o => o) = some o → H b = some o ∧ ∀ ps, o ≠ .tbl ps := fun {b o} e => by
      split at e
      · cases e
      · rename_i hne
        exact ⟨e, fun ps z => hne ps (by rw [e, z])⟩
    refine ⟨fun b => match H b with | some (.tbl _) => none | o => o, [.scr ns], fun d => d = .bl true, fun _ => False, fun b o e => (nt e).1, ⟨fun b ps e => (nt e).2 ps rfl, fun p hp => ?_⟩, .cons (.scr ?_) .nil, ⟨ns, rfl, by omega, rfl⟩, fun d hd v F' H' _ r => ?_, fun _ z => z.elim⟩
    · have hp : p ∈ [(P0, lamQ "_law_refused_right"), (P1, lamQ "law")] := hp
      simp only [List.mem_cons, List.not_mem_nil, or_false] at hp
      rcases hp with rfl | rfl
      · exact LamX.TabS.nil (hT (c0, P0) (by simp))
      · exact LamX.TabS.nil (hT (c1, P1) (by simp))
    · rcases hS with (e | ⟨o, e⟩) | e
      · exact .inl (.inl (by simp only [e]))
      · exact .inl (.inr ⟨o, by simp only [e]⟩)
      · exact .inr e
    · subst hd
      cases r
      rfl
  · intro base KB GB hTB
    have TB0 := hTB (c0, P0) (by simp)
    have hm0 : (P0, lamQ "_law_refused_right") ∈ Tn.ns := by
      show (P0, lamQ "_law_refused_right") ∈ [(P0, lamQ "_law_refused_right"), (P1, lamQ "law")]
      simp
    have hu0 : ∀ p ∈ Tn.ns, p.1 = P0 → p.2 = lamQ "_law_refused_right" := by
      intro p hp e
      have hp : p ∈ [(P0, lamQ "_law_refused_right"), (P1, lamQ "law")] := hp
      simp only [List.mem_cons, List.not_mem_nil, or_false] at hp
      rcases hp with rfl | rfl
      · rfl
      · exact absurd e.symm ne01
    have TB1 := hTB (c1, P1) (by simp)
    have hm1 : (P1, lamQ "law") ∈ Tn.ns := by
      show (P1, lamQ "law") ∈ [(P0, lamQ "_law_refused_right"), (P1, lamQ "law")]
      simp
    have hu1 : ∀ p ∈ Tn.ns, p.1 = P1 → p.2 = lamQ "law" := by
      intro p hp e
      have hp : p ∈ [(P0, lamQ "_law_refused_right"), (P1, lamQ "law")] := hp
      simp only [List.mem_cons, List.not_mem_nil, or_false] at hp
      rcases hp with rfl | rfl
      · exact absurd e ne01
      · rfl
    have D__law_drawn := ok__law_drawn (P := l.prog) (w := w) (base := base) B F__law_drawn g__law_drawn
    have D__law_net := ok__law_net (P := l.prog) (w := w) (base := base) B F__law_net g__law_net D__law_drawn
    have D__law_cell := ok__law_cell (P := l.prog) (w := w) (base := base) B F__law_cell g__law_cell
    have D0 := defD_none (P := l.prog) (w := w) (base := base) (CX := CX0) (k := 1) F__law_rows g__law_rows (F__law_rows.binds (ps := ["_law_net_here", "_law_first", "_law_goal", "_law_gone"]) fun _ _ _ _ _ _ us hl => match us, hl with | [_, _, _, _], _ => rfl)
    have R0 := ok__law_rows (P := l.prog) (w := w) (base := base) B F__law_rows g__law_rows (self := rowsP 0) D0 (len_rowsS 0) (pure_rows 0 (by decide))
    have R1 := ok__law_rows (P := l.prog) (w := w) (base := base) B F__law_rows g__law_rows (self := rowsP 1) R0 (len_rowsS 1) (pure_rows 1 (by decide))
    have R2 := ok__law_rows (P := l.prog) (w := w) (base := base) B F__law_rows g__law_rows (self := rowsP 2) R1 (len_rowsS 2) (pure_rows 2 (by decide))
    have R3 := ok__law_rows (P := l.prog) (w := w) (base := base) B F__law_rows g__law_rows (self := rowsP 3) R2 (len_rowsS 3) (pure_rows 3 (by decide))
    have R4 := ok__law_rows (P := l.prog) (w := w) (base := base) B F__law_rows g__law_rows (self := rowsP 4) R3 (len_rowsS 4) (pure_rows 4 (by decide))
    have R5 := ok__law_rows (P := l.prog) (w := w) (base := base) B F__law_rows g__law_rows (self := rowsP 5) R4 (len_rowsS 5) (pure_rows 5 (by decide))
    have D__law_rows := DefD.mono (k := 8) R5 (by decide)
    have D__law_made := ok__law_made (P := l.prog) (w := w) (base := base) B F__law_made g__law_made
    have D__law_plus := ok__law_plus (P := l.prog) (w := w) (base := base) B F__law_plus g__law_plus D__law_made
    have D__law_flow := ok__law_flow (P := l.prog) (w := w) (base := base) B F__law_flow g__law_flow D__law_rows D__law_drawn D__law_made D__law_plus
    have D_is_count := ok_is_count (P := l.prog) (w := w) (base := base) B F_is_count g_is_count
    have D_is_way := ok_is_way (P := l.prog) (w := w) (base := base) B F_is_way g_is_way D_is_count
    have D_is_net := ok_is_net (P := l.prog) (w := w) (base := base) B F_is_net g_is_net C_MOST C_MOST_PLACES C_MOST_WARES C_MOST_WAYS D_is_count D_is_way
    have D_need_net := ok_need_net (P := l.prog) (w := w) (base := base) B F_need_net g_need_net X_BadNet D_is_net
    have D_common := ok_common (P := l.prog) (w := w) (base := base) B F_common g_common
    have D_is_fraction := ok_is_fraction (P := l.prog) (w := w) (base := base) B F_is_fraction g_is_fraction D_common
    have D_are_shares := ok_are_shares (P := l.prog) (w := w) (base := base) B F_are_shares g_are_shares D_is_fraction
    have D_is_flow := ok_is_flow (P := l.prog) (w := w) (base := base) B F_is_flow g_is_flow D_are_shares
    have D_need_flow := ok_need_flow (P := l.prog) (w := w) (base := base) B F_need_flow g_need_flow X_BadFlow D_need_net D_is_flow
    have D_is_less := ok_is_less (P := l.prog) (w := w) (base := base) B F_is_less g_is_less
    have D_fraction := ok_fraction (P := l.prog) (w := w) (base := base) B F_fraction g_fraction D_common
    have D_plus := ok_plus (P := l.prog) (w := w) (base := base) B F_plus g_plus D_fraction
    have D_total := ok_total (P := l.prog) (w := w) (base := base) B F_total g_total C_NOUGHT D_plus
    have D_minus := ok_minus (P := l.prog) (w := w) (base := base) B F_minus g_minus D_fraction
    have D_left_at := ok_left_at (P := l.prog) (w := w) (base := base) B F_left_at g_left_at D_total D_minus
    have D_does_go := ok_does_go (P := l.prog) (w := w) (base := base) B F_does_go g_does_go D_left_at D_total D_is_less
    have D_goes := ok_goes (P := l.prog) (w := w) (base := base) B F_goes g_goes D_need_flow D_does_go
    have D_brought_by := ok_brought_by (P := l.prog) (w := w) (base := base) B F_brought_by g_brought_by D_left_at
    have D_brought := ok_brought (P := l.prog) (w := w) (base := base) B F_brought g_brought D_need_flow D_brought_by
    have D__law_refused_right : DefD l.prog w K mg base CX0 "_law_refused_right" 10 sp__law_refused_right := ⟨f0, _, ["_law_net_here", "_law_flow_here", "_law_more"], ok__law_refused_right (P := l.prog) (w := w) (base := base) B F__law_refused_right g__law_refused_right D_need_net D_goes D_brought TT TB0 hm0 hu0 hc0 hW, g__law_refused_right, F__law_refused_right.kp, F__law_refused_right.binds fun _ _ _ _ _ _ us hl => match us, hl with | [_, _, _], _ => rfl⟩
    have D__law_times := ok__law_times (P := l.prog) (w := w) (base := base) B F__law_times g__law_times D__law_made
    have D__law_net_at := ok__law_net_at (P := l.prog) (w := w) (base := base) B F__law_net_at g__law_net_at D__law_times D__law_plus
    have D__law_brought := ok__law_brought (P := l.prog) (w := w) (base := base) B F__law_brought g__law_brought D__law_net_at
    have D__law_under := ok__law_under (P := l.prog) (w := w) (base := base) B F__law_under g__law_under
    have D__law_all := ok__law_all (P := l.prog) (w := w) (base := base) B F__law_all g__law_all D__law_plus
    have D__law_goes := ok__law_goes (P := l.prog) (w := w) (base := base) B F__law_goes g__law_goes D__law_net_at D__law_all D__law_under
    exact ok_law (P := l.prog) (w := w) (base := base) B F_law g_law D__law_cell D__law_drawn D__law_net D_need_net D__law_flow D_goes D__law_goes D_brought D__law_brought D__law_refused_right TT TB1 hm1 hu1 hc1 hW
end Dy
open PySem PySem.W PyProof.Rows
set_option maxRecDepth 100000 in
set_option maxHeartbeats 0 in
theorem PySem.Challenge.cw_sharedways_k10_nets_and_flows_holds : PySem.Challenge.rw_sharedways_k10_nets_and_flows.Holds := by
  w_on; o_law; k_head; (case hw => w_witness2)
  k_fill
  refine Dy.walk_top (k := 11) (n := 63) (CX := fun _ => L2.CX0) (x := "_law_script") (by decide +kernel) (by decide) rfl ⟨rfl, by decide, by decide⟩ (fun w h Y => PySem.W.km_in_of Y) ?F (fun _ _ _ _ _ z => z)
  case F =>
    intro w mg fa h KX G hmg own
    refine' Dy.law_at (by decide) KX G hmg (fun fe e => own "_law_refused_right" fe (by decide +kernel) e) (fun fe e => own "law" fe (by decide +kernel) e) ?aW0 ?w1 ?w2 ?w3 ?zaN ?zaF ?zaL ?eN ?saN ?nf ?nl ?eF ?saF ?fn ?fl ?eL ?saL ?ln ?lf ?b_isinstance ?b_len ?b_abs ?b_all ?b_any ?b_sum ?b_int ?b_bool ?b_tuple ?b_list ?b_range ?b_enumerate ?b_zip ?b_max ?b_min ?b_ValueError ?c0_MOST ?c0_MOST_PLACES ?c0_MOST_WARES ?c0_MOST_WAYS ?c0_NOUGHT ?d_common ?d_fraction ?d_plus ?d_minus ?d_is_less ?d_total ?d_is_fraction ?d_are_shares ?d_is_count ?d_is_way ?d_is_net ?d_need_net ?d_is_flow ?d_need_flow ?d_left_at ?d_does_go ?d_goes ?d_brought_by ?d_brought ?d__law_cell ?d__law_drawn ?d__law_word ?d__law_told ?d__law_made ?d__law_plus ?d__law_times ?d__law_all ?d__law_under ?d__law_net ?d__law_net_at ?d__law_goes ?d__law_brought ?d__law_rows ?d__law_flow ?d__law_refused_right ?d_law ?ne01
    (case aW0 => k_is)
    (case w1 => k_is)
    (case w2 => k_is)
    (case w3 => k_is)
    (case zaN => k_is)
    (case zaF => k_is)
    (case zaL => k_is)
    (case eN => refine' ⟨?a, ?k, ?x, ?b, ?v, ?t, ?i, ?s, ⟨?hg, ?hk, ?hs, ?hd, ?ha, ?hn, ?ht, ?hm⟩⟩; (case a => k_is); (case k => k_is); (case x => k_exc); (case b => k_is); (case v => k_is); (case t => k_is); (case i => k_is); (case s => k_is); (case hg => k_is); (case hk => k_is); (case hs => k_is); (case hd => k_is); (case ha => k_is); (case hn => k_is); (case ht => k_is); (case hm => k_is))
    (case saN => k_is)
    (case nf => k_is)
    (case nl => k_is)
    (case eF => refine' ⟨?a, ?k, ?x, ?b, ?v, ?t, ?i, ?s, ⟨?hg, ?hk, ?hs, ?hd, ?ha, ?hn, ?ht, ?hm⟩⟩; (case a => k_is); (case k => k_is); (case x => k_exc); (case b => k_is); (case v => k_is); (case t => k_is); (case i => k_is); (case s => k_is); (case hg => k_is); (case hk => k_is); (case hs => k_is); (case hd => k_is); (case ha => k_is); (case hn => k_is); (case ht => k_is); (case hm => k_is))
    (case saF => k_is)
    (case fn => k_is)
    (case fl => k_is)
    (case eL => refine' ⟨?a, ?k, ?x, ?b, ?v, ?t, ?i, ?s, ⟨?hg, ?hk, ?hs, ?hd, ?ha, ?hn, ?ht, ?hm⟩⟩; (case a => k_is); (case k => k_is); (case x => k_exc); (case b => k_is); (case v => k_is); (case t => k_is); (case i => k_is); (case s => k_is); (case hg => k_is); (case hk => k_is); (case hs => k_is); (case hd => k_is); (case ha => k_is); (case hn => k_is); (case ht => k_is); (case hm => k_is))
    (case saL => k_is)
    (case ln => k_is)
    (case lf => k_is)
    (case b_isinstance => k_is)
    (case b_len => k_is)
    (case b_abs => k_is)
    (case b_all => k_is)
    (case b_any => k_is)
    (case b_sum => k_is)
    (case b_int => k_is)
    (case b_bool => k_is)
    (case b_tuple => k_is)
    (case b_list => k_is)
    (case b_range => k_is)
    (case b_enumerate => k_is)
    (case b_zip => k_is)
    (case b_max => k_is)
    (case b_min => k_is)
    (case b_ValueError => k_is)
    (case c0_MOST => (intro h mg X G; refine' Dy.gc_int X G ?a; (case a => k_is)))
    (case c0_MOST_PLACES => (intro h mg X G; refine' Dy.gc_int X G ?a; (case a => k_is)))
    (case c0_MOST_WARES => (intro h mg X G; refine' Dy.gc_int X G ?a; (case a => k_is)))
    (case c0_MOST_WAYS => (intro h mg X G; refine' Dy.gc_int X G ?a; (case a => k_is)))
    (case c0_NOUGHT => (intro h mg X G; refine' Dy.gc_pair X G ?a ?l; (case a => k_is); (case l => k_is)))
    (case d_common => refine' Dy.defK ?a ?l ?c ?k; (case a => k_is); (case l => k_is); (case c => k_is); (case k => k_is))
    (case d_fraction => refine' Dy.defK ?a ?l ?c ?k; (case a => k_is); (case l => k_is); (case c => k_is); (case k => k_is))
    (case d_plus => refine' Dy.defK ?a ?l ?c ?k; (case a => k_is); (case l => k_is); (case c => k_is); (case k => k_is))
    (case d_minus => refine' Dy.defK ?a ?l ?c ?k; (case a => k_is); (case l => k_is); (case c => k_is); (case k => k_is))
    (case d_is_less => refine' Dy.defK ?a ?l ?c ?k; (case a => k_is); (case l => k_is); (case c => k_is); (case k => k_is))
    (case d_total => refine' Dy.defK ?a ?l ?c ?k; (case a => k_is); (case l => k_is); (case c => k_is); (case k => k_is))
    (case d_is_fraction => refine' Dy.defK ?a ?l ?c ?k; (case a => k_is); (case l => k_is); (case c => k_is); (case k => k_is))
    (case d_are_shares => refine' Dy.defK ?a ?l ?c ?k; (case a => k_is); (case l => k_is); (case c => k_is); (case k => k_is))
    (case d_is_count => refine' Dy.defK ?a ?l ?c ?k; (case a => k_is); (case l => k_is); (case c => k_is); (case k => k_is))
    (case d_is_way => refine' Dy.defK ?a ?l ?c ?k; (case a => k_is); (case l => k_is); (case c => k_is); (case k => k_is))
    (case d_is_net => refine' Dy.defK ?a ?l ?c ?k; (case a => k_is); (case l => k_is); (case c => k_is); (case k => k_is))
    (case d_need_net => refine' Dy.defK ?a ?l ?c ?k; (case a => k_is); (case l => k_is); (case c => k_is); (case k => k_is))
    (case d_is_flow => refine' Dy.defK ?a ?l ?c ?k; (case a => k_is); (case l => k_is); (case c => k_is); (case k => k_is))
    (case d_need_flow => refine' Dy.defK ?a ?l ?c ?k; (case a => k_is); (case l => k_is); (case c => k_is); (case k => k_is))
    (case d_left_at => refine' Dy.defK ?a ?l ?c ?k; (case a => k_is); (case l => k_is); (case c => k_is); (case k => k_is))
    (case d_does_go => refine' Dy.defK ?a ?l ?c ?k; (case a => k_is); (case l => k_is); (case c => k_is); (case k => k_is))
    (case d_goes => refine' Dy.defK ?a ?l ?c ?k; (case a => k_is); (case l => k_is); (case c => k_is); (case k => k_is))
    (case d_brought_by => refine' Dy.defK ?a ?l ?c ?k; (case a => k_is); (case l => k_is); (case c => k_is); (case k => k_is))
    (case d_brought => refine' Dy.defK ?a ?l ?c ?k; (case a => k_is); (case l => k_is); (case c => k_is); (case k => k_is))
    (case d__law_cell => refine' Dy.defK ?a ?l ?c ?k; (case a => k_is); (case l => k_is); (case c => k_is); (case k => k_is))
    (case d__law_drawn => refine' Dy.defK ?a ?l ?c ?k; (case a => k_is); (case l => k_is); (case c => k_is); (case k => k_is))
    (case d__law_word => refine' Dy.defK ?a ?l ?c ?k; (case a => k_is); (case l => k_is); (case c => k_is); (case k => k_is))
    (case d__law_told => refine' Dy.defK ?a ?l ?c ?k; (case a => k_is); (case l => k_is); (case c => k_is); (case k => k_is))
    (case d__law_made => refine' Dy.defK ?a ?l ?c ?k; (case a => k_is); (case l => k_is); (case c => k_is); (case k => k_is))
    (case d__law_plus => refine' Dy.defK ?a ?l ?c ?k; (case a => k_is); (case l => k_is); (case c => k_is); (case k => k_is))
    (case d__law_times => refine' Dy.defK ?a ?l ?c ?k; (case a => k_is); (case l => k_is); (case c => k_is); (case k => k_is))
    (case d__law_all => refine' Dy.defK ?a ?l ?c ?k; (case a => k_is); (case l => k_is); (case c => k_is); (case k => k_is))
    (case d__law_under => refine' Dy.defK ?a ?l ?c ?k; (case a => k_is); (case l => k_is); (case c => k_is); (case k => k_is))
    (case d__law_net => refine' Dy.defK ?a ?l ?c ?k; (case a => k_is); (case l => k_is); (case c => k_is); (case k => k_is))
    (case d__law_net_at => refine' Dy.defK ?a ?l ?c ?k; (case a => k_is); (case l => k_is); (case c => k_is); (case k => k_is))
    (case d__law_goes => refine' Dy.defK ?a ?l ?c ?k; (case a => k_is); (case l => k_is); (case c => k_is); (case k => k_is))
    (case d__law_brought => refine' Dy.defK ?a ?l ?c ?k; (case a => k_is); (case l => k_is); (case c => k_is); (case k => k_is))
    (case d__law_rows => refine' Dy.defK ?a ?l ?c ?k; (case a => k_is); (case l => k_is); (case c => k_is); (case k => k_is))
    (case d__law_flow => refine' Dy.defK ?a ?l ?c ?k; (case a => k_is); (case l => k_is); (case c => k_is); (case k => k_is))
    (case d__law_refused_right => refine' Dy.defT ?a ?l ?cc ?k ?lc ?hPt ?hCd ?nPt; (case a => k_is); (case l => k_is); (case cc => k_is); (case k => k_is); (case lc => k_is); (case hPt => exact rfl); (case hCd => kernel_rfl); (case nPt => kernel_rfl))
    (case d_law => refine' Dy.defT ?a ?l ?cc ?k ?lc ?hPt ?hCd ?nPt; (case a => k_is); (case l => k_is); (case cc => k_is); (case k => k_is); (case lc => k_is); (case hPt => exact rfl); (case hCd => kernel_rfl); (case nPt => kernel_rfl))
    (case ne01 => decide)

