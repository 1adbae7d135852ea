import PyProof.Rows.All
import PySem.Challenge.RW_sharedways_k40_whole_two_on_lines
import Wide.All
import OpenK.AllK
import Wide.FinOn
import HandS.ForMost
import HandS.Exc
import HandS.ExcOwn
import HandS.WordsExc
import HandS.Deep
import HandS.IsInst
import HandS.Wide
import HandS.Lambda
import HandS.EndTab
import HandS.Zip
import HandS.Conv
import HandS.SortInts
import HandS.Iter
import HandS.TupLe
import PyProof.FactsAll.list_3
import KE.KDictZip
import KE.KItemsList
import HandS.ListItems
import KE.GoesMore
import KE.GoesEnum
import HandS.HotCalls
import HandS.ExcCtx
import HandS.ExcIs
import KE.GoesComp
import PyProof.SumWalk
import HandS.EndOwn
set_option Elab.async false
set_option linter.all false
set_option maxRecDepth 100000
set_option maxHeartbeats 8000000
set_option autoImplicit false
/-! # The data layer: data, what stands for it in a heap, and the frame. -/
namespace Dy
open PySem PySem.Spec PyProof.Rows L2
abbrev St := L2.St

/-- data -/
inductive D where
  | non | bl (b : Bool) | int (i : Int) | str (x : Str)
  | tup (l : List D) | lst (l : List D)
  | scr (ns : List Int)
  | dic (ks : List Key) (l : List D)
  | dct (kvs : List (List Key × Int))
  | tpl (l : List D)
  | ins (C : Addr) (ns : List Str) (l : List D)

mutual
inductive Rep (K : PySem.W.Frag) (F : Hp) : D → V → Prop
  | non : Rep K F .non .non
  | bl (b : Bool) : Rep K F (.bl b) (.bl b)
  | int (i : Int) : Rep K F (.int i) (.int i)
  | str (x : Str) : Rep K F (.str x) (.str x)
  | tup {a : Addr} {xs : List V} {l : List D} (h : SqT K F a xs) (r : RepL K F l xs) : Rep K F (.tup l) (.ref a)
  | lst {a : Addr} {xs : List V} {l : List D} (h : F a = some (.lst xs)) (r : RepL K F l xs) : Rep K F (.lst l) (.ref a)
  | scr {a : Addr} {ns : List Int} (h : SqL K F a (ns.map V.int)) : Rep K F (.scr ns) (.ref a)
  | dic {a : Addr} {kvs : List (Key × V)} {ks : List Key} {l : List D} (h : F a = some (.dK kvs)) (e : kvs.map (·.1) = ks) (r : RepL K F l (kvs.map (·.2))) : Rep K F (.dic ks l) (.ref a)
  | dct {a : Addr} {kvs : List (List Key × Int)} (h : F a = some (.dT (kvs.map fun x => (x.1, V.int x.2)))) : Rep K F (.dct kvs) (.ref a)
  | tpl {a : Addr} {xs : List V} {l : List D} (h : F a = some (.tup xs)) (r : RepL K F l xs) : Rep K F (.tpl l) (.ref a)
  | ins {a C dx : Addr} {fs : List (Str × V)} {ns : List Str} {l : List D} (h : F a = some (.ins C dx fs)) (e : fs.map (·.1) = ns) (r : RepL K F l (fs.map (·.2))) : Rep K F (.ins C ns l) (.ref a)
inductive RepL (K : PySem.W.Frag) (F : Hp) : List D → List V → Prop
  | nil : RepL K F [] []
  | cons {d : D} {v : V} {l : List D} {xs : List V} (h : Rep K F d v) (r : RepL K F l xs) : RepL K F (d :: l) (v :: xs)
end

theorem Same.rd {F F' : Hp} {a : Addr} {u : HO} (e : Same F F') (h : Rd F a u) : Rd F' a u := by
  rcases h with h | ⟨o, h⟩
  · exact .inl (e _ _ h)
  · exact .inr ⟨o, e _ _ h⟩
theorem Same.sqT {K : PySem.W.Frag} {F F' : Hp} {a : Addr} {xs : List V} (e : Same F F') (h : SqT K F a xs) : SqT K F' a xs := by
  rcases h with h | h
  · exact .inl (Same.rd e h)
  · exact .inr h
section
variable {K : PySem.W.Frag} {F F' H H' : Hp}
mutual
theorem Rep.mono (e : Same F F') : ∀ {d : D} {v : V}, Rep K F d v → Rep K F' d v
  | _, _, .non => .non
  | _, _, .bl b => .bl b
  | _, _, .int i => .int i
  | _, _, .str x => .str x
  | _, _, .tup h r => .tup (Same.sqT e h) (r.mono e)
  | _, _, .lst h r => .lst (e _ _ h) (r.mono e)
  | _, _, .scr h => .scr (e.seq h)
  | _, _, .dic h q r => .dic (e _ _ h) q (r.mono e)
  | _, _, .dct h => .dct (e _ _ h)
  | _, _, .tpl h r => .tpl (e _ _ h) (r.mono e)
  | _, _, .ins h q r => .ins (e _ _ h) q (r.mono e)
theorem RepL.mono (e : Same F F') : ∀ {l : List D} {xs : List V}, RepL K F l xs → RepL K F' l xs
  | _, _, .nil => .nil
  | _, _, .cons h r => .cons (h.mono e) (r.mono e)
end
theorem RepL.length : ∀ {l : List D} {xs : List V}, RepL K F l xs → l.length = xs.length
  | _, _, .nil => rfl
  | _, _, .cons _ r => by simp [r.length]
theorem RepL.get : ∀ {l : List D} {xs : List V} {i : Nat} {d : D}, RepL K F l xs → l[i]? = some d → ∃ v, xs[i]? = some v ∧ Rep K F d v
  | _, _, _, _, .nil, e => by simp at e
  | _, _, 0, _, .cons h _, e => by simp at e; subst e; exact ⟨_, rfl, h⟩
  | _, _, i + 1, d, .cons _ r, e => by
    obtain ⟨u, h1, h2⟩ := RepL.get (i := i) (d := d) r (by simpa using e)
    exact ⟨u, by simpa using h1, h2⟩
theorem RepL.getV : ∀ {l : List D} {xs : List V} {i : Nat} {v : V}, RepL K F l xs → xs[i]? = some v → ∃ d, l[i]? = some d ∧ Rep K F d v
  | _, _, _, _, .nil, e => by simp at e
  | _, _, 0, _, .cons h _, e => by simp at e; subst e; exact ⟨_, rfl, h⟩
  | _, _, i + 1, d, .cons _ r, e => by
    obtain ⟨u, h1, h2⟩ := RepL.getV (i := i) (v := d) r (by simpa using e)
    exact ⟨u, by simpa using h1, h2⟩
theorem RepL.append : ∀ {l l' : List D} {xs ys : List V}, RepL K F l xs → RepL K F l' ys → RepL K F (l ++ l') (xs ++ ys)
  | _, _, _, _, .nil, s => s
  | _, _, _, _, .cons h r, s => .cons h (r.append s)
theorem RepL.one {d : D} {v : V} (h : Rep K F d v) : RepL K F [d] [v] := .cons h .nil
theorem RepL.take : ∀ {l : List D} {xs : List V} (n : Nat), RepL K F l xs → RepL K F (l.take n) (xs.take n)
  | _, _, 0, _ => by simpa using RepL.nil
  | _, _, _ + 1, .nil => by simpa using RepL.nil
  | _, _, n + 1, .cons h r => by simpa using RepL.cons h (r.take n)
theorem RepL.drop : ∀ {l : List D} {xs : List V} (n : Nat), RepL K F l xs → RepL K F (l.drop n) (xs.drop n)
  | _, _, 0, r => by simpa using r
  | _, _, _ + 1, .nil => by simpa using RepL.nil
  | _, _, n + 1, .cons _ r => by simpa using r.drop n
theorem RepL.set {d : D} {v : V} (h : Rep K F d v) : ∀ {l : List D} {xs : List V} (i : Nat), RepL K F l xs → RepL K F (l.set i d) (xs.set i v)
  | _, _, _, .nil => by simpa using RepL.nil
  | _, _, 0, .cons _ r => by simpa using RepL.cons h r
  | _, _, i + 1, .cons q r => by simpa using RepL.cons q (RepL.set h i r)
theorem RepL.rep {d : D} {v : V} (h : Rep K F d v) : ∀ n : Nat, RepL K F (List.replicate n d) (List.replicate n v)
  | 0 => .nil
  | n + 1 => by simpa [List.replicate_succ] using RepL.cons h (RepL.rep h n)
theorem RepL.flat {l : List D} {xs : List V} (h : RepL K F l xs) : ∀ n : Nat, RepL K F (List.replicate n l).flatten (List.replicate n xs).flatten
  | 0 => .nil
  | n + 1 => by simpa [List.replicate_succ] using h.append (RepL.flat h n)
theorem RepL.dropLast {l : List D} {xs : List V} (h : RepL K F l xs) : RepL K F l.dropLast xs.dropLast := by
  rw [List.dropLast_eq_take, List.dropLast_eq_take, h.length]
  exact h.take _
theorem RepL.eraseIdx : ∀ {l : List D} {xs : List V} (n : Nat), RepL K F l xs → RepL K F (l.eraseIdx n) (xs.eraseIdx n)
  | _, _, _, .nil => by simpa using RepL.nil
  | _, _, 0, .cons _ r => by simpa using r
  | _, _, n + 1, .cons h r => by simpa using RepL.cons h (r.eraseIdx n)
/-- ints, bools as values -/
theorem RepL.ints : ∀ {ns : List Int} {xs : List V}, RepL K F (ns.map D.int) xs → xs = ns.map V.int
  | [], _, h => by cases h; rfl
  | n :: ns, _, h => by
    cases h with
    | cons h r => cases h; rw [RepL.ints (ns := ns) r]; rfl
theorem RepL.bls : ∀ {ns : List Bool} {xs : List V}, RepL K F (ns.map D.bl) xs → xs = ns.map V.bl
  | [], _, h => by cases h; rfl
  | n :: ns, _, h => by
    cases h with
    | cons h r => cases h; rw [RepL.bls (ns := ns) r]; rfl
theorem repL_ints : ∀ (ns : List Int), RepL K F (ns.map D.int) (ns.map V.int)
  | [] => .nil
  | n :: ns => .cons (.int n) (repL_ints ns)

/-! ### the frame -/
def SameT (B H : Hp) : Prop := ∀ b o, B b = some o → H b = some o ∨ ((∃ ps, o = .tbl ps) ∧ ∃ ps, H b = some (.tbl ps))
/-- which table of code objects holds lambdas of which name -/
class Tn where
  ns : List (Addr × Str)
variable [Tn]
def AllT (H : Hp) : Prop := LamX.Tabs Tn.ns H
def NT (F H : Hp) : Prop := (∀ p ps, F p ≠ some (.tbl ps)) ∧ AllT H
/-- objects of a kind that a def may make and change as its own -/
def Ordi : HO → Prop
  | .lst _ => True
  | .tup _ => True
  | .dK _ => True
  | .dT _ => True
  | .ins _ _ _ => True
  | .own _ => True
  | .frz _ _ => True
  | _ => False
structure Ext (F0 B F H : Hp) : Prop where
  ff : Same F0 F
  fh : Same F H
  bh : SameT B H
  fr : ∀ p o, F0 p = none → B p = some o → (∀ xs, o ≠ .tup xs) → F p = none
  nt : NT F H
theorem Ext.refl (s : Same F H) (n : NT F H) : Ext F H F H := ⟨Same.refl F, s, fun _ _ h => .inl h, fun _ _ h _ _ => h, n⟩
theorem SameT.trans {B C D' : Hp} (a : SameT B C) (b : SameT C D') : SameT B D' := fun p o h => by
  rcases a p o h with h | ⟨h1, ps, h2⟩
  · exact b p o h
  · rcases b p _ h2 with h3 | ⟨_, ps', h3⟩
    · exact .inr ⟨h1, ps, h3⟩
    · exact .inr ⟨h1, ps', h3⟩
theorem SameT.some {B H : Hp} (a : SameT B H) {p : Addr} {o : HO} (h : B p = some o) : ∃ o', H p = Option.some o' := by
  rcases a p o h with h | ⟨_, ps, h⟩
  · exact ⟨_, h⟩
  · exact ⟨_, h⟩
theorem SameT.none {B H : Hp} (a : SameT B H) {p : Addr} (h : H p = Option.none) : B p = Option.none := by
  cases q : B p with
  | none => rfl
  | some o =>
    obtain ⟨o', e⟩ := a.some q
    rw [h] at e; cases e
theorem SameT.ordi {B H : Hp} (a : SameT B H) {p : Addr} {o : HO} (h : B p = Option.some o) (n : ∀ ps, o ≠ .tbl ps) : H p = Option.some o := by
  rcases a p o h with h | ⟨⟨ps, h1⟩, _⟩
  · exact h
  · exact absurd h1 (n ps)
theorem Same.t {B H : Hp} (a : Same B H) : SameT B H := fun p o h => .inl (a p o h)
theorem Ext.trans {F0 B F H F' H' : Hp} (a : Ext F0 B F H) (b : Ext F H F' H') : Ext F0 B F' H' where
  ff := a.ff.trans b.ff
  fh := b.fh
  bh := a.bh.trans b.bh
  fr := fun p o h0 hB ht => by
    rcases a.bh p o hB with e | ⟨⟨ps, e1⟩, qs, e⟩
    · exact b.fr p o (a.fr p o h0 hB ht) e ht
    · exact b.fr p _ (a.fr p o h0 hB ht) e fun xs z => nomatch z
  nt := b.nt
theorem Ordi.ntbl {o : HO} (h : Ordi o) : ∀ ps, o ≠ .tbl ps := fun ps e => by subst e; exact h
theorem AllT.upd {p : Addr} {o : HO} (a : AllT H) (ho : Ordi o) (hp : ∀ u, H p = some u → Ordi u) : AllT (upd H p o) := by
  have ntab : ∀ {b ps}, H b = some (.tbl ps) → b ≠ p := fun {b ps} e z => by
    subst z
    exact (hp _ e).ntbl ps rfl
  intro q hq
  obtain ⟨ps, h1, h2, h3⟩ := a q hq
  refine ⟨ps, by rw [upd_ne (ntab h1)]; exact h1, h2, fun pos cv hc => ?_⟩
  obtain ⟨c, e1, e2⟩ := h3 pos cv hc
  refine ⟨c, e1, ?_⟩
  rw [upd_ne ?_]
  · exact e2
  · intro z
    subst z
    exact (hp _ e2)
theorem Ext.alloc {F0 B F H : Hp} (a : Ext F0 B F H) {p : Addr} {o : HO} (hp : H p = none) (ho : Ordi o) : Ext F0 B (upd F p o) (upd H p o) where
  ff := fun b u e => by rw [upd_ne (ne_of_none (a.fh b u (a.ff b u e)) hp)]; exact a.ff b u e
  fh := fun b u e => by
    by_cases hb : b = p
    · subst hb; rw [upd_same] at e ⊢; exact e
    · rw [upd_ne hb] at e ⊢; exact a.fh b u e
  bh := fun b u e => by
    obtain ⟨o', e'⟩ := a.bh.some e
    rw [upd_ne (ne_of_none e' hp)]
    exact a.bh b u e
  fr := fun q u h0 hB ht => by
    obtain ⟨o', e'⟩ := a.bh.some hB
    rw [upd_ne (ne_of_none e' hp)]
    exact a.fr q u h0 hB ht
  nt := ⟨fun q ps e => by
    by_cases hb : q = p
    · subst hb; rw [upd_same] at e; cases e; exact ho.elim
    · rw [upd_ne hb] at e; exact a.nt.1 q ps e, a.nt.2.upd ho fun u e => by rw [hp] at e; cases e⟩
/-- a new object that is not frozen -/
theorem Ext.allocH {F0 B F H : Hp} (a : Ext F0 B F H) {p : Addr} {o : HO} (hp : H p = none) (ho : Ordi o) : Ext F0 B F (upd H p o) where
  ff := a.ff
  fh := fun b u e => by rw [upd_ne (ne_of_none (a.fh b u e) hp)]; exact a.fh b u e
  bh := fun b u e => by
    obtain ⟨o', e'⟩ := a.bh.some e
    rw [upd_ne (ne_of_none e' hp)]
    exact a.bh b u e
  fr := a.fr
  nt := ⟨a.nt.1, a.nt.2.upd ho fun u e => by rw [hp] at e; cases e⟩
/-- an object of one's own is changed -/
theorem Ext.own {F0 B F H : Hp} (a : Ext F0 B F H) {p : Addr} {u o : HO} (hp : H p = some u) (hu : Ordi u) (ho : Ordi o) (hF : F p = none) (hB : B p = none) : Ext F0 B F (upd H p o) where
  ff := a.ff
  fh := fun b u e => by rw [upd_ne (ne_of_none e hF)]; exact a.fh b u e
  bh := fun b u e => by rw [upd_ne (ne_of_none e hB)]; exact a.bh b u e
  fr := a.fr
  nt := ⟨a.nt.1, a.nt.2.upd ho fun u' e => by rw [hp] at e; cases e; exact hu⟩
/-- an object of one's own is frozen -/
theorem Ext.freeze {F0 B F H : Hp} (a : Ext F0 B F H) {p : Addr} {u : HO} (hp : H p = some u) (hu : Ordi u) (hF : F p = none) (hB : B p = none) : Ext F0 B (upd F p u) H where
  ff := fun b w e => by
    have := a.ff b w e
    rw [upd_ne (ne_of_none this hF)]; exact this
  fh := fun b w e => by
    by_cases hb : b = p
    · subst hb; rw [upd_same] at e; cases e; exact hp
    · rw [upd_ne hb] at e; exact a.fh b w e
  bh := a.bh
  fr := fun q w h0 h ht => by
    rw [upd_ne (ne_of_none h hB)]
    exact a.fr q w h0 h ht
  nt := ⟨fun q ps e => by
    by_cases hb : q = p
    · subst hb; rw [upd_same] at e; cases e; exact hu.elim
    · rw [upd_ne hb] at e; exact a.nt.1 q ps e, a.nt.2⟩
theorem same_alloc {F H : Hp} (s : Same F H) {p : Addr} {o : HO} (hp : H p = none) : Same F (upd F p o) := fun b u e => by
  rw [upd_ne (ne_of_none (s b u e) hp)]; exact e

/-- a tuple that stands already is frozen -/
theorem Ext.tuple {F0 B F H : Hp} (a : Ext F0 B F H) {p : Addr} {xs : List V} (hp : H p = some (.tup xs)) : Ext F0 B (upd F p (.tup xs)) H where
  ff := fun b w e => by
    by_cases hb : b = p
    · subst hb
      have := a.fh b w (a.ff b w e)
      rw [hp] at this
      rw [upd_same]; exact this
    · rw [upd_ne hb]; exact a.ff b w e
  fh := fun b w e => by
    by_cases hb : b = p
    · subst hb; rw [upd_same] at e; cases e; exact hp
    · rw [upd_ne hb] at e; exact a.fh b w e
  bh := a.bh
  fr := fun q w h0 h ht => by
    by_cases hb : q = p
    · subst hb
      rcases a.bh q w h with e | ⟨⟨ps, e1⟩, qs, e⟩
      · rw [hp] at e; cases e; exact absurd rfl (ht xs)
      · rw [hp] at e; cases e
    · rw [upd_ne hb]; exact a.fr q w h0 h ht
  nt := ⟨fun q ps e => by
    by_cases hb : q = p
    · subst hb; rw [upd_same] at e; cases e
    · rw [upd_ne hb] at e; exact a.nt.1 q ps e, a.nt.2⟩
/-! ### slots -/
/-- kinds of objects of one's own -/
def Mu : HO → Prop
  | .lst _ => True
  | .dK _ => True
  | .dT _ => True
  | .ins _ _ _ => True
  | .own _ => True
  | .frz _ _ => True
  | _ => False
theorem Mu.ntbl {o : HO} (h : Mu o) : ∀ ps, o ≠ .tbl ps := fun ps e => by subst e; exact h
theorem Mu.ntup {o : HO} (h : Mu o) : ∀ xs, o ≠ .tup xs := fun xs e => by subst e; exact h
/-- a field of an instance of one's own: frozen data; a list, a dict with tuples for keys, a list of lists of one's own -/
inductive FV where
  | d (x : D)
  | lst (l : List D)
  | dct (kvs : List (List Key × Int))
  | dcl (p : Addr) (od : Obj) (kvs : List (List Key × Int))
  | rows (ls : List (List D))
/-- an object of one's own, as data -/
inductive OB where
  | lst (l : List D)
  | dic (ks : List Key) (l : List D)
  | inst (C : Addr) (o : Option Addr) (fs : List (Str × FV))
  | rows (ls : List (List D))
def ListAt (K : PySem.W.Frag) (F H : Hp) (l : List D) (p : Addr) : Prop := ∃ xs, H p = some (.lst xs) ∧ RepL K F l xs
def FRep (K : PySem.W.Frag) (F H : Hp) : FV → V → List Addr → Prop
  | .d x, v, fp => fp = [] ∧ Rep K F x v
  | .lst l, v, fp => ∃ p, v = .ref p ∧ fp = [p] ∧ ListAt K F H l p
  | .dct kvs, v, fp => ∃ p, v = .ref p ∧ fp = [p] ∧ H p = some (.dT (kvs.map fun x => (x.1, V.int x.2)))
  | .dcl p od kvs, v, fp => v = .ref p ∧ fp = [p] ∧ H p = some (.frz od (.dT (kvs.map fun x => (x.1, V.int x.2))))
  | .rows ls, v, fp => ∃ p ps, v = .ref p ∧ fp = p :: ps ∧ H p = some (.lst (ps.map V.ref)) ∧ Paired (ListAt K F H) ls ps
inductive FsRep (K : PySem.W.Frag) (F H : Hp) : List (Str × FV) → List (Str × V) → List Addr → Prop
  | nil : FsRep K F H [] [] []
  | cons {x : Str} {fv : FV} {v : V} {fp fps : List Addr} {fs : List (Str × FV)} {vs : List (Str × V)} (h : FRep K F H fv v fp) (r : FsRep K F H fs vs fps) : FsRep K F H ((x, fv) :: fs) ((x, v) :: vs) (fp ++ fps)
def ORep (K : PySem.W.Frag) (F H : Hp) : OB → Addr → List Addr → Prop
  | .lst l, a, fp => fp = [a] ∧ ∃ xs, H a = some (.lst xs) ∧ RepL K F l xs
  | .dic ks l, a, fp => fp = [a] ∧ ∃ kvs, H a = some (.dK kvs) ∧ kvs.map (·.1) = ks ∧ RepL K F l (kvs.map (·.2))
  | .inst C o fs, a, fp => ∃ dx vs fps, fp = a :: dx :: fps ∧ fp.Nodup ∧ H a = some (.ins C dx vs) ∧ H dx = some (.own a) ∧ FsRep K F H fs vs fps ∧ ∀ x, o = some x → a = x
  | .rows ls, a, fp => ∃ ps, fp = a :: ps ∧ fp.Nodup ∧ H a = some (.lst (ps.map V.ref)) ∧ Paired (ListAt K F H) ls ps
theorem paired_mem {α β : Type} {R : α → β → Prop} : ∀ {l : List α} {l' : List β}, Paired R l l' → ∀ b ∈ l', ∃ a ∈ l, R a b
  | _, _, .nil, b, hb => by cases hb
  | _, _, .cons (a := a) h t, b, hb => by
    rcases List.mem_cons.mp hb with rfl | hb
    · exact ⟨a, by simp, h⟩
    · obtain ⟨a', ha, r⟩ := paired_mem t b hb
      exact ⟨a', by simp [ha], r⟩
theorem paired_imp {α β : Type} {R S : α → β → Prop} : ∀ {l : List α} {l' : List β}, Paired R l l' → (∀ a b, b ∈ l' → R a b → S a b) → Paired S l l'
  | _, _, .nil, _ => .nil
  | _, _, .cons h t, f => .cons (f _ _ (by simp) h) (paired_imp t fun a b hb => f a b (by simp [hb]))
theorem FRep.mu {fv : FV} {v : V} {fp : List Addr} (h : FRep K F H fv v fp) : ∀ b ∈ fp, ∃ ho, H b = some ho ∧ Mu ho := by
  intro b hb
  cases fv with
  | d x => rw [h.1] at hb; cases hb
  | lst l =>
    obtain ⟨p, _, rfl, xs, h1, _⟩ := h
    rw [List.mem_singleton.mp hb]
    exact ⟨_, h1, trivial⟩
  | dct kvs =>
    obtain ⟨p, _, rfl, h1⟩ := h
    rw [List.mem_singleton.mp hb]
    exact ⟨_, h1, trivial⟩
  | dcl p od kvs =>
    obtain ⟨_, rfl, h1⟩ := h
    rw [List.mem_singleton.mp hb]
    exact ⟨_, h1, trivial⟩
  | rows ls =>
    obtain ⟨p, ps, _, rfl, h1, r⟩ := h
    rcases List.mem_cons.mp hb with rfl | hb
    · exact ⟨_, h1, trivial⟩
    · obtain ⟨l, _, xs, e, _⟩ := paired_mem r b hb
      exact ⟨_, e, trivial⟩
theorem FRep.mono {fv : FV} {v : V} {fp : List Addr} (e : Same F F') (k : ∀ b ∈ fp, H' b = H b) (h : FRep K F H fv v fp) : FRep K F' H' fv v fp := by
  cases fv with
  | d x => exact ⟨h.1, h.2.mono e⟩
  | lst l =>
    obtain ⟨p, hv, rfl, xs, h1, h2⟩ := h
    exact ⟨p, hv, rfl, xs, by rw [k p (by simp)]; exact h1, h2.mono e⟩
  | dct kvs =>
    obtain ⟨p, hv, rfl, h1⟩ := h
    exact ⟨p, hv, rfl, by rw [k p (by simp)]; exact h1⟩
  | dcl p od kvs =>
    obtain ⟨hv, rfl, h1⟩ := h
    exact ⟨hv, rfl, by rw [k p (by simp)]; exact h1⟩
  | rows ls =>
    obtain ⟨p, ps, hv, rfl, h1, r⟩ := h
    exact ⟨p, ps, hv, rfl, by rw [k p (by simp)]; exact h1, paired_imp r fun l q hq ⟨xs, h2, h3⟩ => ⟨xs, by rw [k q (by simp [hq])]; exact h2, h3.mono e⟩⟩
theorem FsRep.mu {fs : List (Str × FV)} {vs : List (Str × V)} {fp : List Addr} (h : FsRep K F H fs vs fp) : ∀ b ∈ fp, ∃ ho, H b = some ho ∧ Mu ho := by
  induction h with
  | nil => intro b hb; cases hb
  | cons h _ ih =>
    intro b hb
    rcases List.mem_append.mp hb with z | z
    · exact h.mu b z
    · exact ih b z
theorem FsRep.mono {fs : List (Str × FV)} {vs : List (Str × V)} {fp : List Addr} (e : Same F F') (h : FsRep K F H fs vs fp) : (∀ b ∈ fp, H' b = H b) → FsRep K F' H' fs vs fp := by
  induction h with
  | nil => exact fun _ => .nil
  | cons h _ ih => exact fun k => .cons (h.mono e fun b hb => k b (List.mem_append_left _ hb)) (ih fun b hb => k b (List.mem_append_right _ hb))
theorem ORep.mu {o : OB} {a : Addr} {fp : List Addr} (h : ORep K F H o a fp) : ∀ b ∈ fp, ∃ ho, H b = some ho ∧ Mu ho := by
  cases o with
  | lst l =>
    obtain ⟨rfl, xs, h1, _⟩ := h
    intro b hb
    rw [List.mem_singleton.mp hb]
    exact ⟨_, h1, trivial⟩
  | dic ks l =>
    obtain ⟨rfl, xs, h1, _⟩ := h
    intro b hb
    rw [List.mem_singleton.mp hb]
    exact ⟨_, h1, trivial⟩
  | rows ls =>
    obtain ⟨ps, rfl, _, h1, r⟩ := h
    intro b hb
    rcases List.mem_cons.mp hb with rfl | hb
    · exact ⟨_, h1, trivial⟩
    · obtain ⟨l, _, xs, e, _⟩ := paired_mem r b hb
      exact ⟨_, e, trivial⟩
  | inst C o fs =>
    obtain ⟨dx, vs, fps, rfl, _, h1, h2, h3, _⟩ := h
    intro b hb
    rcases List.mem_cons.mp hb with rfl | hb
    · exact ⟨_, h1, trivial⟩
    · rcases List.mem_cons.mp hb with rfl | hb
      · exact ⟨_, h2, trivial⟩
      · exact h3.mu b hb
theorem ORep.mono {o : OB} {a : Addr} {fp : List Addr} (e : Same F F') (k : ∀ b ∈ fp, H' b = H b) (h : ORep K F H o a fp) : ORep K F' H' o a fp := by
  cases o with
  | lst l =>
    obtain ⟨rfl, xs, h1, h2⟩ := h
    exact ⟨rfl, xs, by rw [k a (by simp)]; exact h1, h2.mono e⟩
  | dic ks l =>
    obtain ⟨rfl, xs, h1, h2, h3⟩ := h
    exact ⟨rfl, xs, by rw [k a (by simp)]; exact h1, h2, h3.mono e⟩
  | rows ls =>
    obtain ⟨ps, rfl, nd, h1, r⟩ := h
    exact ⟨ps, rfl, nd, by rw [k a (by simp)]; exact h1, paired_imp r fun l q hq ⟨xs, h2, h3⟩ => ⟨xs, by rw [k q (by simp [hq])]; exact h2, h3.mono e⟩⟩
  | inst C o fs =>
    obtain ⟨dx, vs, fps, rfl, nd, h1, h2, h3, h4⟩ := h
    exact ⟨dx, vs, fps, rfl, nd, by rw [k a (by simp)]; exact h1, by rw [k dx (by simp)]; exact h2, h3.mono e (fun b hb => k b (by simp [hb])), h4⟩
/-- none of it is locked -/
def FV.free : FV → Prop
  | .dcl _ _ _ => False
  | _ => True
def OB.free : OB → Prop
  | .inst _ _ fs => ∀ x ∈ fs, x.2.free
  | _ => True
/-- as frozen data -/
@[simp] def FV.frz : FV → D
  | .d x => x
  | .lst l => .lst l
  | .dct kvs => .dct kvs
  | .dcl _ _ kvs => .dct kvs
  | .rows ls => .lst (ls.map .lst)
@[simp] def OB.frz : OB → D
  | .lst l => .lst l
  | .dic ks l => .dic ks l
  | .inst C _ fs => .ins C (fs.map (·.1)) (fs.map fun x => x.2.frz)
  | .rows ls => .lst (ls.map .lst)
/-- the frozen part with a footprint's objects -/
def frzs (F H : Hp) (fp : List Addr) : Hp := fun b => if b ∈ fp then H b else F b
theorem frzs_in {fp : List Addr} {b : Addr} (h : b ∈ fp) : frzs F H fp b = H b := if_pos h
theorem frzs_out {fp : List Addr} {b : Addr} (h : b ∉ fp) : frzs F H fp b = F b := if_neg h
theorem frzs_same {fp : List Addr} (n : ∀ b ∈ fp, F b = none) : Same F (frzs F H fp) := fun b u e => by
  by_cases hb : b ∈ fp
  · rw [n b hb] at e; cases e
  · rw [frzs_out hb]; exact e
theorem Ext.frzs {F0 B F H : Hp} (a : Ext F0 B F H) {fp : List Addr} (hm : ∀ b ∈ fp, ∃ ho, H b = some ho ∧ Mu ho) (n : ∀ b ∈ fp, F b = none ∧ B b = none) : Ext F0 B (frzs F H fp) H where
  ff := a.ff.trans (frzs_same fun b hb => (n b hb).1)
  fh := fun b u e => by
    by_cases hb : b ∈ fp
    · rw [frzs_in hb] at e; exact e
    · rw [frzs_out hb] at e; exact a.fh b u e
  bh := a.bh
  fr := fun q w h0 h ht => by
    by_cases hb : q ∈ fp
    · rw [(n q hb).2] at h; cases h
    · rw [frzs_out hb]; exact a.fr q w h0 h ht
  nt := ⟨fun q ps e => by
    by_cases hb : q ∈ fp
    · rw [frzs_in hb] at e
      obtain ⟨ho, e2, m⟩ := hm q hb
      rw [e2] at e
      cases e
      exact m
    · rw [frzs_out hb] at e; exact a.nt.1 q ps e, a.nt.2⟩
theorem FRep.frz {fv : FV} {v : V} {fp all : List Addr} (hf : fv.free) (h : FRep K F H fv v fp) (n : ∀ b ∈ all, F b = none) (sub : ∀ b ∈ fp, b ∈ all) : Rep K (frzs F H all) fv.frz v := by
  have sm : Same F (frzs F H all) := frzs_same n
  cases fv with
  | d x => exact h.2.mono sm
  | lst l =>
    obtain ⟨p, rfl, rfl, xs, h1, h2⟩ := h
    exact .lst (by rw [frzs_in (sub p (by simp))]; exact h1) (h2.mono sm)
  | dct kvs =>
    obtain ⟨p, rfl, rfl, h1⟩ := h
    exact .dct (by rw [frzs_in (sub p (by simp))]; exact h1)
  | dcl p od kvs => exact hf.elim
  | rows ls =>
    obtain ⟨p, ps, rfl, rfl, h1, r⟩ := h
    refine .lst (by rw [frzs_in (sub p (by simp))]; exact h1) ?_
    have sub' : ∀ b ∈ ps, b ∈ all := fun b hb => sub b (by simp [hb])
    clear h1 sub hf
    induction r with
    | nil => exact .nil
    | cons h _ ih =>
      obtain ⟨xs, e, r⟩ := h
      exact .cons (.lst (by rw [frzs_in (sub' _ (by simp))]; exact e) (r.mono sm)) (ih fun b hb => sub' b (by simp [hb]))
theorem FsRep.frz {fs : List (Str × FV)} {vs : List (Str × V)} {fp all : List Addr} (h : FsRep K F H fs vs fp) (n : ∀ b ∈ all, F b = none) : (∀ x ∈ fs, x.2.free) → (∀ b ∈ fp, b ∈ all) → vs.map (·.1) = fs.map (·.1) ∧ RepL K (frzs F H all) (fs.map fun x => x.2.frz) (vs.map (·.2)) := by
  induction h with
  | nil => exact fun _ _ => ⟨rfl, .nil⟩
  | cons h _ ih =>
    intro hf sub
    obtain ⟨e, r⟩ := ih (fun x hx => hf x (by simp [hx])) fun b hb => sub b (List.mem_append_right _ hb)
    exact ⟨by simp [e], .cons (h.frz (hf _ (by simp)) n fun b hb => sub b (List.mem_append_left _ hb)) r⟩
theorem ORep.frz {o : OB} {a : Addr} {fp : List Addr} (hf : o.free) (h : ORep K F H o a fp) (n : ∀ b ∈ fp, F b = none) : Rep K (frzs F H fp) o.frz (.ref a) := by
  have sm : Same F (frzs F H fp) := frzs_same n
  cases o with
  | lst l =>
    obtain ⟨rfl, xs, h1, h2⟩ := h
    exact .lst (by rw [frzs_in (by simp)]; exact h1) (h2.mono sm)
  | dic ks l =>
    obtain ⟨rfl, xs, h1, h2, h3⟩ := h
    exact .dic (by rw [frzs_in (by simp)]; exact h1) h2 (h3.mono sm)
  | rows ls =>
    obtain ⟨ps, rfl, nodup, h1, r⟩ := h
    refine .lst (by rw [frzs_in (by simp)]; exact h1) ?_
    have sub' : ∀ b ∈ ps, b ∈ a :: ps := fun b hb => by simp [hb]
    clear h1
    clear hf nodup
    generalize a :: ps = all at sub' sm n ⊢
    induction r with
    | nil => exact .nil
    | cons h _ ih =>
      obtain ⟨xs, e, r⟩ := h
      exact .cons (.lst (by rw [frzs_in (sub' _ (by simp))]; exact e) (r.mono sm)) (ih fun b hb => sub' b (by simp [hb]))
  | inst C o fs =>
    obtain ⟨dx, vs, fps, rfl, _, h1, h2, h3, _⟩ := h
    obtain ⟨e, r⟩ := h3.frz n hf fun b hb => by simp [hb]
    exact .ins (by rw [frzs_in (by simp)]; exact h1) e r
inductive Sl where
  | no | d (x : D) | own (o : OB)
def SlotR (K : PySem.W.Frag) (F : Hp) : Sl → Option V → Prop
  | .no, _ => True
  | .d x, o => ∃ v, o = some v ∧ Rep K F x v
  | .own _, _ => True
/-- what the owned slots' objects take -/
def Owns (K : PySem.W.Frag) (B F H : Hp) (ρ : List Sl) (σ : St) (fps : Nat → List Addr) : Prop :=
  (∀ i ob, ρ[i]? = some (.own ob) → ∃ a, σ[i]? = some (some (.ref a)) ∧ ORep K F H ob a (fps i) ∧ ∀ b ∈ fps i, F b = none ∧ B b = none) ∧
  ∀ i j ob ob', ρ[i]? = some (.own ob) → ρ[j]? = some (.own ob') → i ≠ j → ∀ b ∈ fps i, b ∉ fps j
structure StR (K : PySem.W.Frag) (F0 B F : Hp) (ρ : List Sl) (σ : St) (H : Hp) : Prop where
  ext : Ext F0 B F H
  len : ρ.length = σ.length
  slot : ∀ (i : Nat) (s : Sl), ρ[i]? = some s → ∃ o, σ[i]? = some o ∧ SlotR K F s o
  own : ∃ fps, Owns K B F H ρ σ fps
theorem SlotR.mono {s : Sl} {o : Option V} (h : SlotR K F s o) (e : Same F F') : SlotR K F' s o := by
  cases s with
  | no => trivial
  | d x => obtain ⟨v, e1, r⟩ := h; exact ⟨v, e1, r.mono e⟩
  | own ob => trivial
theorem Owns.step {B : Hp} {ρ : List Sl} {σ : St} {fps : Nat → List Addr} (h : Owns K B F H ρ σ fps) (e : Ext F H F' H') : Owns K B F' H' ρ σ fps := by
  refine ⟨fun i ob q => ?_, h.2⟩
  obtain ⟨a, e1, r, n⟩ := h.1 i ob q
  have k : ∀ b ∈ fps i, H' b = H b := fun b hb => by
    obtain ⟨ho, h1, m⟩ := r.mu b hb
    rw [h1]
    exact e.bh.ordi h1 m.ntbl
  refine ⟨a, e1, r.mono e.ff k, fun b hb => ?_⟩
  obtain ⟨ho, h1, m⟩ := r.mu b hb
  exact ⟨e.fr b ho (n b hb).1 h1 m.ntup, (n b hb).2⟩
theorem StR.step {F0 B : Hp} {ρ : List Sl} {σ : St} (h : StR K F0 B F ρ σ H) (e : Ext F H F' H') : StR K F0 B F' ρ σ H' :=
  ⟨h.ext.trans e, h.len, fun i s q => let ⟨o, e1, r⟩ := h.slot i s q; ⟨o, e1, r.mono e.ff⟩, let ⟨fps, w⟩ := h.own; ⟨fps, w.step e⟩⟩
theorem StR.fh {F0 B : Hp} {ρ : List Sl} {σ : St} (h : StR K F0 B F ρ σ H) : Same F H := h.ext.fh
theorem StR.nt {F0 B : Hp} {ρ : List Sl} {σ : St} (h : StR K F0 B F ρ σ H) : NT F H := h.ext.nt
theorem StR.selfExt {F0 B : Hp} {ρ : List Sl} {σ : St} (h : StR K F0 B F ρ σ H) : Ext F H F H := Ext.refl h.fh h.nt
/-- where an owned slot of the changed list was owned -/
theorem set_own {ρ : List Sl} {i j : Nat} {s : Sl} {ob : OB} (hs : ∀ o, s ≠ .own o) (q : (ρ.set i s)[j]? = some (.own ob)) : j ≠ i ∧ ρ[j]? = some (.own ob) := by
  by_cases hj : i = j
  · subst hj
    by_cases hl : i < ρ.length
    · rw [List.getElem?_set_self hl] at q
      cases q
      exact absurd rfl (hs ob)
    · rw [List.getElem?_eq_none (by simpa using hl)] at q; cases q
  · rw [List.getElem?_set_ne hj] at q
    exact ⟨fun e => hj e.symm, q⟩
theorem Owns.forget {B : Hp} {ρ : List Sl} {σ : St} {fps : Nat → List Addr} (h : Owns K B F H ρ σ fps) (i : Nat) {s : Sl} {o : Option V} (hs : ∀ o, s ≠ .own o) : Owns K B F H (ρ.set i s) (σ.set i o) fps := by
  refine ⟨fun j ob q => ?_, fun j k ob ob' q1 q2 n => h.2 j k ob ob' (set_own hs q1).2 (set_own hs q2).2 n⟩
  obtain ⟨nj, q⟩ := set_own hs q
  rw [List.getElem?_set_ne (Ne.symm nj)]
  exact h.1 j ob q
theorem slot_set {ρ : List Sl} {σ : St} (hl : ρ.length = σ.length) (h : ∀ (i : Nat) (s : Sl), ρ[i]? = some s → ∃ o, σ[i]? = some o ∧ SlotR K F s o) (i : Nat) {s : Sl} {o : Option V} (r : SlotR K F s o) :
    ∀ (j : Nat) (s' : Sl), (ρ.set i s)[j]? = some s' → ∃ o', (σ.set i o)[j]? = some o' ∧ SlotR K F s' o' := fun j s' q => by
  by_cases hj : i = j
  · subst hj
    by_cases hl' : i < ρ.length
    · rw [List.getElem?_set_self hl'] at q
      cases q
      exact ⟨o, by rw [List.getElem?_set_self (by rw [← hl]; exact hl')], r⟩
    · rw [List.getElem?_eq_none (by simpa using hl')] at q; cases q
  · rw [List.getElem?_set_ne hj] at q ⊢
    exact h j s' q
/-- a slot gets frozen data -/
theorem StR.set {F0 B : Hp} {ρ : List Sl} {σ : St} (h : StR K F0 B F ρ σ H) {x : D} {v : V} (i : Nat) (r : Rep K F x v) : StR K F0 B F (ρ.set i (.d x)) (σ.set i (some v)) H := by
  obtain ⟨fps, w⟩ := h.own
  exact ⟨h.ext, by simpa using h.len, slot_set h.len h.slot i ⟨v, rfl, r⟩, fps, w.forget i fun o z => nomatch z⟩
/-- a slot is forgotten -/
theorem StR.drop {F0 B : Hp} {ρ : List Sl} {σ : St} (h : StR K F0 B F ρ σ H) (i : Nat) (o : Option V) : StR K F0 B F (ρ.set i .no) (σ.set i o) H := by
  obtain ⟨fps, w⟩ := h.own
  exact ⟨h.ext, by simpa using h.len, slot_set h.len h.slot i trivial, fps, w.forget i fun o z => nomatch z⟩
def pick (i : Nat) (fp : List Addr) (fps : Nat → List Addr) (j : Nat) : List Addr := if j = i then fp else fps j
theorem pick_self {i : Nat} {fp : List Addr} {fps : Nat → List Addr} : pick i fp fps i = fp := if_pos rfl
theorem pick_ne {i j : Nat} {fp : List Addr} {fps : Nat → List Addr} (h : j ≠ i) : pick i fp fps j = fps j := if_neg h
/-- a slot gets a new object of one's own -/
theorem StR.setNew {F0 B : Hp} {ρ : List Sl} {σ : St} (S : StR K F0 B F ρ σ H) (i : Nat) {p : Addr} {ob : OB} {fp : List Addr} (E' : Ext F H F' H') (r : ORep K F' H' ob p fp) (n : ∀ b ∈ fp, F' b = none ∧ H b = none) :
    StR K F0 B F' (ρ.set i (.own ob)) (σ.set i (some (.ref p))) H' := by
  have S' := S.step E'
  obtain ⟨fps, w⟩ := S.own
  have w' := w.step E'
  refine ⟨S'.ext, by simpa using S.len, slot_set S'.len S'.slot i trivial, pick i fp fps, fun j o q => ?_, fun j k o o' q1 q2 nn b hb hb' => ?_⟩
  · by_cases hj : j = i
    · subst hj
      rw [pick_self]
      have hl : j < ρ.length := by
        obtain ⟨hl, _⟩ := List.getElem?_eq_some_iff.mp q
        simpa using hl
      rw [List.getElem?_set_self hl] at q
      cases q
      exact ⟨p, by rw [List.getElem?_set_self (by rw [← S.len]; exact hl)], r, fun b hb => ⟨(n b hb).1, S.ext.bh.none (n b hb).2⟩⟩
    · rw [pick_ne hj]
      rw [List.getElem?_set_ne (Ne.symm hj)] at q ⊢
      exact w'.1 j o q
  · have old : ∀ {j : Nat} {o : OB} {b : Addr}, j ≠ i → (ρ.set i (.own ob))[j]? = some (.own o) → b ∈ fps j → H b ≠ none := fun {j o b} hj q hb => by
      rw [List.getElem?_set_ne (Ne.symm hj)] at q
      obtain ⟨a, _, r, _⟩ := w.1 j o q
      obtain ⟨ho, e, _⟩ := r.mu b hb
      rw [e]
      simp
    by_cases hj : j = i
    · have hk : k ≠ i := fun z => nn (by rw [hj, z])
      subst hj
      rw [pick_self] at hb
      rw [pick_ne hk] at hb'
      exact old hk q2 hb' (n b hb).2
    · rw [pick_ne hj] at hb
      by_cases hk : k = i
      · subst hk
        rw [pick_self] at hb'
        exact old hj q1 hb (n b hb').2
      · rw [pick_ne hk] at hb'
        rw [List.getElem?_set_ne (Ne.symm hj)] at q1
        rw [List.getElem?_set_ne (Ne.symm hk)] at q2
        exact w.2 j k o o' q1 q2 nn b hb hb'
/-- an object of one's own is changed in place, behind an evaluation (E1): H' differs from H1 within its footprint alone, or it takes what that evaluation made -/
theorem StR.changeN {F0 B F1 H1 : Hp} {ρ : List Sl} {σ : St} (h : StR K F0 B F ρ σ H) (E1 : Ext F H F1 H1) {i : Nat} {ob : OB} (q : ρ[i]? = some (.own ob)) :
    ∃ a fp, σ[i]? = some (some (.ref a)) ∧ ORep K F1 H1 ob a fp ∧ (∀ b ∈ fp, F1 b = none ∧ B b = none ∧ H b ≠ none) ∧
      ∀ H' ob' fp', Ext F0 B F1 H' → (∀ b, b ∉ fp → ∀ o, H1 b = some o → H' b = some o) → ORep K F1 H' ob' a fp' → (∀ b ∈ fp', b ∈ fp ∨ (H b = none ∧ F1 b = none)) → StR K F0 B F1 (ρ.set i (.own ob')) σ H' := by
  obtain ⟨fps, w0⟩ := h.own
  have w := w0.step E1
  obtain ⟨a, e, r, n⟩ := w.1 i ob q
  have there : ∀ {j : Nat} {o : OB} {b : Addr}, ρ[j]? = some (.own o) → b ∈ fps j → H b ≠ none := fun {j o b} q2 hb => by
    obtain ⟨_, _, r2, _⟩ := w0.1 j o q2
    obtain ⟨ho, e2, _⟩ := r2.mu b hb
    rw [e2]
    simp
  refine ⟨a, fps i, e, r, fun b hb => ⟨(n b hb).1, (n b hb).2, there q hb⟩, fun H' ob' fp' E' k r' new => ?_⟩
  have hl : i < ρ.length := (List.getElem?_eq_some_iff.mp q).1
  have other : ∀ {j : Nat} {o : OB}, j ≠ i → ρ[j]? = some (.own o) → ∀ b ∈ fps j, H' b = H1 b := fun {j o} hj q2 b hb => by
    obtain ⟨a2, _, r2, _⟩ := w.1 j o q2
    obtain ⟨ho, e2, _⟩ := r2.mu b hb
    rw [e2]
    exact k b (fun z => w.2 i j ob o q q2 (Ne.symm hj) b z hb) ho e2
  refine ⟨E', by simpa using h.len, fun j s q2 => ?_, pick i fp' fps, fun j o q2 => ?_, fun j m o o' q1 q2 nn b hb hb' => ?_⟩
  · by_cases hj : i = j
    · subst hj
      rw [List.getElem?_set_self hl] at q2
      cases q2
      exact ⟨_, e, trivial⟩
    · rw [List.getElem?_set_ne hj] at q2
      obtain ⟨o, e3, r3⟩ := h.slot j s q2
      exact ⟨o, e3, r3.mono E1.ff⟩
  · by_cases hj : j = i
    · subst hj
      rw [pick_self]
      rw [List.getElem?_set_self hl] at q2
      cases q2
      refine ⟨a, e, r', fun b hb => ?_⟩
      rcases new b hb with z | z
      · exact n b z
      · exact ⟨z.2, h.ext.bh.none z.1⟩
    · rw [pick_ne hj]
      rw [List.getElem?_set_ne (Ne.symm hj)] at q2
      obtain ⟨a2, e2, r2, n2⟩ := w.1 j o q2
      exact ⟨a2, e2, r2.mono (Same.refl F1) (other hj q2), n2⟩
  · have dis : ∀ {j : Nat} {o : OB} {b : Addr}, j ≠ i → (ρ.set i (.own ob'))[j]? = some (.own o) → b ∈ fps j → b ∈ fp' → False := fun {j o b} hj q2 hb hb' => by
      rw [List.getElem?_set_ne (Ne.symm hj)] at q2
      rcases new b hb' with z | z
      · exact w.2 i j ob o q q2 (Ne.symm hj) b z hb
      · exact there q2 hb z.1
    by_cases hj : j = i
    · have hm : m ≠ i := fun z => nn (by rw [hj, z])
      subst hj
      rw [pick_self] at hb
      rw [pick_ne hm] at hb'
      exact dis hm q2 hb' hb
    · rw [pick_ne hj] at hb
      by_cases hm : m = i
      · subst hm
        rw [pick_self] at hb'
        exact dis hj q1 hb hb'
      · rw [pick_ne hm] at hb'
        rw [List.getElem?_set_ne (Ne.symm hj)] at q1
        rw [List.getElem?_set_ne (Ne.symm hm)] at q2
        exact w.2 j m o o' q1 q2 nn b hb hb'
theorem StR.change {F0 B : Hp} {ρ : List Sl} {σ : St} (h : StR K F0 B F ρ σ H) {i : Nat} {ob : OB} (q : ρ[i]? = some (.own ob)) :
    ∃ a fp, σ[i]? = some (some (.ref a)) ∧ ORep K F H ob a fp ∧ (∀ b ∈ fp, F b = none ∧ B b = none) ∧
      ∀ H' ob' fp', Ext F0 B F H' → (∀ b, b ∉ fp → ∀ o, H b = some o → H' b = some o) → ORep K F H' ob' a fp' → (∀ b ∈ fp', b ∈ fp ∨ H b = none) → StR K F0 B F (ρ.set i (.own ob')) σ H' := by
  obtain ⟨a, fp, e, r, n, ch⟩ := h.changeN h.selfExt q
  exact ⟨a, fp, e, r, fun b hb => ⟨(n b hb).1, (n b hb).2.1⟩, fun H' ob' fp' E' k r' new => ch H' ob' fp' E' k r' fun b hb => (new b hb).imp id fun z => ⟨z, h.fh.free z⟩⟩
/-- a slot of one's own keeps a list: what stands there -/
theorem StR.ownL {F0 B : Hp} {ρ : List Sl} {σ : St} (S : StR K F0 B F ρ σ H) {i : Nat} {l : List D} (q : ρ[i]? = some (.own (.lst l))) :
    ∃ a xs, σ[i]? = some (some (.ref a)) ∧ H a = some (.lst xs) ∧ F a = none ∧ B a = none ∧ RepL K F l xs ∧ ∀ (l' : List D) (xs' : List V), RepL K F l' xs' → StR K F0 B F (ρ.set i (.own (.lst l'))) σ (upd H a (.lst xs')) := by
  obtain ⟨a, fp, e, ⟨rfl, xs, h1, r⟩, n, ch⟩ := S.change q
  refine ⟨a, xs, e, h1, (n a (by simp)).1, (n a (by simp)).2, r, fun l' xs' r' => ch _ _ [a] (S.ext.own h1 trivial trivial (n a (by simp)).1 (n a (by simp)).2) (fun b hb o eb => ?_) ⟨rfl, xs', upd_same, r'⟩ fun b hb => .inl hb⟩
  rw [upd_ne (fun z => hb (by simp [z]))]
  exact eb
/-- an object of one's own is frozen -/
theorem StR.freeze {F0 B : Hp} {ρ : List Sl} {σ : St} (h : StR K F0 B F ρ σ H) {i : Nat} {ob : OB} (q : ρ[i]? = some (.own ob)) (hf : ob.free) :
    ∃ F', Same F F' ∧ StR K F0 B F' (ρ.set i (.d ob.frz)) σ H := by
  obtain ⟨fps, w⟩ := h.own
  obtain ⟨a, e, r, n⟩ := w.1 i ob q
  have hl : i < ρ.length := (List.getElem?_eq_some_iff.mp q).1
  have sm : Same F (frzs F H (fps i)) := frzs_same fun b hb => (n b hb).1
  refine ⟨frzs F H (fps i), sm, h.ext.frzs r.mu n, by simpa using h.len, fun j s q2 => ?_, fps, fun j o q2 => ?_, fun j k o o' q1 q2 nn => w.2 j k o o' (set_own (fun o z => by cases z) q1).2 (set_own (fun o z => by cases z) q2).2 nn⟩
  · by_cases hj : i = j
    · subst hj
      rw [List.getElem?_set_self hl] at q2
      cases q2
      exact ⟨_, e, _, rfl, r.frz hf fun b hb => (n b hb).1⟩
    · rw [List.getElem?_set_ne hj] at q2
      obtain ⟨o, e3, w2⟩ := h.slot j s q2
      exact ⟨o, e3, w2.mono sm⟩
  · obtain ⟨hj, q2⟩ := set_own (fun o z => by cases z) q2
    obtain ⟨a2, e2, r2, n2⟩ := w.1 j o q2
    refine ⟨a2, e2, r2.mono sm fun b _ => rfl, fun b hb => ⟨?_, (n2 b hb).2⟩⟩
    rw [frzs_out (w.2 j i o ob q2 q hj b hb)]
    exact (n2 b hb).1
/-- reading a slot -/
theorem StR.var {F0 B : Hp} {ρ : List Sl} {σ : St} (h : StR K F0 B F ρ σ H) {i : Nat} {x : D} (q : ρ[i]? = some (.d x)) : ∃ v, σ[i]? = some (some v) ∧ Rep K F x v := by
  obtain ⟨o, e, v, e2, r⟩ := h.slot i _ q
  subst e2
  exact ⟨v, e, r⟩
end
end Dy

/-! # The data layer: expressions. -/
namespace Dy
variable [Tn]
open PySem PySem.Spec PyProof.Rows L2

/-! ### weaker readings -/
section
variable {X : Cx}
theorem peImp {e : Expr} {t u : TE} (h : PE X e t) (w : ∀ σ H Q, u σ H Q → t σ H Q) : PE X e u := ⟨fun pins s σ H Q I q => h.run pins s σ H Q I (w _ _ _ q)⟩
theorem ptImp {e : Expr} {t u : TT} (h : PT X e t) (w : ∀ σ H Q, u σ H Q → t σ H Q) : PT X e u := ⟨fun pins s σ H Q I q => h.run pins s σ H Q I (w _ _ _ q)⟩
theorem pwImp {e : Expr} {t u : TT} (h : PW X e t) (w : ∀ σ H Q, u σ H Q → t σ H Q) : PW X e u := ⟨fun wh pins s σ H Q I q => h.run wh pins s σ H Q I (w _ _ _ q)⟩
theorem paImp {e : List Expr} {t u : TA} (h : PA X e t) (w : ∀ σ H Q, u σ H Q → t σ H Q) : PA X e u := ⟨fun pos pins s σ H Q I q => h.run pos pins s σ H Q I (w _ _ _ q)⟩
theorem psImp {e : Stmt} {t u : TS} (h : PS X e t) (w : ∀ D σ H, u D σ H → t D σ H) : PS X e u := ⟨fun pins s σ H D I q => h.run pins s σ H D I (w _ _ _ q)⟩
theorem pssImp {e : List Stmt} {t u : TS} (h : PSs X e t) (w : ∀ D σ H, u D σ H → t D σ H) : PSs X e u := ⟨fun pins s σ H D I q => h.run pins s σ H D I (w _ _ _ q)⟩
theorem oprImp {f : Value → Value → Sem Value} {r u : R2} (h : OpR X f r) (w : ∀ x y H Q, u x y H Q → r x y H Q) : OpR X f u := fun pins s σ H x y v v' Q I a b q => h pins s σ H x y v v' Q I a b (w _ _ _ _ q)
theorem unrImp {f : Value → Sem Value} {r u : V → Hp → VK → Prop} (h : UnR X f r) (w : ∀ x H Q, u x H Q → r x H Q) : UnR X f u := fun pins s σ H x v Q I a q => h pins s σ H x v Q I a (w _ _ _ q)
theorem callImp {f : Value} {r u : List V → Hp → VK → Prop} (h : CallR X f r) (w : ∀ x H Q, u x H Q → r x H Q) : CallR X f u := fun pins s σ H xs us Q I a q => h pins s σ H xs us Q I a (w _ _ _ q)
theorem ixImp {r u : R2} (h : IxR X r) (w : ∀ x y H Q, u x y H Q → r x y H Q) : IxR X u := fun ve se pins s σ H x y v v' Q I a b q z => h ve se pins s σ H x y v v' Q I a b (w _ _ _ _ q) z
theorem slImp {r u : V → Option Int → Option Int → Hp → VK → Prop} (h : SlR X r) (w : ∀ x a b H Q, u x a b H Q → r x a b H Q) : SlR X u := fun pins s σ H x v vl vu lo hi sl Q I a b c d q => h pins s σ H x v vl vu lo hi sl Q I a b c d (w _ _ _ _ _ q)
end

/-! ### readings over data -/
abbrev DE := List Sl → (D → Prop) → Prop
abbrev DT := List Sl → (Bool → Prop) → Prop
abbrev DA := List Sl → (List D → Prop) → Prop
section
variable (K : PySem.W.Frag)
/-- what is wanted of data at a value -/
def Fin (F H : Hp) (P : D → Prop) (Q : VK) : Prop := ∀ d, P d → ∀ v F' H', Ext F H F' H' → Rep K F' d v → Q v H'
def tE (f : DE) : TE := fun σ H Q => ∃ (F0 B F : Hp) (ρ : List Sl) (P : D → Prop), StR K F0 B F ρ σ H ∧ f ρ P ∧ Fin K F H P Q
def tT (f : DT) : TT := fun σ H Q => ∃ (F0 B F : Hp) (ρ : List Sl) (P : Bool → Prop), StR K F0 B F ρ σ H ∧ f ρ P ∧ ∀ b, P b → ∀ F' H', Ext F H F' H' → Q b H'
def tA (f : DA) : TA := fun σ H Q => ∃ (F0 B F : Hp) (ρ : List Sl) (P : List D → Prop), StR K F0 B F ρ σ H ∧ f ρ P ∧ ∀ ds, P ds → ∀ vs F' H', Ext F H F' H' → RepL K F' ds vs → Q vs H'
def r1D (h : D → (D → Prop) → Prop) : V → Hp → VK → Prop := fun vx H Q => ∃ (F : Hp) (dx : D) (P : D → Prop), Same F H ∧ NT F H ∧ Rep K F dx vx ∧ h dx P ∧ Fin K F H P Q
def r2D (h : D → D → (D → Prop) → Prop) : R2 := fun vx vy H Q => ∃ (F : Hp) (dx dy : D) (P : D → Prop), Same F H ∧ NT F H ∧ Rep K F dx vx ∧ Rep K F dy vy ∧ h dx dy P ∧ Fin K F H P Q
def rAD (h : List D → (D → Prop) → Prop) : List V → Hp → VK → Prop := fun vs H Q => ∃ (F : Hp) (ds : List D) (P : D → Prop), Same F H ∧ NT F H ∧ RepL K F ds vs ∧ h ds P ∧ Fin K F H P Q
end
abbrev ED (X : Cx) (e : Expr) (f : DE) : Prop := PE X e (tE X.K f)
abbrev TD (X : Cx) (e : Expr) (f : DT) : Prop := PT X e (tT X.K f)
abbrev WD (X : Cx) (e : Expr) (f : DT) : Prop := PW X e (tT X.K f)
abbrev AD (X : Cx) (es : List Expr) (f : DA) : Prop := PA X es (tA X.K f)
section
variable {K : PySem.W.Frag} {F H F' H' : Hp} {P : D → Prop} {Q : VK}
theorem Fin.at (h : Fin K F H P Q) (s : Same F H) (n : NT F H) {d : D} {v : V} (p : P d) (r : Rep K F d v) : Q v H := h d p v F H (Ext.refl s n) r
theorem Fin.new (h : Fin K F H P Q) (s : Same F H) (n : NT F H) {d : D} {p : Addr} {o : HO} (q : P d) (hp : H p = none) (ho : Ordi o) (r : Rep K (upd F p o) d (.ref p)) : Q (.ref p) (upd H p o) :=
  h d q (.ref p) (upd F p o) (upd H p o) ((Ext.refl s n).alloc hp ho) r
theorem Fin.later (h : Fin K F H P Q) (e : Ext F H F' H') : Fin K F' H' P Q := fun d p v F2 H2 e2 r => h d p v F2 H2 (e.trans e2) r
end

/-! ### names, constants -/
@[simp] def dVar (i : Nat) : DE := fun ρ P => ∃ x, ρ[i]? = some (.d x) ∧ P x
@[simp] def dC (x : D) : DE := fun _ P => P x
section
variable {X : Cx} {e a b : Expr} {f g : DE} {pos : Pos}
theorem toVar (i : Nat) : ∀ σ H Q, tE X.K (dVar i) σ H Q → tVar i σ H Q := fun σ H Q ⟨F0, B, F, ρ, P, S, ⟨x, e, p⟩, fin⟩ => by
  obtain ⟨v, e1, r⟩ := S.var e
  exact ⟨v, e1, fin.at S.fh S.nt p r⟩
theorem ed_var (i : Nat) {x : Str} (hN : X.N[i]? = some x := by rfl) (hv : Vis X.env.scope x := by first | exact Or.inl rfl | exact Or.inr (Or.inl rfl) | exact Or.inr (Or.inr rfl)) (hd : (x == ("__debug__" : Str)) = false := by decide)
    (hcd : (x == ("__classdict__" : Str)) = false := by decide) : ED X (.Name x pos) (dVar i) := peImp (pe_var hN hv hd hcd) (toVar i)
theorem toC {x : D} {v : V} (r : ∀ F, Rep X.K F x v) : ∀ σ H Q, tE X.K (dC x) σ H Q → tC v σ H Q := fun σ H Q ⟨F0, B, F, ρ, P, S, p, fin⟩ => fin.at S.fh S.nt p (r F)
theorem ed_int {i j} : ED X (.Constant (.int i) j pos) (dC (.int i)) := peImp pe_int (toC fun _ => .int i)
theorem ed_bl {b j} : ED X (.Constant (.bool b) j pos) (dC (.bl b)) := peImp pe_bl (toC fun _ => .bl b)
theorem ed_non {j} : ED X (.Constant .none j pos) (dC .non) := peImp pe_non (toC fun _ => .non)
theorem ed_str {x j} : ED X (.Constant (.str x) j pos) (dC (.str x)) := peImp pe_str (toC fun _ => .str x)
/-- a constant of the module -/
structure Gc (K : PySem.W.Frag) (mg : Str → Option Value) (x : Str) (d : D) : Prop where
  ex : ∃ (u : Value) (v : V), mg x = some u ∧ RelV v u ∧ ∀ F, Rep K F d v
theorem ed_glob {x : Str} {d : D} (g : Gc X.K X.mg x d) (hg : Gl X x := by rfl) (hd : (x == ("__debug__" : Str)) = false := by decide) : ED X (.Name x pos) (dC d) := by
  obtain ⟨u, v, hm, r, q⟩ := g.ex
  exact peImp (pe_glob hg hm r hd) (toC q)

/-! ### operators -/
@[simp] def dOp (h : D → D → (D → Prop) → Prop) (f g : DE) : DE := fun ρ P => f ρ fun x => g ρ fun y => h x y P
theorem toOp {h : D → D → (D → Prop) → Prop} : ∀ σ H Q, tE X.K (dOp h f g) σ H Q → tOp (r2D X.K h) (tE X.K f) (tE X.K g) σ H Q := fun σ H Q ⟨F0, B, F, ρ, P, S, q, fin⟩ =>
  ⟨F0, B, F, ρ, _, S, q, fun x hx vx F1 H1 E1 r1 => ⟨F0, B, F1, ρ, _, S.step E1, hx, fun y hy vy F2 H2 E2 r2 => ⟨F2, x, y, P, E2.fh, E2.nt, r1.mono E2.ff, r2, hy, (fin.later E1).later E2⟩⟩⟩
theorem ed_op {op : Operator} {h : D → D → (D → Prop) → Prop} (ho : OpR X (binaryOp op) (r2D X.K h)) (ha : ED X a f) (hb : ED X b g) : ED X (.BinOp a op b pos) (dOp h f g) := peImp (pe_op ho ha hb) toOp
theorem ed_cmp {op : CmpOp} {h : D → D → (D → Prop) → Prop} (ho : OpR X (compareOp op) (r2D X.K h)) (ha : ED X a f) (hb : ED X b g) (hm : behindInMarks op b = false) : ED X (.Compare a [op] [b] pos) (dOp h f g) := peImp (pe_cmpR ho ha hb hm) toOp
/-- a test by its value -/
def dTest (f : DE) : DT := fun ρ P => f ρ fun x => ∃ k, x = .bl k ∧ P k
theorem toTest : ∀ σ H Q, tT X.K (dTest f) σ H Q → tTest (tE X.K f) σ H Q := fun σ H Q ⟨F0, B, F, ρ, P, S, q, fin⟩ =>
  ⟨F0, B, F, ρ, _, S, q, fun x hx vx F1 H1 E1 r1 => by
    obtain ⟨k, e, p⟩ := hx
    subst e
    cases r1
    exact ⟨k, rfl, fin k p F1 H1 E1⟩⟩
theorem tTest_imp {t u : TE} (w : ∀ σ H Q, u σ H Q → t σ H Q) : ∀ σ H Q, tTest u σ H Q → tTest t σ H Q := fun σ H Q q => w _ _ _ q
theorem td_cmp {op : CmpOp} {h : D → D → (D → Prop) → Prop} (ho : OpR X (compareOp op) (r2D X.K h)) (ha : ED X a f) (hb : ED X b g) (hm : behindInMarks op b = false) : TD X (.Compare a [op] [b] pos) (dTest (dOp h f g)) :=
  ptImp (pt_cmpR ho ha hb hm) fun σ H Q q => tTest_imp toOp σ H Q (toTest σ H Q q)
theorem td_val (h : ED X e f) (he : ∀ whole, isTrue e X.env whole = (do let v ← whole; standAt e.pos; holding [v] (truthy v)) := by intro _; rfl) : TD X e (dTest f) :=
  ptImp (pt_val h he) fun σ H Q q => toTest σ H Q q
@[simp] def dAndT (t u : DT) : DT := fun ρ P => t ρ fun c => if c = true then u ρ P else P false
@[simp] def dOrT (t u : DT) : DT := fun ρ P => t ρ fun c => if c = true then P true else u ρ P
@[simp] def dNotT (t : DT) : DT := fun ρ P => t ρ fun c => P (!c)
variable {t u : DT} {rest : List Expr}
theorem wd_and1 (ha : TD X a t) : WD X (.BoolOp .And [a] pos) t := pw_and1 ha
theorem wd_or1 (ha : TD X a t) : WD X (.BoolOp .Or [a] pos) t := pw_or1 ha
theorem wd_and (ha : TD X a t) (hb : WD X (.BoolOp .And (b :: rest) pos) u) : WD X (.BoolOp .And (a :: b :: rest) pos) (dAndT t u) := pwImp (pw_and ha hb) fun σ H Q ⟨F0, B, F, ρ, P, S, q, fin⟩ =>
  ⟨F0, B, F, ρ, _, S, q, fun c hc F1 H1 E1 => by
    cases c with
    | true => exact ⟨F0, B, F1, ρ, P, S.step E1, hc, fun b p F2 H2 E2 => fin b p F2 H2 (E1.trans E2)⟩
    | false => exact fin false hc F1 H1 E1⟩
theorem wd_or (ha : TD X a t) (hb : WD X (.BoolOp .Or (b :: rest) pos) u) : WD X (.BoolOp .Or (a :: b :: rest) pos) (dOrT t u) := pwImp (pw_or ha hb) fun σ H Q ⟨F0, B, F, ρ, P, S, q, fin⟩ =>
  ⟨F0, B, F, ρ, _, S, q, fun c hc F1 H1 E1 => by
    cases c with
    | false => exact ⟨F0, B, F1, ρ, P, S.step E1, hc, fun b p F2 H2 E2 => fin b p F2 H2 (E1.trans E2)⟩
    | true => exact fin true hc F1 H1 E1⟩
theorem td_not (ha : TD X a t) : TD X (.UnaryOp .Not a pos) (dNotT t) := ptImp (pt_not ha) fun σ H Q ⟨F0, B, F, ρ, P, S, q, fin⟩ => ⟨F0, B, F, ρ, _, S, q, fun c hc F1 H1 E1 => fin _ hc F1 H1 E1⟩
/-- and, or, not as values -/
def dAnd (f g : DE) : DE := fun ρ P => f ρ fun x => ∃ c, x = .bl c ∧ if c = true then g ρ P else P (.bl false)
def dOr (f g : DE) : DE := fun ρ P => f ρ fun x => ∃ c, x = .bl c ∧ if c = true then P (.bl true) else g ρ P
def dNot (f : DE) : DE := fun ρ P => f ρ fun x => ∃ c, x = .bl c ∧ P (.bl (!c))
theorem ed_one {op} (h : ED X a f) : ED X (.BoolOp op [a] pos) f := pe_one h
theorem ed_and (ha : ED X a f) (hb : ED X (.BoolOp .And (b :: rest) pos) g) : ED X (.BoolOp .And (a :: b :: rest) pos) (dAnd f g) := peImp (pe_and ha hb) fun σ H Q ⟨F0, B, F, ρ, P, S, q, fin⟩ =>
  ⟨F0, B, F, ρ, _, S, q, fun x hx v F1 H1 E1 r1 => by
    obtain ⟨c, e, hc⟩ := hx
    subst e
    cases r1
    refine ⟨c, rfl, ?_⟩
    cases c with
    | true => exact ⟨F0, B, F1, ρ, P, S.step E1, hc, fin.later E1⟩
    | false => exact fin _ hc _ F1 H1 E1 (.bl false)⟩
theorem ed_or (ha : ED X a f) (hb : ED X (.BoolOp .Or (b :: rest) pos) g) : ED X (.BoolOp .Or (a :: b :: rest) pos) (dOr f g) := peImp (pe_or ha hb) fun σ H Q ⟨F0, B, F, ρ, P, S, q, fin⟩ =>
  ⟨F0, B, F, ρ, _, S, q, fun x hx v F1 H1 E1 r1 => by
    obtain ⟨c, e, hc⟩ := hx
    subst e
    cases r1
    refine ⟨c, rfl, ?_⟩
    cases c with
    | false => exact ⟨F0, B, F1, ρ, P, S.step E1, hc, fin.later E1⟩
    | true => exact fin _ hc _ F1 H1 E1 (.bl true)⟩
theorem ed_not (ha : ED X a f) : ED X (.UnaryOp .Not a pos) (dNot f) := peImp (pe_not ha) fun σ H Q ⟨F0, B, F, ρ, P, S, q, fin⟩ =>
  ⟨F0, B, F, ρ, _, S, q, fun x hx v F1 H1 E1 r1 => by
    obtain ⟨c, e, hc⟩ := hx
    subst e
    cases r1
    exact ⟨c, rfl, fin _ hc _ F1 H1 E1 (.bl _)⟩⟩
@[simp] def dIfE (t : DT) (f g : DE) : DE := fun ρ P => t ρ fun c => if c = true then f ρ P else g ρ P
theorem ed_ifExp {c : Expr} (hc : TD X c t) (ha : ED X a f) (hb : ED X b g) : ED X (.IfExp c a b pos) (dIfE t f g) := peImp (pe_ifExp hc ha hb) fun σ H Q ⟨F0, B, F, ρ, P, S, q, fin⟩ =>
  ⟨F0, B, F, ρ, _, S, q, fun c hc F1 H1 E1 => by
    cases c with
    | true => exact ⟨F0, B, F1, ρ, P, S.step E1, hc, fin.later E1⟩
    | false => exact ⟨F0, B, F1, ρ, P, S.step E1, hc, fin.later E1⟩⟩
@[simp] def dUn (h : D → (D → Prop) → Prop) (f : DE) : DE := fun ρ P => f ρ fun x => h x P
theorem ed_un {op : UnaryOp} {h : D → (D → Prop) → Prop} (ho : UnR X (unaryOp op) (r1D X.K h)) (ha : ED X a f) : ED X (.UnaryOp op a pos) (dUn h f) := peImp (pe_un ho ha) fun σ H Q ⟨F0, B, F, ρ, P, S, q, fin⟩ =>
  ⟨F0, B, F, ρ, _, S, q, fun x hx v F1 H1 E1 r1 => ⟨F1, x, P, E1.fh, E1.nt, r1, hx, fin.later E1⟩⟩
/-- a < b < c -/
def dChain (h h' : D → D → (D → Prop) → Prop) (f g k : DE) : DE := fun ρ P => f ρ fun x => g ρ fun y => h x y fun z => ∃ c, z = .bl c ∧ if c = true then k ρ fun w' => h' y w' P else P (.bl false)
theorem ed_chain {op op' : CmpOp} {h h' : D → D → (D → Prop) → Prop} {c : Expr} {k : DE} (ho : OpR X (compareOp op) (r2D X.K h)) (ho' : OpR X (compareOp op') (r2D X.K h')) (ha : ED X a f) (hb : ED X b g) (hc : ED X c k)
    (hm : lastMarks [op, op'] [b, c] = false := by with_unfolding_all rfl) : ED X (.Compare a [op, op'] [b, c] pos) (dChain h h' f g k) := peImp (pe_chain ho ho' ha hb hc hm) fun σ H Q ⟨F0, B, F, ρ, P, S, q, fin⟩ =>
  ⟨F0, B, F, ρ, _, S, q, fun x hx vx F1 H1 E1 r1 => ⟨F0, B, F1, ρ, _, S.step E1, hx, fun y hy vy F2 H2 E2 r2 => ⟨F2, x, y, _, E2.fh, E2.nt, r1.mono E2.ff, r2, hy, fun z hz vz F3 H3 E3 r3 => by
    obtain ⟨c, e, hc⟩ := hz
    subst e
    cases r3
    refine ⟨c, rfl, ?_⟩
    cases c with
    | true => exact ⟨F0, B, F3, ρ, _, ((S.step E1).step E2).step E3, hc, fun w' hw' vw F4 H4 E4 r4 => ⟨F4, y, w', P, E4.fh, E4.nt, (r2.mono E3.ff).mono E4.ff, r4, hw', ((fin.later E1).later E2).later (E3.trans E4)⟩⟩
    | false => exact fin _ hc _ F3 H3 (E1.trans (E2.trans E3)) (.bl false)⟩⟩⟩
theorem td_chain {op op' : CmpOp} {h h' : D → D → (D → Prop) → Prop} {c : Expr} {k : DE} (ho : OpR X (compareOp op) (r2D X.K h)) (ho' : OpR X (compareOp op') (r2D X.K h')) (ha : ED X a f) (hb : ED X b g) (hc : ED X c k)
    (hm : lastMarks [op, op'] [b, c] = false := by with_unfolding_all rfl) : TD X (.Compare a [op, op'] [b, c] pos) (dTest (dChain h h' f g k)) := ptImp (pt_chain ho ho' ha hb hc hm) fun σ H Q q => by
  obtain ⟨F0, B, F, ρ, P, S, q, fin⟩ := q
  exact ⟨F0, B, F, ρ, _, S, q, fun x hx vx F1 H1 E1 r1 => ⟨F0, B, F1, ρ, _, S.step E1, hx, fun y hy vy F2 H2 E2 r2 => ⟨F2, x, y, _, E2.fh, E2.nt, r1.mono E2.ff, r2, hy, fun z hz vz F3 H3 E3 r3 => by
    obtain ⟨c, e, hc⟩ := hz
    subst e
    cases r3
    refine ⟨c, rfl, ?_⟩
    cases c with
    | true => exact ⟨F0, B, F3, ρ, _, ((S.step E1).step E2).step E3, hc, fun w' hw' vw F4 H4 E4 r4 => ⟨F4, y, w', _, E4.fh, E4.nt, (r2.mono E3.ff).mono E4.ff, r4, hw', fun d hd v F5 H5 E5 r5 => by
        obtain ⟨k, e, p⟩ := hd
        subst e
        cases r5
        exact ⟨k, rfl, fin k p F5 H5 (E1.trans (E2.trans (E3.trans (E4.trans E5))))⟩⟩⟩
    | false =>
      obtain ⟨k, e, p⟩ := hc
      cases e
      exact iteF ⟨false, rfl, fin false p F3 H3 (E1.trans (E2.trans E3))⟩⟩⟩⟩

/-! ### arguments, displays -/
@[simp] def dNil : DA := fun _ P => P []
@[simp] def dCons (f : DE) (g : DA) : DA := fun ρ P => f ρ fun x => g ρ fun xs => P (x :: xs)
variable {es : List Expr} {k : DA}
theorem ad_nil : AD X [] dNil := paImp pa_nil fun σ H Q ⟨F0, B, F, ρ, P, S, q, fin⟩ => fin [] q [] F H S.selfExt .nil
theorem ad_cons (ha : ED X e f) (hr : AD X es k) (hs : starEach (e :: es) X.env = (false, eval e X.env) :: starEach es X.env := by rfl) : AD X (e :: es) (dCons f k) := paImp (pa_cons ha hr hs) fun σ H Q ⟨F0, B, F, ρ, P, S, q, fin⟩ =>
  ⟨F0, B, F, ρ, _, S, q, fun x hx vx F1 H1 E1 r1 => ⟨F0, B, F1, ρ, _, S.step E1, hx, fun xs hxs vs F2 H2 E2 r2 => fin _ hxs _ F2 H2 (E1.trans E2) (.cons (r1.mono E2.ff) r2)⟩⟩
@[simp] def dTup (g : DA) : DE := fun ρ P => g ρ fun xs => xs.length ≤ 1000000 ∧ P (.tup xs)
@[simp] def dLst (g : DA) : DE := fun ρ P => g ρ fun xs => xs.length ≤ 1000000 ∧ P (.lst xs)
theorem smallM {n : Nat} (h : n ≤ 1000000) : n < sizeLine := by rw [sizeLine_eq]; omega
theorem le_line {n : Nat} (h : n ≤ 1000000) : n ≤ sizeLine := Nat.le_of_lt (smallM h)
theorem ed_tup {x1} (h : AD X es k) : ED X (.Tuple es x1 pos) (dTup k) := peImp (pe_tup h) fun σ H Q ⟨F0, B, F, ρ, P, S, q, fin⟩ =>
  ⟨F0, B, F, ρ, _, S, q, fun xs ⟨hl, hx⟩ vs F1 H1 E1 r1 => ⟨by rw [← r1.length]; exact le_line hl, fun p hp => (fin.later E1).new E1.fh E1.nt hx hp trivial (.tup (SqT.of upd_same) (r1.mono (same_alloc E1.fh hp)))⟩⟩
theorem ed_lst (h : AD X es k) : ED X (.List es pos) (dLst k) := peImp (pe_lst h) fun σ H Q ⟨F0, B, F, ρ, P, S, q, fin⟩ =>
  ⟨F0, B, F, ρ, _, S, q, fun xs ⟨hl, hx⟩ vs F1 H1 E1 r1 => ⟨by rw [← r1.length]; exact le_line hl, fun p hp => (fin.later E1).new E1.fh E1.nt hx hp trivial (.lst upd_same (r1.mono (same_alloc E1.fh hp)))⟩⟩
end
end Dy

/-! # The data layer: operators, built-ins, calls. -/
namespace Dy
variable [Tn]
open PySem PySem.Spec PyProof.Rows L2

/-! ### data as the library's own data, equality -/
mutual
def toPy : D → PyData
  | .non => .none
  | .bl b => .bool b
  | .int i => .int i
  | .str x => .str x
  | .tup l => .tuple (toPyL l)
  | .lst l => .list (toPyL l)
  | .scr ns => .list (ns.map .int)
  | .dic _ _ => .none
  | .dct _ => .none
  | .tpl _ => .none
  | .ins _ _ _ => .none
def toPyL : List D → List PyData
  | [] => []
  | d :: l => toPy d :: toPyL l
end
theorem toPyL_map : ∀ l : List D, toPyL l = l.map toPy
  | [] => rfl
  | d :: l => by rw [toPyL, toPyL_map l]; rfl
/-- plain data of at most that depth -/
def lay : Nat → D → Bool
  | _, .non => true
  | _, .bl _ => true
  | _, .int _ => true
  | _, .str x => PyData.strOk x
  | n + 1, .tup l => l.all (lay n)
  | n + 1, .lst l => l.all (lay n)
  | _ + 1, .scr _ => true
  | _, _ => false
theorem lay_mono : ∀ {n : Nat} {d : D}, lay n d = true → lay (n + 1) d = true := by
  intro n
  induction n with
  | zero =>
    intro d h
    cases d <;> simp_all [lay]
  | succ n ih =>
    intro d h
    cases d with
    | tup l =>
      simp only [lay] at h ⊢
      exact List.all_eq_true.mpr fun x hx => ih (List.all_eq_true.mp h x hx)
    | lst l =>
      simp only [lay] at h ⊢
      exact List.all_eq_true.mpr fun x hx => ih (List.all_eq_true.mp h x hx)
    | _ => simp_all [lay]
theorem lay_le {m n : Nat} (h : m ≤ n) {d : D} (y : lay m d = true) : lay n d = true := by
  induction h with
  | refl => exact y
  | step _ ih => exact lay_mono ih
theorem lay_ints : ∀ ns : List Int, PyData.canLayAll0 (ns.map .int) = true ∧ PyData.depthAll (ns.map .int) = 0
  | [] => ⟨rfl, rfl⟩
  | n :: ns => by
    obtain ⟨h1, h2⟩ := lay_ints ns
    simp only [List.map_cons, PyData.canLayAll0, PyData.canLay0, PyData.depthAll, PyData.depth, h1, h2]
    exact ⟨rfl, rfl⟩
theorem lay_ok : ∀ (n : Nat) (d : D), lay n d = true → (toPy d).canLay0 = true ∧ (toPy d).depth ≤ n := by
  intro n
  induction n with
  | zero =>
    intro d h
    cases d <;> simp_all [lay, toPy, PyData.canLay0, PyData.depth]
  | succ n ih =>
    have all : ∀ l : List D, l.all (lay n) = true → PyData.canLayAll0 (toPyL l) = true ∧ PyData.depthAll (toPyL l) ≤ n := by
      intro l
      induction l with
      | nil => intro _; simp [toPyL, PyData.canLayAll0, PyData.depthAll]
      | cons d l ihl =>
        intro h
        simp only [List.all_cons, Bool.and_eq_true] at h
        obtain ⟨a1, a2⟩ := ih d h.1
        obtain ⟨b1, b2⟩ := ihl h.2
        simp only [toPyL, PyData.canLayAll0, PyData.depthAll, a1, b1]
        exact ⟨rfl, by omega⟩
    intro d h
    cases d with
    | tup l =>
      obtain ⟨a, b⟩ := all l h
      simp only [toPy, PyData.canLay0, PyData.depth, a]
      exact ⟨trivial, by omega⟩
    | lst l =>
      obtain ⟨a, b⟩ := all l h
      simp only [toPy, PyData.canLay0, PyData.depth, a]
      exact ⟨trivial, by omega⟩
    | scr ns =>
      obtain ⟨a, b⟩ := lay_ints ns
      simp only [toPy, PyData.canLay0, PyData.depth, a, b]
      exact ⟨trivial, by omega⟩
    | non => simp [toPy, PyData.canLay0, PyData.depth]
    | bl b => simp [toPy, PyData.canLay0, PyData.depth]
    | int i => simp [toPy, PyData.canLay0, PyData.depth]
    | str x =>
      have h' : PyData.strOk x = true := h
      simp [toPy, PyData.canLay0, PyData.depth, h']
    | dic _ _ => simp [lay] at h
    | dct _ => simp [lay] at h
    | tpl _ => simp [lay] at h
    | ins _ _ _ => simp [lay] at h
theorem lay_shaped {d : D} (h : lay 60 d = true) : SeqAt.shaped (toPy d) = true := by
  obtain ⟨a, b⟩ := lay_ok 60 d h
  unfold SeqAt.shaped
  rw [a, Bool.true_and]
  exact decide_eq_true (by omega)
section
variable {K : PySem.W.Frag} {F H : Hp}
theorem dpAll_ints : ∀ ns : List Int, DpAll K H (ns.map V.int) (ns.map .int)
  | [] => .nil
  | n :: ns => .cons (.int n) (dpAll_ints ns)
mutual
theorem Rep.dp (s : Same F H) : ∀ {d : D} {v : V} (n : Nat), Rep K F d v → lay n d = true → Dp K H v (toPy d)
  | _, _, _, .non, _ => by rw [toPy]; exact .non
  | _, _, _, .bl b, _ => by rw [toPy]; exact .bl b
  | _, _, _, .int i, _ => by rw [toPy]; exact .int i
  | _, _, _, .str x, _ => by rw [toPy]; exact .str x
  | _, _, n + 1, .tup h r, y => by rw [toPy]; exact .tup (Same.sqT s h) (r.dp s n y)
  | _, _, n + 1, .lst h r, y => by rw [toPy]; exact .lst (SqL.of (s _ _ h)) (r.dp s n y)
  | _, _, n + 1, .scr (ns := ns) h, y => by rw [toPy]; exact .lst (s.seq h) (dpAll_ints ns)
  | _, _, 0, .tup h r, y => by simp [lay] at y
  | _, _, 0, .lst h r, y => by simp [lay] at y
  | _, _, 0, .scr h, y => by simp [lay] at y
  | _, _, n, .dic h q r, y => by simp [lay] at y
  | _, _, n, .dct h, y => by simp [lay] at y
  | _, _, n, .tpl h r, y => by simp [lay] at y
  | _, _, n, .ins h q r, y => by simp [lay] at y
theorem RepL.dp (s : Same F H) : ∀ {l : List D} {xs : List V} (n : Nat), RepL K F l xs → l.all (lay n) = true → DpAll K H xs (toPyL l)
  | _, _, _, .nil, _ => by rw [toPyL]; exact .nil
  | d :: l, _, n, .cons h r, y => by
    rw [toPyL]
    have y' : lay n d = true ∧ l.all (lay n) = true := by simpa only [List.all_cons, Bool.and_eq_true] using y
    exact .cons (h.dp s n y'.1) (r.dp s n y'.2)
end
end
def eqv (x y : D) : Bool := PyData.eqv (toPy x) (toPy y)

/-! ### operators -/
@[simp] def addD : D → D → (D → Prop) → Prop
  | .int i, .int j, P => P (.int (i + j))
  | .lst a, .lst b, P => a.length + b.length ≤ 1000000 ∧ P (.lst (a ++ b))
  | _, _, _ => False
@[simp] def subD : D → D → (D → Prop) → Prop
  | .int i, .int j, P => P (.int (i - j))
  | _, _, _ => False
@[simp] def mulD : D → D → (D → Prop) → Prop
  | .int i, .int j, P => IntMulOk i j ∧ P (.int (i * j))
  | .lst l, .int k, P => 0 ≤ k ∧ k ≤ 1000000 ∧ l.length * k.toNat ≤ 1000000 ∧ P (.lst (List.replicate k.toNat l).flatten)
  | _, _, _ => False
@[simp] def fdivD : D → D → (D → Prop) → Prop
  | .int i, .int j, P => CDivW i j ∧ P (.int (i / j))
  | _, _, _ => False
@[simp] def modD : D → D → (D → Prop) → Prop
  | .int i, .int j, P => 0 < j ∧ P (.int (i % j))
  | _, _, _ => False
@[simp] def powD : D → D → (D → Prop) → Prop
  | .int i, .int j, P => CPow i j ∧ P (.int (i ^ j.toNat))
  | _, _, _ => False
@[simp] def negD : D → (D → Prop) → Prop
  | .int i, P => P (.int (-i))
  | _, _ => False
@[simp] def eqD (x y : D) (P : D → Prop) : Prop := lay 60 x = true ∧ lay 60 y = true ∧ P (.bl (eqv x y))
@[simp] def neD (x y : D) (P : D → Prop) : Prop := lay 60 x = true ∧ lay 60 y = true ∧ P (.bl (!eqv x y))
@[simp] def cmpD (p : Int → Int → Bool) : D → D → (D → Prop) → Prop
  | .int i, .int j, P => P (.bl (p i j))
  | _, _, _ => False
@[simp] def ltD : D → D → (D → Prop) → Prop
  | .int i, .int j, P => P (.bl (decide (i < j)))
  | .tup a, .tup b, P => ∃ ns ms : List Int, a = ns.map .int ∧ b = ms.map .int ∧ P (.bl (HT.lexLt ns ms))
  | _, _, _ => False
@[simp] def inD (neg : Bool) (x y : D) (P : D → Prop) : Prop := ∃ (i : Int) (ns : List Int), x = .int i ∧ (y = .lst (ns.map .int) ∨ y = .tup (ns.map .int)) ∧ P (.bl (if neg then !decide (i ∈ ns) else decide (i ∈ ns)))
@[simp] def isND (x y : D) (P : D → Prop) : Prop := y = .non ∧ P (.bl (match x with | .non => true | _ => false))
@[simp] def notND (x y : D) (P : D → Prop) : Prop := y = .non ∧ P (.bl (match x with | .non => false | _ => true))
theorem inV_ints (i : Int) : ∀ ns : List Int, inV (.int i) (ns.map V.int) = decide (i ∈ ns)
  | [] => by simp [inV]
  | n :: ns => by
    have ih := inV_ints i ns
    unfold inV at ih ⊢
    rw [List.map_cons, List.any_cons, ih]
    by_cases h : n = i
    · subst h
      simp [eqV]
    · have h2 : ¬ i = n := fun e => h e.symm
      simp [eqV, h, h2]
theorem flat_ints : ∀ ns : List Int, (ns.map V.int).all flatV = true
  | [] => rfl
  | n :: ns => by rw [List.map_cons, List.all_cons, flat_ints ns]; rfl
section
variable {X : Cx}
theorem oAdd : OpR X (binaryOp .Add) (r2D X.K addD) := oprImp (op_add.or op_cat) fun x y H Q ⟨F, dx, dy, P, s, n, r1, r2, h, fin⟩ => by
  cases r1 with
  | int i =>
    cases r2 with
    | int j => exact .inl ⟨i, j, rfl, rfl, fin.at s n h (.int _)⟩
    | _ => exact h.elim
  | @lst a xs l h1 q1 =>
    cases r2 with
    | @lst b ys l' h2 q2 =>
      obtain ⟨hl, h⟩ := h
      exact .inr ⟨a, b, xs, ys, rfl, rfl, s _ _ h1, s _ _ h2, by rw [← q1.length, ← q2.length]; exact le_line hl, fun p hp => fin.new s n h hp trivial (.lst upd_same ((q1.append q2).mono (same_alloc s hp)))⟩
    | _ => exact h.elim
  | _ => exact h.elim
theorem oSub : OpR X (binaryOp .Sub) (r2D X.K subD) := oprImp op_sub fun x y H Q ⟨F, dx, dy, P, s, n, r1, r2, h, fin⟩ => by
  cases r1 with
  | int i =>
    cases r2 with
    | int j => exact ⟨i, j, rfl, rfl, fin.at s n h (.int _)⟩
    | _ => exact h.elim
  | _ => exact h.elim
theorem op_mulAny : OpR X (binaryOp .Mult) (rI IntMulOk fun i j => .int (i * j)) := opI fun _ _ _ _ _ _ _ hc q => mul_int q hc
theorem oMul : OpR X (binaryOp .Mult) (r2D X.K mulD) := oprImp (op_mulAny.or op_rep) fun x y H Q ⟨F, dx, dy, P, s, n, r1, r2, h, fin⟩ => by
  cases r1 with
  | int i =>
    cases r2 with
    | int j => exact .inl ⟨i, j, rfl, rfl, h.1, fin.at s n h.2 (.int _)⟩
    | _ => exact h.elim
  | @lst a xs l h1 q1 =>
    cases r2 with
    | int k =>
      obtain ⟨h0, h9, hl, h⟩ := h
      exact .inr ⟨a, k, xs, rfl, rfl, s _ _ h1, by omega, by omega, by rw [← q1.length]; exact le_line hl, fun p hp => fin.new s n h hp trivial (.lst upd_same ((q1.flat _).mono (same_alloc s hp)))⟩
    | _ => exact h.elim
  | _ => exact h.elim
theorem oFdiv : OpR X (binaryOp .FloorDiv) (r2D X.K fdivD) := oprImp op_fdivW fun x y H Q ⟨F, dx, dy, P, s, n, r1, r2, h, fin⟩ => by
  cases r1 with
  | int i =>
    cases r2 with
    | int j => exact ⟨i, j, rfl, rfl, h.1, fin.at s n h.2 (.int _)⟩
    | _ => exact h.elim
  | _ => exact h.elim
theorem oMod : OpR X (binaryOp .Mod) (r2D X.K modD) := oprImp op_mod fun x y H Q ⟨F, dx, dy, P, s, n, r1, r2, h, fin⟩ => by
  cases r1 with
  | int i =>
    cases r2 with
    | int j => exact ⟨i, j, rfl, rfl, h.1, fin.at s n h.2 (.int _)⟩
    | _ => exact h.elim
  | _ => exact h.elim
theorem oPow : OpR X (binaryOp .Pow) (r2D X.K powD) := oprImp op_pow fun x y H Q ⟨F, dx, dy, P, s, n, r1, r2, h, fin⟩ => by
  cases r1 with
  | int i =>
    cases r2 with
    | int j => exact ⟨i, j, rfl, rfl, h.1, fin.at s n h.2 (.int _)⟩
    | _ => exact h.elim
  | _ => exact h.elim
theorem uNeg : UnR X (unaryOp .USub) (r1D X.K negD) := unrImp un_neg fun x H Q ⟨F, dx, P, s, n, r1, h, fin⟩ => by
  cases r1 with
  | int i => exact ⟨i, rfl, fin.at s n h (.int _)⟩
  | _ => exact h.elim
theorem oEq (hu : X.A.units + 64 < cLine) : OpR X (compareOp .Eq) (r2D X.K eqD) := oprImp (op_eqD hu) fun x y H Q ⟨F, dx, dy, P, s, n, r1, r2, ⟨h1, h2, h⟩, fin⟩ =>
  ⟨_, _, r1.dp s 60 h1, r2.dp s 60 h2, lay_shaped h1, lay_shaped h2, fin.at s n h (.bl _)⟩
theorem oNe (hu : X.A.units + 64 < cLine) : OpR X (compareOp .NotEq) (r2D X.K neD) := oprImp (op_neD hu) fun x y H Q ⟨F, dx, dy, P, s, n, r1, r2, ⟨h1, h2, h⟩, fin⟩ =>
  ⟨_, _, r1.dp s 60 h1, r2.dp s 60 h2, lay_shaped h1, lay_shaped h2, fin.at s n h (.bl _)⟩
theorem oCmp {f : Value → Value → Sem Value} {p : Int → Int → Bool} (ho : OpR X f (rI0 fun i j => .bl (p i j))) : OpR X f (r2D X.K (cmpD p)) := oprImp ho fun x y H Q ⟨F, dx, dy, P, s, n, r1, r2, h, fin⟩ => by
  cases r1 with
  | int i =>
    cases r2 with
    | int j => exact ⟨i, j, rfl, rfl, fin.at s n h (.bl _)⟩
    | _ => exact h.elim
  | _ => exact h.elim
theorem oLe : OpR X (compareOp .LtE) (r2D X.K (cmpD fun i j => decide (i ≤ j))) := oCmp op_le
theorem oGt : OpR X (compareOp .Gt) (r2D X.K (cmpD fun i j => decide (j < i))) := oCmp op_gt
theorem oGe : OpR X (compareOp .GtE) (r2D X.K (cmpD fun i j => decide (j ≤ i))) := oCmp op_ge
theorem oLt (hu : X.A.units < cLine) : OpR X (compareOp .Lt) (r2D X.K ltD) := oprImp (op_lt.or (op_ltT hu)) fun x y H Q ⟨F, dx, dy, P, s, n, r1, r2, h, fin⟩ => by
  cases r1 with
  | int i =>
    cases r2 with
    | int j => exact .inl ⟨i, j, rfl, rfl, fin.at s n h (.bl _)⟩
    | _ => exact h.elim
  | @tup a xs l h1 q1 =>
    cases r2 with
    | @tup b ys l' h2 q2 =>
      obtain ⟨ns, ms, e1, e2, h⟩ := h
      subst e1 e2
      rw [q1.ints] at h1
      rw [q2.ints] at h2
      exact .inr ⟨a, b, ns, ms, rfl, rfl, Same.sqT s h1, Same.sqT s h2, fin.at s n h (.bl _)⟩
    | _ => exact h.elim
  | _ => exact h.elim
theorem oIn : OpR X (compareOp .In) (r2D X.K (inD false)) := oprImp op_in_seq fun x y H Q ⟨F, dx, dy, P, s, n, r1, r2, ⟨i, ns, e1, e2, h⟩, fin⟩ => by
  subst e1
  cases r1
  rcases e2 with e2 | e2
  · subst e2
    cases r2 with
    | @lst b ys _ h2 q2 =>
      rw [q2.ints] at h2
      refine ⟨b, _, rfl, .inl (SqL.of (s _ _ h2)), rfl, flat_ints ns, ?_⟩
      rw [inV_ints]
      exact fin.at s n h (.bl _)
  · subst e2
    cases r2 with
    | @tup b ys _ h2 q2 =>
      rw [q2.ints] at h2
      refine ⟨b, _, rfl, .inr (Same.sqT s h2), rfl, flat_ints ns, ?_⟩
      rw [inV_ints]
      exact fin.at s n h (.bl _)
theorem oNotIn : OpR X (compareOp .NotIn) (r2D X.K (inD true)) := oprImp op_notIn_seq fun x y H Q ⟨F, dx, dy, P, s, n, r1, r2, ⟨i, ns, e1, e2, h⟩, fin⟩ => by
  subst e1
  cases r1
  rcases e2 with e2 | e2
  · subst e2
    cases r2 with
    | @lst b ys _ h2 q2 =>
      rw [q2.ints] at h2
      refine ⟨b, _, rfl, .inl (SqL.of (s _ _ h2)), rfl, flat_ints ns, ?_⟩
      rw [inV_ints]
      exact fin.at s n h (.bl _)
  · subst e2
    cases r2 with
    | @tup b ys _ h2 q2 =>
      rw [q2.ints] at h2
      refine ⟨b, _, rfl, .inr (Same.sqT s h2), rfl, flat_ints ns, ?_⟩
      rw [inV_ints]
      exact fin.at s n h (.bl _)
theorem oIsN : OpR X (compareOp .Is) (r2D X.K isND) := oprImp op_isN fun x y H Q ⟨F, dx, dy, P, s, n, r1, r2, ⟨e, h⟩, fin⟩ => by
  subst e
  cases r2
  refine ⟨rfl, ?_⟩
  cases r1 <;> exact fin.at s n h (.bl _)
theorem oNotN : OpR X (compareOp .IsNot) (r2D X.K notND) := oprImp op_notN fun x y H Q ⟨F, dx, dy, P, s, n, r1, r2, ⟨e, h⟩, fin⟩ => by
  subst e
  cases r2
  refine ⟨rfl, ?_⟩
  cases r1 <;> exact fin.at s n h (.bl _)

/-! ### subscripts -/
@[simp] def ixD : D → D → (D → Prop) → Prop
  | .lst l, .int i, P => ∃ d, atI l i = some d ∧ P d
  | .tup l, .int i, P => ∃ d, atI l i = some d ∧ P d
  | .scr l, .int i, P => ∃ d, atI l i = some d ∧ P (.int d)
  | .tpl l, .int i, P => ∃ d, atI l i = some d ∧ P d
  | _, _, _ => False
theorem RepL.atI {K : PySem.W.Frag} {F : Hp} {l : List D} {xs : List V} {i : Int} {d : D} (r : RepL K F l xs) (h : L2.atI l i = some d) : ∃ v, L2.atI xs i = some v ∧ Rep K F d v := by
  unfold L2.atI at h ⊢
  rw [r.length] at h
  cases e : ixN xs.length i with
  | none => rw [e] at h; cases h
  | some j =>
    rw [e] at h
    obtain ⟨v, h1, h2⟩ := r.get (i := j) (d := d) h
    exact ⟨v, h1, h2⟩
theorem iSeq : IxR X (r2D X.K ixD) := ixImp (ix_list.or ix_tup) fun x y H Q ⟨F, dx, dy, P, s, n, r1, r2, h, fin⟩ => by
  cases r1 with
  | @lst a xs l h1 q1 =>
    cases r2 with
    | int i =>
      obtain ⟨d, hd, h⟩ := h
      obtain ⟨v, hv, rv⟩ := q1.atI hd
      exact .inl ⟨a, xs, i, v, rfl, rfl, SqL.of (s _ _ h1), hv, fin.at s n h rv⟩
    | _ => exact h.elim
  | @tup a xs l h1 q1 =>
    cases r2 with
    | int i =>
      obtain ⟨d, hd, h⟩ := h
      obtain ⟨v, hv, rv⟩ := q1.atI hd
      exact .inr ⟨a, xs, i, v, rfl, rfl, Same.sqT s h1, hv, fin.at s n h rv⟩
    | _ => exact h.elim
  | @tpl a xs l h1 q1 =>
    cases r2 with
    | int i =>
      obtain ⟨d, hd, h⟩ := h
      obtain ⟨v, hv, rv⟩ := q1.atI hd
      exact .inr ⟨a, xs, i, v, rfl, rfl, SqT.of (s _ _ h1), hv, fin.at s n h rv⟩
    | _ => exact h.elim
  | @scr a ns h1 =>
    cases r2 with
    | int i =>
      obtain ⟨d, hd, h⟩ := h
      refine .inl ⟨a, ns.map V.int, i, .int d, rfl, rfl, s.seq h1, ?_, fin.at s n h (.int d)⟩
      unfold L2.atI at hd ⊢
      rw [List.length_map]
      cases e : ixN ns.length i with
      | none => rw [e] at hd; cases hd
      | some j =>
        rw [e] at hd
        have hd : ns[j]? = some d := hd
        show (ns.map V.int)[j]? = _
        rw [List.getElem?_map, hd]
        rfl
    | _ => exact h.elim
  | _ => exact h.elim
theorem ed_ix {a b : Expr} {f g : DE} {pos : Pos} (ha : ED X a f) (hb : ED X b g) (hs : PlainIx b := by exact fun _ _ => rfl) : ED X (.Subscript a b pos) (dOp ixD f g) := peImp (pe_ix iSeq ha hb hs) toOp
/-- slices -/
abbrev DO := List Sl → (Option Int → Prop) → Prop
def tO (K : PySem.W.Frag) (f : DO) : TO := fun σ H Q => ∃ (F0 B F : Hp) (ρ : List Sl) (P : Option Int → Prop), StR K F0 B F ρ σ H ∧ f ρ P ∧ ∀ b, P b → ∀ F' H', Ext F H F' H' → Q b H'
abbrev OD (X : Cx) (e : Option Expr) (f : DO) : Prop := PO X e (tO X.K f)
theorem poImp {e : Option Expr} {t u : TO} (h : PO X e t) (w : ∀ σ H Q, u σ H Q → t σ H Q) : PO X e u := by
  obtain ⟨run⟩ := h
  constructor
  intros
  rename_i I q
  exact run _ _ _ _ _ I (w _ _ _ q)
@[simp] def dNoPart : DO := fun _ P => P none
@[simp] def dPart (f : DE) : DO := fun ρ P => f ρ fun x => ∃ i, x = .int i ∧ P (some i)
theorem od_none : OD X none dNoPart := poImp po_none fun σ H Q ⟨F0, B, F, ρ, P, S, q, fin⟩ => fin none q F H S.selfExt
theorem od_some {e : Expr} {f : DE} (h : ED X e f) : OD X (some e) (dPart f) := poImp (po_some h) fun σ H Q ⟨F0, B, F, ρ, P, S, q, fin⟩ =>
  ⟨F0, B, F, ρ, _, S, q, fun x ⟨i, e, p⟩ v F1 H1 E1 r1 => by
    subst e
    cases r1
    exact ⟨i, rfl, fin _ p F1 H1 E1⟩⟩
def cutD {α : Type} (xs : List α) (lo hi : Option Int) : List α := (xs.drop (HT.sIx xs.length 0 lo)).take (HT.sIx xs.length xs.length hi - HT.sIx xs.length 0 lo)
@[simp] def slD : D → Option Int → Option Int → (D → Prop) → Prop
  | .lst l, lo, hi, P => P (.lst (cutD l lo hi))
  | .tup l, lo, hi, P => ¬ (HT.sIx l.length 0 lo = 0 ∧ HT.sIx l.length l.length hi = l.length) ∧ P (.tup (cutD l lo hi))
  | _, _, _, _ => False
theorem RepL.cut {K : PySem.W.Frag} {F : Hp} {l : List D} {xs : List V} (r : RepL K F l xs) (lo hi : Option Int) : RepL K F (cutD l lo hi) (cutV xs lo hi) := by
  unfold cutD cutV
  rw [r.length]
  exact (r.drop _).take _
@[simp] def dSl (f : DE) (lo hi : DO) : DE := fun ρ P => f ρ fun x => lo ρ fun a => hi ρ fun b => slD x a b P
theorem ed_slice {e : Expr} {lo hi : Option Expr} {p2 pos : Pos} {f : DE} {tl th : DO} (he : ED X e f) (hl : OD X lo tl) (hu : OD X hi th) : ED X (.Subscript e (.Slice lo hi none p2) pos) (dSl f tl th) :=
  peImp (pe_slice (sl_list.or sl_tup) he hl hu) fun σ H Q ⟨F0, B, F, ρ, P, S, q, fin⟩ =>
    ⟨F0, B, F, ρ, _, S, q, fun x hx vx F1 H1 E1 r1 => ⟨F0, B, F1, ρ, _, S.step E1, hx, fun a ha F2 H2 E2 => ⟨F0, B, F2, ρ, _, (S.step E1).step E2, ha, fun b hb F3 H3 E3 => by
      have r3 := (r1.mono E2.ff).mono E3.ff
      have fin3 := ((fin.later E1).later E2).later E3
      cases r3 with
      | @lst p xs l h1 q1 => exact .inl ⟨p, xs, rfl, SqL.of (E3.fh _ _ h1), fun p hp => fin3.new E3.fh E3.nt hb hp trivial (.lst upd_same ((q1.cut a b).mono (same_alloc E3.fh hp)))⟩
      | @tup p xs l h1 q1 =>
        obtain ⟨nw, hb⟩ := hb
        rw [q1.length] at nw
        exact .inr ⟨p, xs, rfl, Same.sqT E3.fh h1, nw, fun p hp => fin3.new E3.fh E3.nt hb hp trivial (.tup (SqT.of upd_same) ((q1.cut a b).mono (same_alloc E3.fh hp)))⟩
      | _ => exact hb.elim⟩⟩⟩

/-! ### built-ins -/
@[simp] def dCB (h : List D → (D → Prop) → Prop) (k : DA) : DE := fun ρ P => k ρ fun ds => h ds P
theorem toCB {h : List D → (D → Prop) → Prop} {k : DA} : ∀ σ H Q, tE X.K (dCB h k) σ H Q → tCB (rAD X.K h) (tA X.K k) σ H Q := fun σ H Q ⟨F0, B, F, ρ, P, S, q, fin⟩ =>
  ⟨F0, B, F, ρ, _, S, q, fun ds hd vs F1 H1 E1 r1 => ⟨F1, ds, P, E1.fh, E1.nt, r1, hd, fin.later E1⟩⟩
section
variable {x : Str} {p pos : Pos} {e : Expr} {es : List Expr} {k : DA} {id T : String} {h : List D → (D → Prop) → Prop}
theorem ed_callB (hc : CallR X (.builtin id) (rAD X.K h)) (hm : X.mg x = none) (hv : bootBuiltins x = some (.builtin id)) (ha : AD X (e :: es) k) (hg : Gl X x := by rfl) (hn : x ≠ "__name__" := by decide) (hdb : (x == ("__debug__" : Str)) = false := by decide)
    (he : starEach (e :: es) X.env = (false, eval e X.env) :: starEach es X.env := by rfl) (hpl : (backTo pos (starEach es X.env)).any (·.1) = false := by rfl) : ED X (.Call (.Name x p) (e :: es) [] pos) (dCB h k) :=
  peImp (pe_callB hc hg hm hv ha hn hdb he hpl) toCB
theorem ed_callTy (hc : CallR X (.type T) (rAD X.K h)) (hm : X.mg x = none) (hv : bootBuiltins x = some (.type T)) (ha : AD X (e :: es) k) (hg : Gl X x := by rfl) (hn : x ≠ "__name__" := by decide) (hdb : (x == ("__debug__" : Str)) = false := by decide)
    (he : starEach (e :: es) X.env = (false, eval e X.env) :: starEach es X.env := by rfl) (hpl : (backTo pos (starEach es X.env)).any (·.1) = false := by rfl) : ED X (.Call (.Name x p) (e :: es) [] pos) (dCB h k) :=
  peImp (pe_callTy hc hg hm hv ha hn hdb he hpl) toCB
end
@[simp] def lenD : List D → (D → Prop) → Prop
  | [.lst l], P => P (.int l.length)
  | [.tup l], P => P (.int l.length)
  | [.scr l], P => P (.int l.length)
  | _, _ => False
@[simp] def absD : List D → (D → Prop) → Prop
  | [.int i], P => P (.int i.natAbs)
  | _, _ => False
@[simp] def intD : List D → (D → Prop) → Prop
  | [.int i], P => P (.int i)
  | [.bl b], P => P (.int (if b then 1 else 0))
  | _, _ => False
@[simp] def max2D : List D → (D → Prop) → Prop
  | [.int i, .int j], P => P (.int (if j > i then j else i))
  | _, _ => False
@[simp] def min2D : List D → (D → Prop) → Prop
  | [.int i, .int j], P => P (.int (if j < i then j else i))
  | _, _ => False
@[simp] def allD : List D → (D → Prop) → Prop
  | [.lst l], P => ∃ bs : List Bool, l = bs.map .bl ∧ P (.bl (bs.all id))
  | _, _ => False
@[simp] def anyD : List D → (D → Prop) → Prop
  | [.lst l], P => ∃ bs : List Bool, l = bs.map .bl ∧ P (.bl (bs.any id))
  | _, _ => False
@[simp] def sumD : List D → (D → Prop) → Prop
  | [.lst l], P => ∃ ns : List Int, l = ns.map .int ∧ P (.int ns.sum)
  | _, _ => False
@[simp] def minLD : List D → (D → Prop) → Prop
  | [.lst l], P => ∃ ns : List Int, l = ns.map .int ∧ 0 < ns.length ∧ ∀ m, m ∈ ns → (∀ y ∈ ns, m ≤ y) → P (.int m)
  | _, _ => False
theorem cLen : CallR X (.builtin "len") (rAD X.K lenD) := callImp call_len_seq fun xs H Q ⟨F, ds, P, s, n, r, h, fin⟩ => by
  cases r with
  | nil => exact h.elim
  | cons r1 rr =>
    cases rr with
    | cons _ _ => cases r1 <;> exact h.elim
    | nil =>
      cases r1 with
      | @lst a xs l h1 q1 => exact ⟨a, xs, rfl, .inl (SqL.of (s _ _ h1)), by rw [← q1.length]; exact fin.at s n h (.int _)⟩
      | @tup a xs l h1 q1 => exact ⟨a, xs, rfl, .inr (Same.sqT s h1), by rw [← q1.length]; exact fin.at s n h (.int _)⟩
      | @scr a ns h1 => exact ⟨a, _, rfl, .inl (s.seq h1), by rw [List.length_map]; exact fin.at s n h (.int _)⟩
      | _ => exact h.elim
theorem cAbs : CallR X (.builtin "abs") (rAD X.K absD) := callImp call_abs fun xs H Q ⟨F, ds, P, s, n, r, h, fin⟩ => by
  cases r with
  | nil => exact h.elim
  | cons r1 rr =>
    cases rr with
    | cons _ _ => cases r1 <;> exact h.elim
    | nil =>
      cases r1 with
      | int i =>
        refine ⟨i, rfl, ?_⟩
        have e : (if i < 0 then -i else i) = (i.natAbs : Int) := by split <;> omega
        rw [e]
        exact fin.at s n h (.int _)
      | _ => exact h.elim
theorem cInt : CallR X (.type "int") (rAD X.K intD) := callImp call_int1 fun xs H Q ⟨F, ds, P, s, n, r, h, fin⟩ => by
  cases r with
  | nil => exact h.elim
  | cons r1 rr =>
    cases rr with
    | cons _ _ => cases r1 <;> exact h.elim
    | nil =>
      cases r1 with
      | int i => exact .inl ⟨i, rfl, fin.at s n h (.int _)⟩
      | bl b => exact .inr ⟨b, rfl, fin.at s n h (.int _)⟩
      | _ => exact h.elim
theorem cMax2 (hc : X.calm = true) : CallR X (.builtin "max") (rAD X.K max2D) := callImp (call_max2 hc) fun xs H Q ⟨F, ds, P, s, n, r, h, fin⟩ => by
  cases r with
  | nil => exact h.elim
  | cons r1 rr =>
    cases rr with
    | nil => cases r1 <;> exact h.elim
    | cons r2 rr =>
      cases rr with
      | cons _ _ => cases r1 <;> cases r2 <;> exact h.elim
      | nil =>
        cases r1 with
        | int i =>
          cases r2 with
          | int j => exact ⟨i, j, rfl, fin.at s n h (.int _)⟩
          | _ => exact h.elim
        | _ => cases r2 <;> exact h.elim
theorem cMin2 (hc : X.calm = true) : CallR X (.builtin "min") (rAD X.K min2D) := callImp (call_min2 hc) fun xs H Q ⟨F, ds, P, s, n, r, h, fin⟩ => by
  cases r with
  | nil => exact h.elim
  | cons r1 rr =>
    cases rr with
    | nil => cases r1 <;> exact h.elim
    | cons r2 rr =>
      cases rr with
      | cons _ _ => cases r1 <;> cases r2 <;> exact h.elim
      | nil =>
        cases r1 with
        | int i =>
          cases r2 with
          | int j => exact ⟨i, j, rfl, fin.at s n h (.int _)⟩
          | _ => exact h.elim
        | _ => cases r2 <;> exact h.elim
theorem cAll (hc : X.calm = true) : CallR X (.builtin "all") (rAD X.K allD) := callImp (cr_all hc) fun xs H Q ⟨F, ds, P, s, n, r, h, fin⟩ => by
  cases r with
  | nil => exact h.elim
  | cons r1 rr =>
    cases rr with
    | cons _ _ => cases r1 <;> exact h.elim
    | nil =>
      cases r1 with
      | @lst a xs l h1 q1 =>
        obtain ⟨bs, e, h⟩ := h
        subst e
        rw [q1.bls] at h1
        exact ⟨a, bs, rfl, SqL.of (s _ _ h1), fin.at s n h (.bl _)⟩
      | _ => exact h.elim
theorem cAny (hc : X.calm = true) : CallR X (.builtin "any") (rAD X.K anyD) := callImp (cr_any hc) fun xs H Q ⟨F, ds, P, s, n, r, h, fin⟩ => by
  cases r with
  | nil => exact h.elim
  | cons r1 rr =>
    cases rr with
    | cons _ _ => cases r1 <;> exact h.elim
    | nil =>
      cases r1 with
      | @lst a xs l h1 q1 =>
        obtain ⟨bs, e, h⟩ := h
        subst e
        rw [q1.bls] at h1
        exact ⟨a, bs, rfl, SqL.of (s _ _ h1), fin.at s n h (.bl _)⟩
      | _ => exact h.elim
theorem cSum (hc : X.calm = true) : CallR X (.builtin "sum") (rAD X.K sumD) := callImp (cr_sum hc) fun xs H Q ⟨F, ds, P, s, n, r, h, fin⟩ => by
  cases r with
  | nil => exact h.elim
  | cons r1 rr =>
    cases rr with
    | cons _ _ => cases r1 <;> exact h.elim
    | nil =>
      cases r1 with
      | @lst a xs l h1 q1 =>
        obtain ⟨ns, e, h⟩ := h
        subst e
        rw [q1.ints] at h1
        exact ⟨a, ns, rfl, SqL.of (s _ _ h1), fin.at s n h (.int _)⟩
      | _ => exact h.elim
theorem cMinL (hc : X.calm = true) : CallR X (.builtin "min") (rAD X.K minLD) := callImp (cr_min hc) fun xs H Q ⟨F, ds, P, s, n, r, h, fin⟩ => by
  cases r with
  | nil => exact h.elim
  | cons r1 rr =>
    cases rr with
    | cons _ _ => cases r1 <;> exact h.elim
    | nil =>
      cases r1 with
      | @lst a xs l h1 q1 =>
        obtain ⟨ns, e, hl, h⟩ := h
        subst e
        rw [q1.ints] at h1
        exact ⟨a, ns, rfl, SqL.of (s _ _ h1), hl, fun m hm hy => fin.at s n (h m hm hy) (.int _)⟩
      | _ => exact h.elim
/-! isinstance(e, T) -/
@[simp] def tyN : D → String
  | .non => "NoneType"
  | .bl _ => "bool"
  | .int _ => "int"
  | .str _ => "str"
  | .tup _ => "tuple"
  | .lst _ => "list"
  | .scr _ => "list"
  | .dic _ _ => "dict"
  | .dct _ => "dict"
  | .tpl _ => "tuple"
  | .ins _ _ _ => "?"
@[simp] def isTy (T : String) (d : D) : Bool := tyN d == T || (T == "int" && tyN d == "bool")
@[simp] def dIsi (T : String) (f : DE) : DE := fun ρ P => f ρ fun d => tyN d ≠ "?" ∧ P (.bl (isTy T d))
theorem Rep.tyX {K : PySem.W.Frag} {F H : Hp} {d : D} {v : V} (s : Same F H) (r : Rep K F d v) (h : tyN d ≠ "?") : TyX K H v (.type (tyN d)) := by
  cases r with
  | non => exact .base .non
  | bl b => exact .base (.bl b)
  | int i => exact .base (.int i)
  | str x => exact .base (.str x)
  | tup g q =>
    rcases Same.sqT s g with (g | ⟨o, g⟩) | ⟨o, its, n, h1, h2, _⟩
    · exact .base (.tup g)
    · exact .fTuple g
    · exact .kTuple h1 h2
  | lst g q => exact .base (.lst (s _ _ g))
  | scr g =>
    rcases s.seq g with (g | ⟨o, g⟩) | ⟨o, its, n, h1, h2, _⟩
    · exact .base (.lst g)
    · exact .base (.frz g)
    · exact .kList h1 h2
  | dic g e q => exact .base (.dK (s _ _ g))
  | dct g => exact .base (.dT (s _ _ g))
  | tpl g q => exact .base (.tup (s _ _ g))
  | ins g e q => exact absurd rfl h
theorem kitB_s : ∀ T ∈ ["int", "bool", "tuple", "list"], ∀ t ∈ ["NoneType", "bool", "int", "str", "tuple", "list", "dict"], kitB t T = some (t == T || (T == "int" && t == "bool")) := by decide +kernel
theorem kitB_all (T : String) (hT : T ∈ ["int", "bool", "tuple", "list"]) (d : D) (h : tyN d ≠ "?") : kitB (tyN d) T = some (isTy T d) := by
  refine kitB_s T hT (tyN d) ?_
  cases d <;> first | exact absurd rfl h | simp [tyN]
theorem ed_isi {T : Str} {Ts : String} {p q pos : Pos} {e : Expr} {f : DE} (he : ED X e f) (hT : Ts ∈ ["int", "bool", "tuple", "list"]) (hmi : X.mg "isinstance" = none) (hmT : X.mg T = none) (hbT : bootBuiltins T = some (.type Ts)) (hgT : Gl X T := by rfl)
    (hgi : Gl X "isinstance" := by rfl) (hnT : T ≠ "__name__" := by decide) (hdT : (T == ("__debug__" : Str)) = false := by decide)
    (he1 : starEach (e :: [.Name T q]) X.env = (false, eval e X.env) :: starEach [.Name T q] X.env := by rfl) (he2 : starEach (Expr.Name T q :: []) X.env = (false, eval (.Name T q) X.env) :: starEach [] X.env := by rfl)
    (hpl : (backTo pos (starEach [.Name T q] X.env)).any (·.1) = false := by rfl) : ED X (.Call (.Name "isinstance" p) [e, .Name T q] [] pos) (dIsi Ts f) :=
  peImp (pe_callB call_isi hgi hmi (by decide +kernel) (pa_cons he (pa_cons (pe_bltn (v := .ty Ts) (u := .type Ts) hgT hmT hbT rfl hnT hdT) pa_nil he2) he1) (by decide) (by decide) he1 hpl) fun σ H Q ⟨F0, B, F, ρ, P, S, q, fin⟩ =>
    ⟨F0, B, F, ρ, _, S, q, fun d ⟨hn, hd⟩ v F1 H1 E1 r1 => ⟨v, .ty Ts, .type (tyN d), .type Ts, isTy Ts d, rfl, .ty Ts, r1.tyX E1.fh hn, kit_ty (kitB_all Ts hT d hn), fin _ hd _ F1 H1 E1 (.bl _)⟩⟩

/-! ### calls of defs -/
abbrev Spc := List D → (D → Prop) → (Addr → Prop) → Prop
/-- a def's promise over data -/
def spD (K : PySem.W.Frag) (φ : Spc) : Sp := fun vs H Q E => ∃ (F : Hp) (ds : List D) (P : D → Prop) (Z : Addr → Prop), Same F H ∧ NT F H ∧ RepL K F ds vs ∧ φ ds P Z ∧ Fin K F H P Q ∧ ∀ c, Z c → ∀ F' H', Ext F H F' H' → E (.ref c) none H'
structure DefD (P : Program) (w : World) (K : PySem.W.Frag) (mg : Str → Option Value) (base : Heap) (CX : CXT) (x : Str) (k : Nat) (φ : Spc) : Prop where
  ex : ∃ (f : Addr) (fd : FuncData) (ps : List Str), FnOk P w K mg base CX k f fd ps (spD K φ) ∧ mg x = some (.ref f) ∧ PySem.W.keepIn K (.ref f) = true ∧ Binds K fd ps []
@[simp] def dCall (φ : Spc) (k : DA) : DE := fun ρ P => k ρ fun ds => φ ds P fun _ => False
section
variable {x : Str} {p pos : Pos} {e : Expr} {es : List Expr} {k : DA} {φ : Spc} {j n : Nat} {CX : CXT}
theorem ed_call (G : DefD X.prog X.w X.K X.mg X.base CX x j φ) (hr : Room n X.A) (hx : Passes CX X E0) (ha : AD X (e :: es) k) (hjn : j ≤ n := by decide) (hg : Gl X x := by rfl) (hdb : (x == ("__debug__" : Str)) = false := by decide)
    (he : starEach (e :: es) X.env = (false, eval e X.env) :: starEach es X.env := by rfl) (hpl : (backTo pos (starEach es X.env)).any (·.1) = false := by rfl) : ED X (.Call (.Name x p) (e :: es) [] pos) (dCall φ k) := by
  obtain ⟨f, fd, ps, F, hm, hk, hb⟩ := G.ex
  refine peImp (pe_call F (hr.mono hjn) hg hm hk hb .nil hx ha hdb he hpl) fun σ H Q ⟨F0, B, F, ρ, P, S, q, fin⟩ => ?_
  exact ⟨F0, B, F, ρ, _, S, q, fun ds hd vs F1 H1 E1 r1 => ⟨F1, ds, P, _, E1.fh, E1.nt, by rw [List.append_nil]; exact r1, hd, fin.later E1, fun c z => z.elim⟩⟩
end
end
end Dy

/-! # The data layer: what is walked, targets, comprehensions, statements, defs. -/
namespace Dy
variable [Tn]
open PySem PySem.Spec PyProof.Rows L2

/-! ### what is walked -/
structure ItOk (K : PySem.W.Frag) (J : It) (F : Hp) (items : List D) : Prop where
  go : ∀ (i : Nat) (H : Hp), i < items.length → Same F H → J.go i H
  stop : ∀ (i : Nat) (H : Hp), items.length = i → Same F H → J.stop i H
  yld : ∀ (i : Nat) (H : Hp) (x : V) (H' : Hp), i < items.length → Same F H → J.yld i H x H' → ∃ d, items[i]? = some d ∧ ∀ F1, Same F F1 → Same F1 H → NT F1 H → ∃ F2, Ext F1 H F2 H' ∧ Rep K F2 d x
def tI (K : PySem.W.Frag) (it : DA) : TI := fun σ H R => ∃ (F0 B F : Hp) (ρ : List Sl) (P : List D → Prop), StR K F0 B F ρ σ H ∧ it ρ P ∧ ∀ items, P items → ∀ F' H', Ext F H F' H' → ∀ J, ItOk K J F' items → R J H'
abbrev ID (X : Cx) (tg iter : Expr) (it : DA) : Prop := PI X tg iter (tI X.K it)
section
variable {X : Cx} {tg e : Expr} {es : List Expr} {f : DE} {k : DA} {p pos tpos : Pos} {K : PySem.W.Frag} {F : Hp}
theorem piImp {tg iter : Expr} {t u : TI} (h : PI X tg iter t) (w : ∀ σ H R, u σ H R → t σ H R) : PI X tg iter u := ⟨fun pins s σ H R I q => h.run pins s σ H R I (w _ _ _ q)⟩
theorem piOr {tg iter : Expr} {t u : TI} (h : PI X tg iter t) (h' : PI X tg iter u) : PI X tg iter (fun σ H R => t σ H R ∨ u σ H R) := ⟨fun pins s σ H R I q => q.elim (h.run pins s σ H R I) (h'.run pins s σ H R I)⟩
theorem itOk_list {a : Addr} {xs : List V} {l : List D} (h : F a = some (.lst xs)) (r : RepL K F l xs) : ItOk K (Itl K a) F l where
  go := fun i H hi s => by
    obtain ⟨v, hv, _⟩ := r.get (List.getElem?_eq_getElem hi)
    exact ⟨xs, v, SqL.of (s _ _ h), hv⟩
  stop := fun i H hi s => have hi := Nat.le_of_eq hi; ⟨xs, SqL.of (s _ _ h), by rw [← r.length]; exact hi⟩
  yld := fun i H x H' hi s ⟨e, q⟩ => by
    obtain ⟨d, hd, rd⟩ := r.getV (q xs (SqL.of (s _ _ h)))
    rw [e]
    exact ⟨d, hd, fun F1 s1 s2 n => ⟨F1, Ext.refl s2 n, rd.mono s1⟩⟩
theorem itOk_tup {a : Addr} {xs : List V} {l : List D} (h : SqT K F a xs) (r : RepL K F l xs) : ItOk K (Itt K a) F l where
  go := fun i H hi s => by
    obtain ⟨v, hv, _⟩ := r.get (List.getElem?_eq_getElem hi)
    exact ⟨xs, v, Same.sqT s h, hv⟩
  stop := fun i H hi s => have hi := Nat.le_of_eq hi; ⟨xs, Same.sqT s h, by rw [← r.length]; exact hi⟩
  yld := fun i H x H' hi s ⟨e, q⟩ => by
    obtain ⟨d, hd, rd⟩ := r.getV (q xs (Same.sqT s h))
    rw [e]
    exact ⟨d, hd, fun F1 s1 s2 n => ⟨F1, Ext.refl s2 n, rd.mono s1⟩⟩
theorem itOk_range (lo : Int) (n : Nat) : ItOk K (Itr lo n) F ((List.range n).map fun i => .int (lo + (i : Nat))) where
  go := fun i H hi _ => by
    show i < n
    simpa using hi
  stop := fun i H hi _ => have hi := Nat.le_of_eq hi; by
    show n ≤ i
    simpa using hi
  yld := fun i H x H' hi _ ⟨e, q⟩ => by
    have hi' : i < n := by simpa using hi
    rw [e, q]
    refine ⟨.int (lo + (i : Nat)), ?_, fun F1 _ s2 n => ⟨F1, Ext.refl s2 n, .int _⟩⟩
    simp [hi']
@[simp] def enumFrom (n : Nat) : List D → List D
  | [] => []
  | d :: l => .tup [.int n, d] :: enumFrom (n + 1) l
theorem enumFrom_length : ∀ (n : Nat) (l : List D), (enumFrom n l).length = l.length
  | _, [] => rfl
  | n, _ :: l => by simp [enumFrom, enumFrom_length (n + 1) l]
theorem enumFrom_get : ∀ (n : Nat) (l : List D) (i : Nat) (d : D), l[i]? = some d → (enumFrom n l)[i]? = some (.tup [.int ((n + i : Nat) : Int), d])
  | _, [], _, _, h => by simp at h
  | n, x :: l, 0, d, h => by
    have e : x = d := by simpa using h
    subst e
    rfl
  | n, x :: l, i + 1, d, h => by
    have e := enumFrom_get (n + 1) l i d (by simpa using h)
    have e2 : n + 1 + i = n + (i + 1) := by omega
    rw [e2] at e
    simpa [enumFrom] using e
theorem itOk_enum {a : Addr} {xs : List V} {l : List D} (h : F a = some (.lst xs)) (r : RepL K F l xs) : ItOk K (Ite K a) F (enumFrom 0 l) where
  go := fun i H hi s => by
    rw [enumFrom_length] at hi
    obtain ⟨v, hv, _⟩ := r.get (List.getElem?_eq_getElem hi)
    exact ⟨xs, v, SqL.of (s _ _ h), hv⟩
  stop := fun i H hi s => have hi := Nat.le_of_eq hi; ⟨xs, SqL.of (s _ _ h), by rw [enumFrom_length] at hi; rw [← r.length]; exact hi⟩
  yld := fun i H v H' hi s ⟨T, x, e, hT, e', q⟩ => by
    obtain ⟨d, hd, rd⟩ := r.getV (q xs (SqL.of (s _ _ h)))
    rw [e, e']
    refine ⟨_, enumFrom_get 0 l i d hd, fun F1 s1 s2 n => ⟨upd F1 T (.tup [.int (i : Nat), x]), (Ext.refl s2 n).alloc hT trivial, ?_⟩⟩
    rw [Nat.zero_add]
    exact .tup (SqT.of upd_same) (.cons (.int _) (.one ((rd.mono s1).mono (same_alloc s2 hT))))
def zipD (l l' : List D) : List D := List.zipWith (fun x y => .tup [x, y]) l l'
theorem zipD_get {l l' : List D} {i : Nat} {x y : D} (h : l[i]? = some x) (h' : l'[i]? = some y) : (zipD l l')[i]? = some (.tup [x, y]) := by
  unfold zipD
  rw [List.getElem?_zipWith, h, h']
theorem itOk_zip {a b : Addr} {xs ys : List V} {l l' : List D} (h : F a = some (.lst xs)) (r : RepL K F l xs) (h' : F b = some (.lst ys)) (r' : RepL K F l' ys) : ItOk K (Itz K a b) F (zipD l l') where
  go := fun i H hi s => by
    have hi' : i < min l.length l'.length := by simpa [zipD] using hi
    obtain ⟨v, hv, _⟩ := r.get (List.getElem?_eq_getElem (show i < l.length by omega))
    obtain ⟨w, hw, _⟩ := r'.get (List.getElem?_eq_getElem (show i < l'.length by omega))
    exact ⟨xs, ys, v, w, SqL.of (s _ _ h), SqL.of (s _ _ h'), hv, hw⟩
  stop := fun i H hi s => have hi := Nat.le_of_eq hi; by
    have hi' : min l.length l'.length ≤ i := by simpa [zipD] using hi
    have e1 := r.length
    have e2 := r'.length
    exact ⟨xs, ys, SqL.of (s _ _ h), SqL.of (s _ _ h'), by omega⟩
  yld := fun i H v H' hi s ⟨T, x, y, e, hT, e', q, q'⟩ => by
    obtain ⟨d, hd, rd⟩ := r.getV (q xs (SqL.of (s _ _ h)))
    obtain ⟨d', hd', rd'⟩ := r'.getV (q' ys (SqL.of (s _ _ h')))
    rw [e, e']
    refine ⟨_, zipD_get hd hd', fun F1 s1 s2 n => ⟨upd F1 T (.tup [x, y]), (Ext.refl s2 n).alloc hT trivial, ?_⟩⟩
    exact .tup (SqT.of upd_same) (.cons ((rd.mono s1).mono (same_alloc s2 hT)) (.one ((rd'.mono s1).mono (same_alloc s2 hT))))
theorem itOk_zipT {a b : Addr} {xs ys : List V} {l l' : List D} (h : SqT K F a xs) (r : RepL K F l xs) (h' : SqT K F b ys) (r' : RepL K F l' ys) : ItOk K (RZ.ItzT K a b) F (zipD l l') where
  go := fun i H hi s => by
    have hi' : i < min l.length l'.length := by simpa [zipD] using hi
    obtain ⟨v, hv, _⟩ := r.get (List.getElem?_eq_getElem (show i < l.length by omega))
    obtain ⟨w, hw, _⟩ := r'.get (List.getElem?_eq_getElem (show i < l'.length by omega))
    exact ⟨xs, ys, v, w, Same.sqT s h, Same.sqT s h', hv, hw⟩
  stop := fun i H hi s => have hi := Nat.le_of_eq hi; by
    have hi' : min l.length l'.length ≤ i := by simpa [zipD] using hi
    have e1 := r.length
    have e2 := r'.length
    exact ⟨xs, ys, Same.sqT s h, Same.sqT s h', by omega⟩
  yld := fun i H v H' hi s ⟨T, x, y, e, hT, e', q, q'⟩ => by
    obtain ⟨d, hd, rd⟩ := r.getV (q xs (Same.sqT s h))
    obtain ⟨d', hd', rd'⟩ := r'.getV (q' ys (Same.sqT s h'))
    rw [e, e']
    refine ⟨_, zipD_get hd hd', fun F1 s1 s2 n => ⟨upd F1 T (.tup [x, y]), (Ext.refl s2 n).alloc hT trivial, ?_⟩⟩
    exact .tup (SqT.of upd_same) (.cons ((rd.mono s1).mono (same_alloc s2 hT)) (.one ((rd'.mono s1).mono (same_alloc s2 hT))))
/-- a list, a tuple -/
@[simp] def dSeq (f : DE) : DA := fun ρ P => (f ρ fun d => ∃ l, d = .lst l ∧ P l) ∨ (f ρ fun d => ∃ l, d = .tup l ∧ P l)
theorem id_seq (h : ED X e f) : ID X tg e (dSeq f) := piImp (piOr (pi_list h) (pi_tup h)) fun σ H R ⟨F0, B, F, ρ, P, S, q, fin⟩ => by
  rcases q with q | q
  · refine .inl ⟨F0, B, F, ρ, _, S, q, fun d ⟨l, e, p⟩ v F1 H1 E1 r1 => ?_⟩
    subst e
    cases r1 with
    | @lst a xs _ h1 q1 => exact ⟨a, rfl, ⟨xs, SqL.of (E1.fh _ _ h1)⟩, fin l p F1 H1 E1 _ (itOk_list h1 q1)⟩
  · refine .inr ⟨F0, B, F, ρ, _, S, q, fun d ⟨l, e, p⟩ v F1 H1 E1 r1 => ?_⟩
    subst e
    cases r1 with
    | @tup a xs _ h1 q1 => exact ⟨a, rfl, ⟨xs, Same.sqT E1.fh h1⟩, fin l p F1 H1 E1 _ (itOk_tup h1 q1)⟩
@[simp] def dRng1 (k : DA) : DA := fun ρ P => k ρ fun ds => ∃ n : Int, ds = [.int n] ∧ -1000000 ≤ n ∧ n ≤ 1000000 ∧ P ((List.range n.toNat).map fun (i : Nat) => .int i)
theorem id_range1 {a : Expr} (ha : AD X [a] k) (hm : X.mg "range" = none) (hg : Gl X "range" := by rfl) (hs : starEach [a] X.env = [(false, eval a X.env)] := by rfl) : ID X tg (.Call (.Name "range" p) [a] [] pos) (dRng1 k) :=
  piImp (pi_range1 hg hm ha hs) fun σ H R ⟨F0, B, F, ρ, P, S, q, fin⟩ => ⟨F0, B, F, ρ, _, S, q, fun ds ⟨n, e, h0, h1, pp⟩ vs F1 H1 E1 r1 => by
    subst e
    cases r1 with
    | cons a b =>
      cases b
      cases a
      refine ⟨n, rfl, by omega, by omega, fin _ pp F1 H1 E1 _ ?_⟩
      have := itOk_range (K := X.K) (F := F1) 0 n.toNat
      simpa using this⟩
@[simp] def dRng2 (k : DA) : DA := fun ρ P => k ρ fun ds => ∃ a b : Int, ds = [.int a, .int b] ∧ -1000000 ≤ a ∧ a ≤ 1000000 ∧ -1000000 ≤ b ∧ b ≤ 1000000 ∧ P ((List.range (b - a).toNat).map fun (i : Nat) => .int (a + i))
theorem id_range2 {a b : Expr} (ha : AD X [a, b] k) (hm : X.mg "range" = none) (hg : Gl X "range" := by rfl) (hs : starEach [a, b] X.env = [(false, eval a X.env), (false, eval b X.env)] := by rfl) (hs2 : starEach [b] X.env = [(false, eval b X.env)] := by rfl) :
    ID X tg (.Call (.Name "range" p) [a, b] [] pos) (dRng2 k) :=
  piImp (pi_range2 hg hm ha hs hs2) fun σ H R ⟨F0, B, F, ρ, P, S, q, fin⟩ => ⟨F0, B, F, ρ, _, S, q, fun ds ⟨a, b, e, h0, h1, h2, h3, pp⟩ vs F1 H1 E1 r1 => by
    subst e
    cases r1 with
    | cons a b =>
      cases b with
      | cons b c =>
        cases c
        cases a
        cases b
        exact ⟨_, _, rfl, ⟨by omega, by omega, by omega, by omega⟩, fin _ pp F1 H1 E1 _ (itOk_range _ _)⟩⟩
@[simp] def dEnum (k : DA) : DA := fun ρ P => k ρ fun ds => ∃ l, ds = [.lst l] ∧ P (enumFrom 0 l)
theorem id_enum {elts : List Expr} {kk : Nat} (ha : AD X [e] k) (hm : X.mg "enumerate" = none) (hg : Gl X "enumerate" := by rfl) (hs : starEach [e] X.env = [(false, eval e X.env)] := by rfl) : ID X (.Tuple elts kk tpos) (.Call (.Name "enumerate" p) [e] [] pos) (dEnum k) :=
  piImp (pi_enum hg hm ha hs) fun σ H R ⟨F0, B, F, ρ, P, S, q, fin⟩ => ⟨F0, B, F, ρ, _, S, q, fun ds ⟨l, e, pp⟩ vs F1 H1 E1 r1 => by
    subst e
    cases r1 with
    | cons a b =>
      cases b
      cases a with
      | @lst a xs _ h1 q1 => exact ⟨a, xs, rfl, SqL.of (E1.fh _ _ h1), fin _ pp F1 H1 E1 _ (itOk_enum h1 q1)⟩⟩
@[simp] def dZip (k : DA) : DA := fun ρ P => k ρ fun ds => ∃ l l', (ds = [.lst l, .lst l'] ∨ ds = [.tup l, .tup l']) ∧ P (zipD l l')
theorem id_zip {e2 : Expr} {elts : List Expr} {kk : Nat} (ha : AD X [e, e2] k) (hm : X.mg "zip" = none) (hg : Gl X "zip" := by rfl) (hs : starEach [e, e2] X.env = (false, eval e X.env) :: starEach [e2] X.env := by rfl) (hpl : (backTo pos (starEach [e2] X.env)).any (·.1) = false := by rfl) :
    ID X (.Tuple elts kk tpos) (.Call (.Name "zip" p) [e, e2] [] pos) (dZip k) :=
  piImp (RZ.pi_zipA hg hm ha hs hpl) fun σ H R ⟨F0, B, F, ρ, P, S, q, fin⟩ => ⟨F0, B, F, ρ, _, S, q, fun ds ⟨l, l', e, pp⟩ vs F1 H1 E1 r1 => by
    rcases e with e | e
    · subst e
      cases r1 with
      | cons a b =>
        cases b with
        | cons b c =>
          cases c
          cases a with
          | @lst a xs _ h1 q1 =>
            cases b with
            | @lst b ys _ h2 q2 => exact ⟨a, b, xs, ys, rfl, .inl ⟨SqL.of (E1.fh _ _ h1), SqL.of (E1.fh _ _ h2), fin _ pp F1 H1 E1 _ (itOk_zip h1 q1 h2 q2)⟩⟩
    · subst e
      cases r1 with
      | cons a b =>
        cases b with
        | cons b c =>
          cases c
          cases a with
          | @tup a xs _ h1 q1 =>
            cases b with
            | @tup b ys _ h2 q2 => exact ⟨a, b, xs, ys, rfl, .inr ⟨Same.sqT E1.fh h1, Same.sqT E1.fh h2, fin _ pp F1 H1 E1 _ (itOk_zipT h1 q1 h2 q2)⟩⟩⟩
end

/-! ### targets -/
abbrev DG := D → List Sl → (List Sl → Prop) → Prop
abbrev DGs := List D → List Sl → (List Sl → Prop) → Prop
/-- only the slots bs are changed -/
def Only (bs : List Nat) (σ σ' : St) : Prop := σ'.length = σ.length ∧ ∀ i, i ∉ bs → σ'[i]? = σ[i]?
theorem Only.refl (bs : List Nat) (σ : St) : Only bs σ σ := ⟨rfl, fun _ _ => rfl⟩
theorem Only.trans {bs cs : List Nat} {σ σ1 σ2 : St} (a : Only bs σ σ1) (b : Only cs σ1 σ2) : Only (bs ++ cs) σ σ2 :=
  ⟨b.1.trans a.1, fun i hi => (b.2 i fun z => hi (List.mem_append_right _ z)).trans (a.2 i fun z => hi (List.mem_append_left _ z))⟩
theorem Only.set (σ : St) (i : Nat) (o : Option V) : Only [i] σ (σ.set i o) := ⟨by simp, fun j hj => by
  rw [List.getElem?_set_ne]
  intro z
  exact hj (by simp [z])⟩
theorem wipe_get {σ : St} : ∀ {vs : List Nat} (i : Nat), (wipe σ vs)[i]? = if i ∈ vs ∧ i < σ.length then some none else σ[i]?
  | [], i => by simp [wipe]
  | v :: vs, i => by
    have ih := wipe_get (σ := σ) (vs := vs) i
    unfold wipe
    by_cases hv : v = i
    · subst hv
      by_cases hl : v < σ.length
      · rw [List.getElem?_set_self (by rw [wipe_length]; exact hl), if_pos ⟨by simp, hl⟩]
      · rw [List.getElem?_eq_none (by simp [wipe_length]; omega), if_neg (fun z => hl z.2), List.getElem?_eq_none (by omega)]
    · rw [List.getElem?_set_ne hv, ih]
      have hv2 : ¬ i = v := fun z => hv z.symm
      simp [hv2]
theorem Only.wipe {vs : List Nat} {σ σ' : St} (h : Only vs (L2.wipe σ vs) σ') : L2.wipe σ' vs = L2.wipe σ vs := by
  apply List.ext_getElem?
  intro i
  have hl : σ'.length = σ.length := by rw [h.1, wipe_length]
  rw [wipe_get, wipe_get, hl]
  by_cases hi : i ∈ vs
  · by_cases hl2 : i < σ.length
    · rw [if_pos ⟨hi, hl2⟩]
      simp [hi, hl2]
    · rw [if_neg (fun z => hl2 z.2), if_neg (fun z => hl2 z.2), List.getElem?_eq_none (by omega), List.getElem?_eq_none (by omega)]
  · rw [if_neg (fun z => hi z.1), if_neg (fun z => hi z.1), h.2 i hi, wipe_get, if_neg (fun z => hi z.1)]
def tG (K : PySem.W.Frag) (bs : List Nat) (g : DG) : TG := fun v σ H Q => ∃ (F0 B F : Hp) (ρ : List Sl) (d : D) (P : List Sl → Prop), StR K F0 B F ρ σ H ∧ Rep K F d v ∧ g d ρ P ∧ ∀ ρ', P ρ' → ∀ σ', StR K F0 B F ρ' σ' H → Only bs σ σ' → Q σ' H
def tGs (K : PySem.W.Frag) (bs : List Nat) (g : DGs) : TGs := fun vs σ H Q => ∃ (F0 B F : Hp) (ρ : List Sl) (ds : List D) (P : List Sl → Prop), StR K F0 B F ρ σ H ∧ RepL K F ds vs ∧ g ds ρ P ∧ ∀ ρ', P ρ' → ∀ σ', StR K F0 B F ρ' σ' H → Only bs σ σ' → Q σ' H
abbrev GD (X : Cx) (tg : Expr) (bs : List Nat) (g : DG) : Prop := PG X tg (tG X.K bs g)
abbrev GsD (X : Cx) (ts : List Expr) (bs : List Nat) (g : DGs) : Prop := PGs X ts (tGs X.K bs g)
section
variable {X : Cx} {pos : Pos}
theorem pgImp {tg : Expr} {t u : TG} (h : PG X tg t) (w : ∀ v σ H Q, u v σ H Q → t v σ H Q) : PG X tg u := ⟨fun pins s σ H v uu Q I r q => h.run pins s σ H v uu Q I r (w _ _ _ _ q)⟩
theorem pgsImp {tg : List Expr} {t u : TGs} (h : PGs X tg t) (w : ∀ v σ H Q, u v σ H Q → t v σ H Q) : PGs X tg u := ⟨fun pins s σ H v uu Q I r q => h.run pins s σ H v uu Q I r (w _ _ _ _ q)⟩
@[simp] def gdName (i : Nat) : DG := fun d ρ P => P (ρ.set i (.d d))
theorem gd_name (i : Nat) {x : Str} (hN : X.N.Nodup) (hi : X.N[i]? = some x := by rfl) (hx : Loc X.env.scope x := by first | exact .inl rfl | exact .inr rfl) (hf : X.fn x = true ∨ X.env.scope.names.lookup x = some .local := by first | exact .inl rfl | exact .inr rfl) : GD X (.Name x pos) [i] (gdName i) :=
  pgImp (pg_name hN hi hx hf) fun v σ H Q ⟨F0, B, F, ρ, d, P, S, r, q, fin⟩ => fin _ q _ (S.set i r) (Only.set σ i _)
@[simp] def gdNil : DGs := fun ds ρ P => ds = [] ∧ P ρ
@[simp] def gdCons (g : DG) (h : DGs) : DGs := fun ds ρ P => ∃ d r, ds = d :: r ∧ g d ρ fun ρ' => h r ρ' P
theorem gsd_nil : GsD X [] [] gdNil := pgsImp pgs_nil fun vs σ H Q ⟨F0, B, F, ρ, ds, P, S, r, ⟨e, q⟩, fin⟩ => by
  subst e
  cases r
  exact ⟨rfl, fin _ q _ S (Only.refl _ _)⟩
theorem gsd_cons {e : Expr} {es : List Expr} {bs cs : List Nat} {g : DG} {h : DGs} (h1 : GD X e bs g) (h2 : GsD X es cs h) (hs : (assignEach (e :: es) X.env).map (·.2) = assign e X.env :: (assignEach es X.env).map (·.2) := by rfl) : GsD X (e :: es) (bs ++ cs) (gdCons g h) :=
  pgsImp (pgs_cons h1 h2 hs) fun vs σ H Q ⟨F0, B, F, ρ, ds, P, S, r, ⟨d, rest, e, q⟩, fin⟩ => by
    subst e
    cases r with
    | @cons _ v _ xs r1 rr => exact ⟨v, xs, rfl, F0, B, F, ρ, d, _, S, r1, q, fun ρ1 q1 σ1 S1 o1 => ⟨F0, B, F, ρ1, rest, _, S1, rr, q1, fun ρ2 q2 σ2 S2 o2 => fin _ q2 _ S2 (o1.trans o2)⟩⟩
@[simp] def gdTup (n : Nat) (h : DGs) : DG := fun d ρ P => ∃ l, d = .tup l ∧ l.length = n ∧ h l ρ P
theorem gd_tup {es : List Expr} {k : Nat} {bs : List Nat} {h : DGs} (n : Nat) (hc : X.calm = true) (hh : GsD X es bs h) (hn : (assignEach es X.env).length = n := by rfl) (hst : (assignEach es X.env).findIdx? (·.1) = none := by rfl) : GD X (.Tuple es k pos) bs (gdTup n h) :=
  pgImp (pg_tup hc hh hn hst) fun v σ H Q ⟨F0, B, F, ρ, d, P, S, r, ⟨l, e, hl, q⟩, fin⟩ => by
    subst e
    cases r with
    | @tup a xs _ h1 q1 => exact ⟨a, xs, rfl, Same.sqT S.fh h1, by rw [← q1.length]; exact hl, F0, B, F, ρ, l, P, S, q1, q, fin⟩
end

/-! ### fresh lists; comprehensions -/
def tLf (K : PySem.W.Frag) (f : DA) : TE := fun σ H Q => ∃ (F0 B F : Hp) (ρ : List Sl) (P : List D → Prop), StR K F0 B F ρ σ H ∧ f ρ P ∧
  ∀ l, P l → ∀ vs F' H' p, Ext F H F' H' → H' p = some (.lst vs) → F' p = none → H p = none → RepL K F' l vs → Q (.ref p) H'
abbrev LD (X : Cx) (e : Expr) (f : DA) : Prop := PE X e (tLf X.K f)
@[simp] def dFz (f : DA) : DE := fun ρ P => f ρ fun l => P (.lst l)
/-- the slots of the block's own names forgotten -/
@[simp] def wipeS (ρ : List Sl) : List Nat → List Sl
  | [] => ρ
  | v :: vs => (wipeS ρ vs).set v .no
/-- the turns of a comprehension: I of the items that are left and of what is made -/
def lcI (g : DG) (tt : DT) (te : DE) (ρ : List Sl) (items : List D) (P : List D → Prop) : Prop :=
  ∃ I : List D → List D → Prop, I items [] ∧ (∀ x xs acc, I (x :: xs) acc → g x ρ fun ρ2 => tt ρ2 fun b => if b = true then te ρ2 fun y => I xs (acc ++ [y]) else I xs acc) ∧ ∀ acc, I [] acc → P acc
@[simp] def dLc (it : DA) (g : DG) (tt : DT) (te : DE) (vs : List Nat) : DA := fun ρ P => it ρ fun items => items.length ≤ 1000000 ∧ lcI g tt te (wipeS ρ vs) items P
@[simp] def dYes : DT := fun _ P => P true
@[simp] def dLstL (k : DA) : DA := fun ρ P => k ρ fun xs => xs.length ≤ 1000000 ∧ P xs
@[simp] def dRepL (f g : DE) : DA := fun ρ P => f ρ fun x => g ρ fun y => ∃ l k, x = .lst l ∧ y = .int k ∧ 0 ≤ k ∧ k ≤ 1000000 ∧ l.length * k.toNat ≤ 1000000 ∧ P (List.replicate k.toNat l).flatten
section
variable {X : Cx} {pos : Pos}
theorem ed_fresh {e : Expr} {f : DA} (h : LD X e f) : ED X e (dFz f) := peImp h fun σ H Q ⟨F0, B, F, ρ, P, S, q, fin⟩ =>
  ⟨F0, B, F, ρ, _, S, q, fun l hl vs F' H' p E h1 h2 h3 r => by
    have sm : Same F' (upd F' p (.lst vs)) := fun b u w => by rw [upd_ne (ne_of_none w h2)]; exact w
    exact fin _ hl (.ref p) (upd F' p (.lst vs)) H' (E.freeze h1 trivial h2 h3) (.lst upd_same (r.mono sm))⟩
theorem ld_lst {es : List Expr} {k : DA} (h : AD X es k) : LD X (.List es pos) (dLstL k) := peImp (pe_lst h) fun σ H Q ⟨F0, B, F, ρ, P, S, q, fin⟩ =>
  ⟨F0, B, F, ρ, _, S, q, fun xs ⟨hl, hx⟩ vs F1 H1 E1 r1 => ⟨by rw [← r1.length]; exact le_line hl, fun p hp => fin xs hx vs F1 (upd H1 p (.lst vs)) p (E1.allocH hp trivial) upd_same (E1.fh.free hp) (E1.bh.none hp) r1⟩⟩
theorem ld_rep {a b : Expr} {f g : DE} (ha : ED X a f) (hb : ED X b g) : LD X (.BinOp a .Mult b pos) (dRepL f g) :=
  peImp (pe_op op_rep ha hb) fun σ H Q ⟨F0, B, F, ρ, P, S, q, fin⟩ =>
    ⟨F0, B, F, ρ, _, S, q, fun x hx vx F1 H1 E1 r1 => ⟨F0, B, F1, ρ, _, S.step E1, hx, fun y ⟨l, k, e1, e2, h0, h9, hl, hp⟩ vy F2 H2 E2 r2 => by
      subst e1 e2
      cases r2
      cases r1 with
      | @lst a xs _ h1 q1 =>
        have E12 := E1.trans E2
        exact ⟨a, k, xs, rfl, rfl, E2.fh _ _ (E2.ff _ _ h1), by omega, by omega, by rw [← q1.length]; exact le_line hl, fun p hp' =>
          fin _ hp _ F2 (upd H2 p _) p (E12.allocH hp' trivial) upd_same (E12.fh.free hp') (E12.bh.none hp') ((q1.mono E2.ff).flat _)⟩⟩⟩
theorem ptsImp {ifs : List Expr} {t u : TT} (h : PTs X ifs t) (w : ∀ σ H Q, u σ H Q → t σ H Q) : PTs X ifs u := by
  obtain ⟨run⟩ := h
  constructor
  intros
  rename_i I q
  exact run _ _ _ _ _ I (w _ _ _ q)
theorem tsd_nil : PTs X [] (tT X.K dYes) := ptsImp pts_nil fun σ H Q ⟨F0, B, F, ρ, P, S, q, fin⟩ => fin true q F H S.selfExt
theorem tsd_one {c : Expr} {t : DT} (h : TD X c t) : PTs X [c] (tT X.K t) := pts_one h
theorem StR.wipe {K : PySem.W.Frag} {F0 B F H : Hp} {ρ : List Sl} {σ : St} (S : StR K F0 B F ρ σ H) : ∀ vs : List Nat, StR K F0 B F (wipeS ρ vs) (L2.wipe σ vs) H
  | [] => S
  | v :: vs => (StR.wipe S vs).drop v none
theorem lc_turns {K : PySem.W.Frag} {g : DG} {tt : DT} {te : DE} {vs : List Nat} {σ : St} {F0 B F1 H1 : Hp} {ρ : List Sl} {items : List D} {J : It} {P : List D → Prop} {Q : Hp → Prop} {Dd : Addr} (S : StR K F0 B F1 ρ σ H1) (hD : H1 Dd = none) (hl : items.length ≤ 1000000) (ok : ItOk K J F1 items)
    (q : lcI g tt te (wipeS ρ vs) items P) (fin : ∀ l, P l → ∀ xs F' H', Ext F1 H1 F' H' → H' Dd = some (.lst xs) → F' Dd = none → RepL K F' l xs → Q H') :
    ∃ W : Nat → Nat → Hp → Prop, (∃ m, W 0 m (upd H1 Dd (.lst []))) ∧ ∀ i m H, W i m H →
      (J.stop i H ∧ Q H) ∨ (J.go i H ∧ ∃ Nx : Hp → Prop, (∀ H', Nx H' → ∃ m', m' < m ∧ W (i + 1) m' H') ∧ ∀ x H', J.yld i H x H' → tG K vs g x (L2.wipe σ vs) H' fun σ2 H2 => L2.wipe σ2 vs = L2.wipe σ vs ∧ tT K tt σ2 H2 fun b H3 =>
        if b = true then tE K te σ2 H3 fun y H4 => ∃ acc, H4 Dd = some (.lst acc) ∧ acc.length < sizeLine ∧ Nx (upd H4 Dd (.lst (acc ++ [y]))) else Nx H3) := by
  obtain ⟨I, q0, qs, qd⟩ := q
  refine ⟨fun i m H => m = items.length - i ∧ i ≤ items.length ∧ ∃ F' acc xs, Ext F1 H1 F' H ∧ H Dd = some (.lst xs) ∧ F' Dd = none ∧ RepL K F' acc xs ∧ acc.length ≤ i ∧ I (items.drop i) acc,
    ⟨items.length, by simp, Nat.zero_le _, F1, [], [], S.selfExt.allocH hD trivial, upd_same, S.fh.free hD, .nil, Nat.le_refl _, by simpa using q0⟩, ?_⟩
  rintro i m H ⟨rfl, hi, F', acc, xs, E, hx, hF, r, hacc, w⟩
  by_cases hlt : i < items.length
  · refine .inr ⟨ok.go i H hlt (E.ff.trans E.fh), fun H2 => ∃ F' acc xs, Ext F1 H1 F' H2 ∧ H2 Dd = some (.lst xs) ∧ F' Dd = none ∧ RepL K F' acc xs ∧ acc.length ≤ i + 1 ∧ I (items.drop (i + 1)) acc,
      fun H' h' => ⟨items.length - (i + 1), by omega, rfl, hlt, h'⟩, fun x H' hy => ?_⟩
    obtain ⟨d, hd, up⟩ := ok.yld i H x H' hlt (E.ff.trans E.fh) hy
    obtain ⟨F2, E2, r2⟩ := up F' E.ff E.fh E.nt
    have hdrop : items.drop i = d :: items.drop (i + 1) := by
      have h3 := List.drop_eq_getElem_cons hlt
      rw [List.getElem?_eq_getElem hlt] at hd
      cases hd
      exact h3
    rw [hdrop] at w
    have S2 : StR K F0 B F2 ρ σ H' := (S.step E).step E2
    have hx2 : H' Dd = some (.lst xs) := E2.bh.ordi hx fun _ z => by cases z
    have hF2 : F2 Dd = none := E2.fr _ _ hF hx (fun _ z => nomatch z)
    refine ⟨F0, B, F2, wipeS ρ vs, d, _, S2.wipe vs, r2, qs _ _ _ w, fun ρ2 q2 σ2 S3 on => ⟨on.wipe, F0, B, F2, ρ2, _, S3, q2, fun b hb F3 H3 E3 => ?_⟩⟩
    have hx3 : H3 Dd = some (.lst xs) := E3.bh.ordi hx2 fun _ z => by cases z
    have hF3 : F3 Dd = none := E3.fr _ _ hF2 hx2 (fun _ z => nomatch z)
    cases b with
    | true =>
      refine iteT ⟨F0, B, F3, ρ2, _, S3.step E3, hb, fun y hy v F4 H4 E4 r4 => ?_⟩
      have hx4 : H4 Dd = some (.lst xs) := E4.bh.ordi hx3 fun _ z => by cases z
      have hF4 : F4 Dd = none := E4.fr _ _ hF3 hx3 (fun _ z => nomatch z)
      have ra := (((r.mono E2.ff).mono E3.ff).mono E4.ff)
      have EE := E.trans (E2.trans (E3.trans E4))
      refine ⟨xs, hx4, smallM (by rw [← ra.length]; omega), F4, acc ++ [y], xs ++ [v], EE.own hx4 trivial trivial hF4 hD, upd_same, hF4, ra.append (.one r4), ?_, hy⟩
      simp
      exact hacc
    | false => exact iteF ⟨F3, acc, xs, E.trans (E2.trans E3), hx3, hF3, (r.mono E2.ff).mono E3.ff, by omega, hb⟩
  · have e : i = items.length := by omega
    subst e
    rw [List.drop_length] at w
    exact .inl ⟨ok.stop _ H rfl (E.ff.trans E.fh), fin acc (qd acc w) xs F' H E hx hF r⟩
theorem toLc {it : DA} {g : DG} {tt : DT} {te : DE} {vs : List Nat} : ∀ σ H Q, tLf X.K (dLc it g tt te vs) σ H Q → tLc (tI X.K it) (tG X.K vs g) (tT X.K tt) (tE X.K te) vs σ H Q := fun σ H Q ⟨F0, B, F, ρ, P, S, q, fin⟩ =>
  ⟨F0, B, F, ρ, _, S, q, fun items ⟨hl, w⟩ F1 H1 E1 J ok Dd hD => lc_turns (S.step E1) hD hl ok w fun l hl xs F' H' E h1 h2 r => fin l hl xs F' H' Dd (E1.trans E) h1 h2 (E1.bh.none hD) r⟩
theorem ld_lc {elt tg iter : Expr} {ifs : List Expr} {scope : Scope} {own : List (Str × Nat)} {it : DA} {g : DG} {tt : DT} {te : DE} (hc : X.calm = true) (hN : X.N.Nodup) (hi : ID X tg iter it) (ok : BlkOk X.N X.env.scope scope own)
    (hg : ∀ (s : Shared) (H : Hp) (C : Addr) (cl : List (Str × Addr)) (fp : List Addr), GD (X.blk s H scope (compEnvC scope cl C X.env) fp) tg (own.map (·.2)) g)
    (ht : ∀ (s : Shared) (H : Hp) (C : Addr) (cl : List (Str × Addr)) (fp : List Addr), PTs (X.blk s H scope (compEnvC scope cl C X.env) fp) ifs (tT X.K tt))
    (he : ∀ (s : Shared) (H : Hp) (C : Addr) (cl : List (Str × Addr)) (fp : List Addr), ED (X.blk s H scope (compEnvC scope cl C X.env) fp) elt te) (hs : ∀ x, foldedSetIterable iter X.env x = pure x := by intro _; rfl) :
    LD X (.ListComp elt [⟨tg, iter, ifs, 0⟩] scope pos) (dLc it g tt te (own.map (·.2))) := peImp (pe_lc hc hN hi ok hg ht he hs) toLc
end

/-! ### statements -/
structure DEnds where
  nx : List Sl → Prop
  rt : D → Prop
  rs : List Sl → D → Prop := fun _ d => rt d
  bk : List Sl → Prop := fun _ => False
  ct : List Sl → Prop := fun _ => False
  xx : Addr → Prop := fun _ => False
abbrev DS := DEnds → List Sl → Prop
structure Get (K : PySem.W.Frag) (E : XK) (F0 B F : Hp) (G : DEnds) (T : Ends) : Prop where
  nx : ∀ ρ' F' σ' H', G.nx ρ' → Same F F' → StR K F0 B F' ρ' σ' H' → T.nx σ' H'
  bk : ∀ ρ' F' σ' H', G.bk ρ' → Same F F' → StR K F0 B F' ρ' σ' H' → T.bk σ' H'
  ct : ∀ ρ' F' σ' H', G.ct ρ' → Same F F' → StR K F0 B F' ρ' σ' H' → T.ct σ' H'
  rs : ∀ ρ' d v F' σ' H', G.rs ρ' d → StR K F0 B F' ρ' σ' H' → Rep K F' d v → T.rt v H'
  xx : ∀ c F' H', G.xx c → Ext F0 B F' H' → E (.ref c) none H'
theorem Get.later {K : PySem.W.Frag} {E : XK} {F0 B F F2 : Hp} {G : DEnds} {T : Ends} (g : Get K E F0 B F G T) (s : Same F F2) : Get K E F0 B F2 G T :=
  ⟨fun ρ F' σ H q z => g.nx ρ F' σ H q (s.trans z), fun ρ F' σ H q z => g.bk ρ F' σ H q (s.trans z), fun ρ F' σ H q z => g.ct ρ F' σ H q (s.trans z), g.rs, g.xx⟩
def tS (K : PySem.W.Frag) (E : XK) (g : DS) : TS := fun T σ H => ∃ (F0 B F : Hp) (ρ : List Sl) (G : DEnds), StR K F0 B F ρ σ H ∧ g G ρ ∧ Get K E F0 B F G T
abbrev SD (X : Cx) (E : XK) (st : Stmt) (g : DS) : Prop := PS X st (tS X.K E g)
abbrev SsD (X : Cx) (E : XK) (sts : List Stmt) (g : DS) : Prop := PSs X sts (tS X.K E g)
section
variable {X : Cx} {E : XK} {st : Stmt} {rest : List Stmt} {g h : DS} {pos : Pos} {e : Expr} {f : DE}
@[simp] def dSkip : DS := fun G ρ => G.nx ρ
@[simp] def dSeq2 (g h : DS) : DS := fun G ρ => g { G with nx := h G } ρ
theorem sd_nil : SsD X E [] dSkip := pssImp pss_nil fun T σ H ⟨F0, B, F, ρ, G, S, q, k⟩ => k.nx ρ F σ H q (Same.refl F) S
theorem sd_cons (h1 : SD X E st g) (h2 : SsD X E rest h) : SsD X E (st :: rest) (dSeq2 g h) := pssImp (pss_cons h1 h2) fun T σ H ⟨F0, B, F, ρ, G, S, q, k⟩ =>
  ⟨F0, B, F, ρ, _, S, q, ⟨fun ρ' F' σ' H' q' z S' => ⟨F0, B, F', ρ', G, S', q', k.later z⟩, k.bk, k.ct, k.rs, k.xx⟩⟩
theorem sd_one (h1 : SD X E st g) : SsD X E [st] g := pss_one h1
theorem sd_pass : SD X E (.Pass pos) dSkip := psImp ps_pass fun T σ H ⟨F0, B, F, ρ, G, S, q, k⟩ => k.nx ρ F σ H q (Same.refl F) S
@[simp] def dRet (f : DE) : DS := fun G ρ => f ρ (G.rs ρ)
theorem sd_ret (he : ED X e f) : SD X E (.Return (some e) pos) (dRet f) := psImp (ps_ret he) fun T σ H ⟨F0, B, F, ρ, G, S, q, k⟩ =>
  ⟨F0, B, F, ρ, _, S, q, fun d hd v F' H' E' r => k.rs ρ d v F' σ H' hd (S.step E') r⟩
@[simp] def dSet (i : Nat) (f : DE) : DS := fun G ρ => f ρ fun d => G.nx (ρ.set i (.d d))
theorem sd_set (i : Nat) {x : Str} {pos' : Pos} (hN : X.N.Nodup) (he : ED X e f) (hi : X.N[i]? = some x := by rfl) (hx : Loc X.env.scope x := by first | exact .inl rfl | exact .inr rfl) (hs : swapsWith e (some (.Name x pos')) pos.line X.env = pure false := by rfl)
    (hf : X.fn x = true ∨ X.env.scope.names.lookup x = some .local := by first | exact .inl rfl | exact .inr rfl) : SD X E (.Assign [.Name x pos'] e pos) (dSet i f) := psImp (ps_set hN hi hx he hs hf) fun T σ H ⟨F0, B, F, ρ, G, S, q, k⟩ =>
  ⟨F0, B, F, ρ, _, S, q, fun d hd v F' H' E' r => k.nx _ F' _ H' hd E'.ff ((S.step E').set i r)⟩
/-- a new list of one's own -/
@[simp] def dSetL (i : Nat) (f : DA) : DS := fun G ρ => f ρ fun l => G.nx (ρ.set i (.own (.lst l)))
theorem sd_setL (i : Nat) {x : Str} {pos' : Pos} {f : DA} (hN : X.N.Nodup) (he : LD X e f) (hi : X.N[i]? = some x := by rfl) (hx : Loc X.env.scope x := by first | exact .inl rfl | exact .inr rfl) (hs : swapsWith e (some (.Name x pos')) pos.line X.env = pure false := by rfl)
    (hf : X.fn x = true ∨ X.env.scope.names.lookup x = some .local := by first | exact .inl rfl | exact .inr rfl) : SD X E (.Assign [.Name x pos'] e pos) (dSetL i f) := psImp (ps_set hN hi hx he hs hf) fun T σ H ⟨F0, B, F, ρ, G, S, q, k⟩ =>
  ⟨F0, B, F, ρ, _, S, q, fun l hl vs F' H' p E' h1 h2 h3 r => k.nx _ F' _ H' hl E'.ff (S.setNew i E' (show ORep X.K F' H' (.lst l) p [p] from ⟨rfl, vs, h1, r⟩) fun b hb => by rw [List.mem_singleton.mp hb]; exact ⟨h2, h3⟩)⟩
/-- name = [..] on one line -/
theorem sd_setLc (i : Nat) {x : Str} {py : Pos} {elt tg iter : Expr} {ifs : List Expr} {scope : Scope} {own : List (Str × Nat)} {spos : Pos} {it : DA} {gg : DG} {tt : DT} {te : DE} (hc : X.calm = true) (hN : X.N.Nodup) (hyl : X.env.scope.names.lookup x = some .local)
    (hsw : swapsWith (.ListComp elt [⟨tg, iter, ifs, 0⟩] scope pos) (some (.Name x py)) spos.line X.env = pure true) (hi : ID X tg iter it) (ok : BlkOk X.N X.env.scope scope own)
    (hg : ∀ (s : Shared) (H : Hp) (C : Addr) (cl : List (Str × Addr)) (fp : List Addr), GD (X.blk s H scope (compEnvC scope cl C X.env) fp) tg (own.map (·.2)) gg)
    (ht : ∀ (s : Shared) (H : Hp) (C : Addr) (cl : List (Str × Addr)) (fp : List Addr), PTs (X.blk s H scope (compEnvC scope cl C X.env) fp) ifs (tT X.K tt))
    (he : ∀ (s : Shared) (H : Hp) (C : Addr) (cl : List (Str × Addr)) (fp : List Addr), ED (X.blk s H scope (compEnvC scope cl C X.env) fp) elt te) (hy : X.N[i]? = some x := by rfl) (hs : ∀ x, foldedSetIterable iter X.env x = pure x := by intro _; rfl) :
    SD X E (.Assign [.Name x py] (.ListComp elt [⟨tg, iter, ifs, 0⟩] scope pos) spos) (dSet i (dFz (dLc it gg tt te (own.map (·.2))))) :=
  psImp (ps_setLc hc hN hy hyl hsw hi ok hg ht he hs) fun T σ H ⟨F0, B, F, ρ, G, S, q, k⟩ =>
    toLc σ H _ ⟨F0, B, F, ρ, _, S, q, fun l hl vs F' H' p E' h1 h2 h3 r => by
      have sm : Same F' (upd F' p (.lst vs)) := fun b u w => by rw [upd_ne (ne_of_none w h2)]; exact w
      have EE := E'.freeze (p := p) h1 trivial h2 h3
      exact k.nx _ _ _ H' hl EE.ff ((S.step EE).set i (.lst upd_same (r.mono sm)))⟩
@[simp] def dUnp (gg : DG) (f : DE) : DS := fun G ρ => f ρ fun d => gg d ρ G.nx
theorem sd_asg {tg : Expr} {bs : List Nat} {gg : DG} (he : ED X e f) (hg : GD X tg bs gg) (hs : swapsWithSole [tg] e pos.line X.env = pure false := by rfl) (hw : swappedStores [tg] e X.env = pure none := by rfl)
    (h1 : (assignEach [tg] X.env).map (·.2) = [assign tg X.env] := by rfl) : SD X E (.Assign [tg] e pos) (dUnp gg f) := psImp (ps_asg he hg hs hw h1) fun T σ H ⟨F0, B, F, ρ, G, S, q, k⟩ =>
  ⟨F0, B, F, ρ, _, S, q, fun d hd v F' H' E' r => ⟨F0, B, F', ρ, d, _, S.step E', r, hd, fun ρ' p σ' S' _ => k.nx ρ' F' σ' H' p E'.ff S'⟩⟩
@[simp] def dPar (i j : Nat) (kk : DA) : DS := fun G ρ => kk ρ fun ds => ∃ a b, ds = [a, b] ∧ G.nx ((ρ.set i (.d a)).set j (.d b))
theorem sd_par (i j : Nat) {x y : Str} {a b : Expr} {kk : DA} {px py pt : Pos} {kt k2 : Nat} {pt2 : Pos} (hc : X.calm = true) (hN : X.N.Nodup) (ha : AD X [a, b] kk) (hi : X.N[i]? = some x := by rfl) (hj : X.N[j]? = some y := by rfl) (hij : i ≠ j := by decide)
    (hx : X.env.scope.names.lookup x = some .local := by rfl) (hy : X.env.scope.names.lookup y = some .local := by rfl)
    (hw : swappedStores [.Tuple [.Name x px, .Name y py] kt pt] (.Tuple [a, b] k2 pt2) X.env = pure (some [x, y]) := by rfl) (hs : swapsWithSole [.Tuple [.Name x px, .Name y py] kt pt] (.Tuple [a, b] k2 pt2) pos.line X.env = pure false := by rfl) :
    SD X E (.Assign [.Tuple [.Name x px, .Name y py] kt pt] (.Tuple [a, b] k2 pt2) pos) (dPar i j kk) := psImp (ps_par hc hN hi hj hij hx hy ha hw hs) fun T σ H ⟨F0, B, F, ρ, G, S, q, k⟩ =>
  ⟨F0, B, F, ρ, _, S, q, fun ds ⟨a, b, e, p⟩ vs F' H' E' r => by
    subst e
    cases r with
    | cons r1 rr =>
      cases rr with
      | cons r2 rr =>
        cases rr
        exact ⟨_, _, rfl, k.nx _ F' _ H' p E'.ff (((S.step E').set i r1).set j r2)⟩⟩
@[simp] def dIf (t : DT) (g h : DS) : DS := fun G ρ => t ρ fun c => if c = true then g G ρ else h G ρ
theorem sd_if {c : Expr} {a b : List Stmt} {t : DT} (hc : TD X c t) (ha : SsD X E a g) (hb : SsD X E b h) : SD X E (.If c a b pos) (dIf t g h) := psImp (ps_if hc ha hb) fun T σ H ⟨F0, B, F, ρ, G, S, q, k⟩ =>
  ⟨F0, B, F, ρ, _, S, q, fun c hc F' H' E' => by
    cases c with
    | true => exact ⟨F0, B, F', ρ, G, S.step E', hc, k.later E'.ff⟩
    | false => exact ⟨F0, B, F', ρ, G, S.step E', hc, k.later E'.ff⟩⟩
/-- the turns of a for: I of the items that are left -/
def forI (gg : DG) (body : DS) (G : DEnds) (items : List D) (ρ : List Sl) : Prop :=
  ∃ I : List D → List Sl → Prop, I items ρ ∧ (∀ x xs ρ, I (x :: xs) ρ → gg x ρ fun ρ2 => body { G with nx := I xs, ct := I xs, bk := G.nx } ρ2) ∧ ∀ ρ, I [] ρ → G.nx ρ
@[simp] def dFor (it : DA) (gg : DG) (body : DS) : DS := fun G ρ => it ρ fun items => forI gg body G items ρ
theorem sd_for {tg iter : Expr} {body : List Stmt} {bs : List Nat} {it : DA} {gg : DG} {tb : DS} (hp : PassesOwn (model X.prog X.w) X.A X.env X.xe) (hc : X.calm = true) (hi : ID X tg iter it) (hg : GD X tg bs gg) (hb : SsD X E body tb)
    (hs : ∀ x, foldedSetIterable iter X.env x = pure x := by intro _; rfl) : SD X E (.For tg iter body [] pos) (dFor it gg tb) := psImp (ps_for hp hc hi hg hb hs) fun T σ H ⟨F0, B, F, ρ, G, S, q, k⟩ =>
  ⟨F0, B, F, ρ, _, S, q, fun items w F1 H1 E1 J ok => by
    obtain ⟨I, w0, ws, wd⟩ := w
    refine ⟨fun i m σ H => m = items.length - i ∧ i ≤ items.length ∧ ∃ F' ρ', StR X.K F0 B F' ρ' σ H ∧ Same F1 F' ∧ I (items.drop i) ρ', ⟨items.length, by simp, Nat.zero_le _, F1, ρ, S.step E1, Same.refl F1, by simpa using w0⟩, ?_⟩
    rintro i m σ' H' ⟨rfl, hi, F', ρ', S', s', w'⟩
    by_cases hlt : i < items.length
    · refine .inr ⟨ok.go i H' hlt (s'.trans S'.fh), fun σ2 H2 => ∃ F2 ρ2, StR X.K F0 B F2 ρ2 σ2 H2 ∧ Same F1 F2 ∧ I (items.drop (i + 1)) ρ2, fun σ2 H2 h2 => ⟨items.length - (i + 1), by omega, rfl, hlt, h2⟩, fun x H2 hy => ?_⟩
      obtain ⟨d, hd, up⟩ := ok.yld i H' x H2 hlt (s'.trans S'.fh) hy
      obtain ⟨F2, E2, r2⟩ := up F' s' S'.fh S'.nt
      have hdrop : items.drop i = d :: items.drop (i + 1) := by
        have h3 := List.drop_eq_getElem_cons hlt
        rw [List.getElem?_eq_getElem hlt] at hd
        cases hd
        exact h3
      rw [hdrop] at w'
      refine ⟨F0, B, F2, ρ', d, _, S'.step E2, r2, ws _ _ _ w', fun ρ3 q3 σ3 S3 _ => ⟨F0, B, F2, ρ3, _, S3, q3, ?_⟩⟩
      exact ⟨fun ρ4 F4 σ4 H4 q4 z S4 => ⟨F4, ρ4, S4, (s'.trans E2.ff).trans z, q4⟩, fun ρ4 F4 σ4 H4 q4 z S4 => k.nx ρ4 F4 σ4 H4 q4 (E1.ff.trans ((s'.trans E2.ff).trans z)) S4,
        fun ρ4 F4 σ4 H4 q4 z S4 => ⟨F4, ρ4, S4, (s'.trans E2.ff).trans z, q4⟩, k.rs, k.xx⟩
    · have e : i = items.length := by omega
      subst e
      rw [List.drop_length] at w'
      exact .inl ⟨ok.stop _ H' rfl (s'.trans S'.fh), k.nx ρ' F' σ' H' (wd _ w') (E1.ff.trans s') S'⟩⟩
/-- the turns of a while: I with a measure -/
def dWhile (t : DT) (body : DS) : DS := fun G ρ => ∃ I : Nat → List Sl → Prop, (∃ n, I n ρ) ∧ ∀ n ρ, I n ρ → t ρ fun c => if c = true then body { G with nx := fun ρ' => ∃ m, m < n ∧ I m ρ', ct := fun ρ' => ∃ m, m < n ∧ I m ρ', bk := G.nx } ρ else G.nx ρ
theorem sd_while {c : Expr} {body : List Stmt} {t : DT} {tb : DS} (hp : PassesOwn (model X.prog X.w) X.A X.env X.xe) (hc : TD X c t) (hb : SsD X E body tb) : SD X E (.While c body [] pos) (dWhile t tb) := psImp (ps_while hp hc hb) fun T σ H ⟨F0, B, F, ρ, G, S, ⟨I, ⟨n, q⟩, turn⟩, k⟩ => by
  refine ⟨fun m σ H => ∃ F' ρ', StR X.K F0 B F' ρ' σ H ∧ Same F F' ∧ I m ρ', ⟨n, F, ρ, S, Same.refl F, q⟩, ?_⟩
  rintro m σ' H' ⟨F', ρ', S', s', w⟩
  refine ⟨F0, B, F', ρ', _, S', turn _ _ w, fun b hb F2 H2 E2 => ?_⟩
  cases b with
  | true =>
    refine iteT ⟨fun σ3 H3 => ∃ m', m' < m ∧ ∃ F3 ρ3, StR X.K F0 B F3 ρ3 σ3 H3 ∧ Same F F3 ∧ I m' ρ3, fun σ3 H3 h3 => h3, F0, B, F2, ρ', _, S'.step E2, hb, ?_⟩
    exact ⟨fun ρ4 F4 σ4 H4 ⟨m', hm, q4⟩ z S4 => ⟨m', hm, F4, ρ4, S4, (s'.trans E2.ff).trans z, q4⟩, fun ρ4 F4 σ4 H4 q4 z S4 => k.nx ρ4 F4 σ4 H4 q4 ((s'.trans E2.ff).trans z) S4,
      fun ρ4 F4 σ4 H4 ⟨m', hm, q4⟩ z S4 => ⟨m', hm, F4, ρ4, S4, (s'.trans E2.ff).trans z, q4⟩, k.rs, k.xx⟩
  | false => exact iteF (k.nx ρ' F2 σ' H2 hb (s'.trans E2.ff) (S'.step E2))
/-- a list of one's own grows -/
@[simp] def dApp (i : Nat) (f : DE) : DS := fun G ρ => ∃ l, ρ[i]? = some (.own (.lst l)) ∧ l.length < 1000000 ∧ f ρ fun d => G.nx (ρ.set i (.own (.lst (l ++ [d]))))
theorem StR.ownAt {K : PySem.W.Frag} {F0 B F H : Hp} {ρ : List Sl} {σ : St} (S : StR K F0 B F ρ σ H) {i : Nat} {l : List D} (q : ρ[i]? = some (.own (.lst l))) : ∃ a xs, σ[i]? = some (some (.ref a)) ∧ H a = some (.lst xs) ∧ RepL K F l xs := by
  obtain ⟨a, xs, e, h1, _, _, r, _⟩ := S.ownL q
  exact ⟨a, xs, e, h1, r⟩
theorem StR.chL {K : PySem.W.Frag} {F0 B F H : Hp} {ρ : List Sl} {σ : St} (S : StR K F0 B F ρ σ H) {i : Nat} {l l' : List D} {a : Addr} {xs' : List V} (q : ρ[i]? = some (.own (.lst l))) (e : σ[i]? = some (some (.ref a))) (r : RepL K F l' xs') : StR K F0 B F (ρ.set i (.own (.lst l'))) σ (upd H a (.lst xs')) := by
  obtain ⟨a', xs, e', _, _, _, _, ch⟩ := S.ownL q
  rw [e] at e'
  cases e'
  exact ch l' xs' r
theorem sd_app (i : Nat) {x : Str} {p1 p2 p3 pos2 : Pos} {a : Expr} (he : ED X a f) (hi : X.N[i]? = some x := by rfl) (hv : Vis X.env.scope x := by first | exact Or.inl rfl | exact Or.inr (Or.inl rfl) | exact Or.inr (Or.inr rfl)) (hd : (x == ("__debug__" : Str)) = false := by decide)
    (hcd : (x == ("__classdict__" : Str)) = false := by decide) (hbase : attributeBase (.Name x p1) "append" X.env (eval (.Name x p1) X.env) = eval (.Name x p1) X.env := by rfl)
    (hfew : ((backTo p3 (starEach [a] X.env)).all (fun x => !x.1) && (backToKw p3 (keywordEach [] X.env)).all (fun x => x.1.isSome) && decide ([a].length + ([] : List Keyword).length + (if ([] : List Keyword).isEmpty then 0 else 1) < 30)) = true := by rfl)
    (hline : (p2.endLine == p3.line) = true := by rfl) (hs : starEach [a] X.env = (false, eval a X.env) :: starEach [] X.env := by rfl) (hplain : (backTo p3 (starEach [] X.env)).any (·.1) = false := by rfl)
    (hsw : swapsWith (.Call (.Attribute (.Name x p1) "append" p2) [a] [] p3) none pos2.line X.env = pure false := by rfl) :
    SD X E (.Expr (.Call (.Attribute (.Name x p1) "append" p2) [a] [] p3) pos2) (dApp i f) :=
  psImp (ps_expr (pe_bm PySem.F.plainAttrs_list PySem.F.slot_list_append PySem.F.type_list_append mt_append (pe_var hi hv hd hcd) (pa_cons he pa_nil hs) hbase hfew hline hs hplain) hsw) fun T σ H ⟨F0, B, F, ρ, G, S, q, k⟩ => by
    obtain ⟨l, ql, hl, w⟩ := q
    obtain ⟨p, xs, h1, h2, h3⟩ := S.ownAt ql
    refine ⟨.ref p, h1, .inl ⟨rfl, xs, SqL.of h2⟩, F0, B, F, ρ, _, S, w, fun d hd v F' H' E' r => ?_⟩
    have S' := S.step E'
    obtain ⟨p', xs', h1', h2', h3'⟩ := S'.ownAt ql
    rw [h1] at h1'
    cases h1'
    refine ⟨p, xs', v, rfl, rfl, h2', by rw [← h3'.length]; exact smallM (by omega), ?_⟩
    exact k.nx _ F' _ _ hd E'.ff (S'.chL ql h1 (h3'.append (.one r)))
/-- an item of a list of one's own is stored -/
@[simp] def dPut (i : Nat) (fi f : DE) : DS := fun G ρ => f ρ fun d => ∃ l, ρ[i]? = some (.own (.lst l)) ∧ fi ρ fun j => ∃ z m, j = .int z ∧ ixN l.length z = some m ∧ G.nx (ρ.set i (.own (.lst (l.set m d))))
theorem sd_put (i : Nat) {x : Str} {p1 p2 : Pos} {ix a : Expr} {fi : DE} (hc : X.calm = true) (hix : ED X ix fi) (he : ED X a f) (hi : X.N[i]? = some x := by rfl) (hv : Vis X.env.scope x := by first | exact Or.inl rfl | exact Or.inr (Or.inl rfl) | exact Or.inr (Or.inr rfl)) (hd : (x == ("__debug__" : Str)) = false := by decide)
    (hcd : (x == ("__classdict__" : Str)) = false := by decide)
    (ha : ∀ v, assign (.Subscript (.Name x p1) ix p2) X.env v = (do
      let ov ← holding [v] (eval (.Name x p1) X.env)
      let iv ← holding [v, ov] (eval ix X.env)
      standAt p2
      holding [v, ov, iv] (setItem ov iv v)
      release [v, ov, iv] []) := by intro _; rfl)
    (hs : swapsWithSole [.Subscript (.Name x p1) ix p2] a pos.line X.env = pure false := by rfl) (hw : swappedStores [.Subscript (.Name x p1) ix p2] a X.env = pure none := by rfl)
    (h1 : (assignEach [.Subscript (.Name x p1) ix p2] X.env).map (·.2) = [assign (.Subscript (.Name x p1) ix p2) X.env] := by rfl) :
    SD X E (.Assign [.Subscript (.Name x p1) ix p2] a pos) (dPut i fi f) :=
  psImp (ps_asg he (pg_sub (pe_var hi hv hd hcd) hix set_list ha) hs hw h1) fun T σ H ⟨F0, B, F, ρ, G, S, q, k⟩ =>
    ⟨F0, B, F, ρ, _, S, q, fun d hd v F' H' E' r => by
      have S' := S.step E'
      obtain ⟨l, ql, w⟩ := hd
      obtain ⟨p, xs, h1, h2, h3⟩ := S'.ownAt ql
      refine ⟨.ref p, h1, F0, B, F', ρ, _, S', w, fun j hj vj F2 H2 E2 rj => ?_⟩
      obtain ⟨z, m, ej, hm, w2⟩ := hj
      subst ej
      cases rj
      have S2 := S'.step E2
      obtain ⟨p', xs', h1', h2', h3'⟩ := S2.ownAt ql
      rw [h1] at h1'
      cases h1'
      refine ⟨p, xs', z, m, rfl, rfl, h2', by rw [← h3'.length]; exact hm, ?_⟩
      exact k.nx _ F2 _ _ w2 (E'.ff.trans E2.ff) (S2.chL ql h1 (RepL.set (r.mono E2.ff) m h3'))⟩
/-- what is asked of a list of one's own while it stays so -/
@[simp] def dLenOwn (i : Nat) : DE := fun ρ P => ∃ l, ρ[i]? = some (.own (.lst l)) ∧ P (.int l.length)
theorem ed_lenOwn (i : Nat) {x : Str} {p q : Pos} (hm : X.mg "len" = none) (hi : X.N[i]? = some x := by rfl) (hv : Vis X.env.scope x := by first | exact Or.inl rfl | exact Or.inr (Or.inl rfl) | exact Or.inr (Or.inr rfl)) (hd : (x == ("__debug__" : Str)) = false := by decide)
    (hcd : (x == ("__classdict__" : Str)) = false := by decide) (hg : Gl X "len" := by rfl) (hs : starEach [.Name x q] X.env = (false, eval (.Name x q) X.env) :: starEach [] X.env := by rfl) (hpl : (backTo pos (starEach [] X.env)).any (·.1) = false := by rfl) :
    ED X (.Call (.Name "len" p) [.Name x q] [] pos) (dLenOwn i) :=
  peImp (pe_callB call_len_seq hg hm PySem.boot_len (pa_cons (pe_var hi hv hd hcd) pa_nil hs) (by decide) (by decide) hs hpl) fun σ H Q ⟨F0, B, F, ρ, P, S, ⟨l, ql, p⟩, fin⟩ => by
    obtain ⟨a, xs, h1, h2, h3⟩ := S.ownAt ql
    exact ⟨.ref a, h1, a, xs, rfl, .inl (SqL.of h2), by rw [← h3.length]; exact fin.at S.fh S.nt p (.int _)⟩
@[simp] def dIxOwn (i : Nat) (f : DE) : DE := fun ρ P => ∃ l, ρ[i]? = some (.own (.lst l)) ∧ f ρ fun j => ∃ z d, j = .int z ∧ atI l z = some d ∧ P d
theorem ed_ixOwn (i : Nat) {x : Str} {p : Pos} {b : Expr} (hb : ED X b f) (hi : X.N[i]? = some x := by rfl) (hv : Vis X.env.scope x := by first | exact Or.inl rfl | exact Or.inr (Or.inl rfl) | exact Or.inr (Or.inr rfl)) (hd : (x == ("__debug__" : Str)) = false := by decide)
    (hcd : (x == ("__classdict__" : Str)) = false := by decide) (hs : PlainIx b := by exact fun _ _ => rfl) : ED X (.Subscript (.Name x p) b pos) (dIxOwn i f) :=
  peImp (pe_ix ix_list (pe_var hi hv hd hcd) hb hs) fun σ H Q ⟨F0, B, F, ρ, P, S, ⟨l, ql, w⟩, fin⟩ => by
    obtain ⟨a, xs, h1, h2, h3⟩ := S.ownAt ql
    refine ⟨.ref a, h1, F0, B, F, ρ, _, S, w, fun j ⟨z, d, e, hz, p⟩ v F' H' E' r => ?_⟩
    subst e
    cases r
    have S' := S.step E'
    obtain ⟨a', xs', h1', h2', h3'⟩ := S'.ownAt ql
    rw [h1] at h1'
    cases h1'
    obtain ⟨u, hu, ru⟩ := h3'.atI hz
    exact ⟨a, xs', z, u, rfl, rfl, SqL.of h2', hu, (fin.later E').at E'.fh E'.nt p ru⟩
@[simp] def dNeNil (i : Nat) : DE := fun ρ P => ∃ l, ρ[i]? = some (.own (.lst l)) ∧ lay 59 (.lst l) = true ∧ P (.bl (!l.isEmpty))
theorem toNeNil (i : Nat) : ∀ σ H Q, tE X.K (dNeNil i) σ H Q → tOp (rNeD X.K) (tVar i) (tLst tNil) σ H Q := fun σ H Q ⟨F0, B, F, ρ, P, S, ⟨l, ql, y, p⟩, fin⟩ => by
  obtain ⟨a, xs, h1, h2, h3⟩ := S.ownAt ql
  refine ⟨.ref a, h1, Nat.zero_le _, fun q hq => ?_⟩
  have hF : F q = none := S.fh.free hq
  have dp : DpAll X.K (upd H q (.lst [])) xs (toPyL l) := h3.dp (fun b u w => by rw [upd_ne (ne_of_none (S.fh b u w) hq)]; exact S.fh b u w) 58 (by simpa [lay] using y)
  have sh := lay_shaped (d := .lst l) (by
    have := lay_ok 59 _ y
    simp only [lay] at y ⊢
    exact List.all_eq_true.mpr fun x hx => lay_mono (List.all_eq_true.mp y x hx))
  refine ⟨.list (toPyL l), .list [], .lst (SqL.of (by rw [upd_ne (ne_of_none h2 hq)]; exact h2)) dp, .lst (SqL.of upd_same) .nil, by simpa [toPy] using sh, by decide, ?_⟩
  have e : (!PyData.eqv (.list (toPyL l)) (.list [])) = !l.isEmpty := by
    cases l with
    | nil => simp [toPyL, PyData.eqv, PyData.eqvAll]
    | cons d l => simp [toPyL, PyData.eqv, PyData.eqvAll]
  rw [e]
  exact fin _ p _ F _ (S.selfExt.allocH hq trivial) (.bl _)
theorem ed_neNil (i : Nat) {x : Str} {p p2 : Pos} (hu : X.A.units + 64 < cLine) (hi : X.N[i]? = some x := by rfl) (hv : Vis X.env.scope x := by first | exact Or.inl rfl | exact Or.inr (Or.inl rfl) | exact Or.inr (Or.inr rfl)) (hd : (x == ("__debug__" : Str)) = false := by decide)
    (hcd : (x == ("__classdict__" : Str)) = false := by decide) : ED X (.Compare (.Name x p) [.NotEq] [.List [] p2] pos) (dNeNil i) := peImp (pe_cmpR (op_neD hu) (pe_var hi hv hd hcd) (pe_lst pa_nil) (nomark _)) (toNeNil i)
theorem td_neNil (i : Nat) {x : Str} {p p2 : Pos} (hu : X.A.units + 64 < cLine) (hi : X.N[i]? = some x := by rfl) (hv : Vis X.env.scope x := by first | exact Or.inl rfl | exact Or.inr (Or.inl rfl) | exact Or.inr (Or.inr rfl)) (hd : (x == ("__debug__" : Str)) = false := by decide)
    (hcd : (x == ("__classdict__" : Str)) = false := by decide) : TD X (.Compare (.Name x p) [.NotEq] [.List [] p2] pos) (dTest (dNeNil i)) :=
  ptImp (pt_cmpR (op_neD hu) (pe_var hi hv hd hcd) (pe_lst pa_nil) (nomark _)) fun σ H Q q => tTest_imp (toNeNil i) σ H Q (toTest σ H Q q)
/-- an object of one's own is given away -/
@[simp] def dFrz (i : Nat) (g : DS) : DS := fun G ρ => ∃ o, ρ[i]? = some (.own o) ∧ o.free ∧ g G (ρ.set i (.d o.frz))
theorem sd_frz (i : Nat) {sts : List Stmt} (h : SsD X E sts g) : SsD X E sts (dFrz i g) := pssImp h fun T σ H ⟨F0, B, F, ρ, G, S, ⟨o, q, hf, w⟩, k⟩ => by
  obtain ⟨F', sm, S'⟩ := S.freeze q hf
  exact ⟨F0, B, F', _, G, S', w, k.later sm⟩
end
end Dy

/-! # The data layer: defs. -/
namespace Dy
variable [Tn]
open PySem PySem.Spec PyProof.Rows L2
@[simp] def startS (N : List Str) (ds : List D) : List Sl := ds.map .d ++ List.replicate (N.length - ds.length) .no
theorem startS_own {N : List Str} {ds : List D} {i : Nat} {o : OB} : (startS N ds)[i]? ≠ some (.own o) := fun q => by
  unfold startS at q
  by_cases hi : i < ds.length
  · rw [List.getElem?_append_left (by simpa using hi), List.getElem?_map, List.getElem?_eq_getElem hi] at q
    cases q
  · rw [List.getElem?_append_right (by simp; omega), List.getElem?_replicate] at q
    split at q <;> cases q
theorem stR_start {K : PySem.W.Frag} {F H : Hp} {ds : List D} {vs : List V} (N : List Str) (s : Same F H) (n : NT F H) (r : RepL K F ds vs) : StR K F H F (startS N ds) (L2.start N vs) H := by
  have hl := r.length
  refine ⟨Ext.refl s n, by simp [startS, L2.start, hl], fun i sl q => ?_, fun _ => [], fun i ob q => absurd q startS_own, fun i j o o' q _ _ => absurd q startS_own⟩
  unfold startS at q
  unfold L2.start
  by_cases hi : i < ds.length
  · rw [List.getElem?_append_left (by simpa using hi), List.getElem?_map, List.getElem?_eq_getElem hi] at q
    obtain ⟨v, hv, rv⟩ := r.get (List.getElem?_eq_getElem hi)
    have q' : Sl.d ds[i] = sl := by simpa using q
    subst q'
    refine ⟨some v, ?_, v, rfl, rv⟩
    rw [List.getElem?_append_left (by simp; omega), List.getElem?_map, hv]
    rfl
  · rw [List.getElem?_append_right (by simp; omega), List.getElem?_replicate] at q
    split at q
    · cases q
      rename_i hlt
      refine ⟨none, ?_, trivial⟩
      rw [List.getElem?_append_right (by simp; omega), List.getElem?_replicate, if_pos (by simp at hlt ⊢; omega)]
    · cases q
section
variable {P : Program} {w : World} {K : PySem.W.Frag} {mg : Str → Option Value} {base : Heap}
/-- a def that raises nothing -/
theorem fnD {x : Str} {st : Stmt} {f : Addr} {fd : FuncData} {N ps : List Str} {k : Nat} {φ : Spc} (F : Fun K x x st f fd) (S : FnScope N ps (defScope st)) (gm : mg x = some (.ref f)) (hb : Binds K fd ps []) (len : ∀ ds P Z, φ ds P Z → ds.length = ps.length)
    (body : ∀ (cdv : Value) (A : Around) (outer : List Env) (s : Shared) (H : Hp) (E : XK), Room k (A.deeper (envOfC x (defScope st) s.heap.objs.size f cdv)) →
      ∃ g : DS, SsD (cxOf CX0 P w K mg base N x (defScope st) f cdv A outer s H E).nox E0 (defBody st) g ∧ ∀ ds Q Z, φ ds Q Z → g { nx := fun _ => Q .non, rt := Q } (startS N ds)) : DefD P w K mg base CX0 x (k + 1) φ := by
  refine ⟨f, fd, ps, F.ok S (fun vs H Q E ⟨F', ds, P', Z, s, n, r, h, _⟩ => by rw [← r.length]; exact len ds P' Z h) (fun cdv A outer s H vs Q E hr ⟨F', ds, P', Z, sm, n, r, h, fin, _⟩ => ?_), gm, F.kp, hb⟩
  obtain ⟨g, hg, q⟩ := body cdv A outer s H E hr
  exact ⟨_, hg, F', H, F', _, _, stR_start N sm n r, q ds P' Z h, ⟨fun ρ' F2 σ' H' p _ S' => fin .non p .non F2 H' S'.ext .non, fun _ _ _ _ z => z.elim, fun _ _ _ _ z => z.elim, fun _ d v F2 _ H' p S' r' => fin d p v F2 H' S'.ext r', fun _ _ _ z => z.elim⟩⟩
/-- a def that may raise -/
theorem fnX {x : Str} {st : Stmt} {f : Addr} {fd : FuncData} {N ps : List Str} {k : Nat} {φ : Spc} (F : Fun K x x st f fd) (S : FnScope N ps (defScope st)) (gm : mg x = some (.ref f)) (hb : Binds K fd ps []) (len : ∀ ds P Z, φ ds P Z → ds.length = ps.length)
    (body : ∀ (cdv : Value) (A : Around) (outer : List Env) (s : Shared) (H : Hp) (E : XK), Room k (A.deeper (envOfC x (defScope st) s.heap.objs.size f cdv)) →
      ∃ g : DS, SsD (cxOf (L2.CX P w) P w K mg base N x (defScope st) f cdv A outer s H E) E (defBody st) g ∧ ∀ ds Q Z, φ ds Q Z → g { nx := fun _ => Q .non, rt := Q, xx := Z } (startS N ds)) : DefD P w K mg base (L2.CX P w) x (k + 1) φ := by
  refine ⟨f, fd, ps, F.okX S (fun vs H Q E ⟨F', ds, P', Z, s, n, r, h, _⟩ => by rw [← r.length]; exact len ds P' Z h) (fun cdv A outer s H vs Q E hr ⟨F', ds, P', Z, sm, n, r, h, fin, finx⟩ => ?_), gm, F.kp, hb⟩
  obtain ⟨g, hg, q⟩ := body cdv A outer s H E hr
  exact ⟨_, hg, F', H, F', _, _, stR_start N sm n r, q ds P' Z h, ⟨fun ρ' F2 σ' H' p _ S' => fin .non p .non F2 H' S'.ext .non, fun _ _ _ _ z => z.elim, fun _ _ _ _ z => z.elim, fun _ d v F2 _ H' p S' r' => fin d p v F2 H' S'.ext r', fun c F2 H' p E' => finx c p F2 H' E'⟩⟩
/-- a stronger promise holds the weaker one -/
theorem DefD.imp {CX : CXT} {x : Str} {k : Nat} {φ ψ : Spc} (h : DefD P w K mg base CX x k φ) (i : ∀ ds Q Z, ψ ds Q Z → φ ds Q Z) : DefD P w K mg base CX x k ψ := by
  obtain ⟨f, fd, ps, F, a, b, c⟩ := h.ex
  exact ⟨f, fd, ps, F.imp fun vs H Q E ⟨F', ds, P', Z, s, n, r, h, fin⟩ => ⟨F', ds, P', Z, s, n, r, i _ _ _ h, fin⟩, a, b, c⟩
end
section
variable {X : Cx} {E : XK} {pos : Pos}
/-- a call that may raise, as a statement -/
@[simp] def dCallX (φ : Spc) (k : DA) : DS := fun G ρ => k ρ fun ds => φ ds (fun _ => G.nx ρ) G.xx
theorem sd_callX {x : Str} {p pos2 : Pos} {e : Expr} {es : List Expr} {k : DA} {φ : Spc} {j n : Nat} {CX : CXT} (G : DefD X.prog X.w X.K X.mg X.base CX x j φ) (hr : Room n X.A) (hx : Passes CX X E) (ha : AD X (e :: es) k) (hjn : j ≤ n := by decide) (hg : Gl X x := by rfl) (hdb : (x == ("__debug__" : Str)) = false := by decide)
    (he : starEach (e :: es) X.env = (false, eval e X.env) :: starEach es X.env := by rfl) (hpl : (backTo pos (starEach es X.env)).any (·.1) = false := by rfl) (hsw : swapsWith (.Call (.Name x p) (e :: es) [] pos) none pos2.line X.env = pure false := by rfl) :
    SD X E (.Expr (.Call (.Name x p) (e :: es) [] pos) pos2) (dCallX φ k) := by
  obtain ⟨f, fd, ps, F, hm, hk, hb⟩ := G.ex
  refine psImp (ps_expr (pe_call F (hr.mono hjn) hg hm hk hb .nil hx ha hdb he hpl) hsw) fun T σ H ⟨F0, B, F, ρ, G, S, q, k⟩ => ?_
  exact ⟨F0, B, F, ρ, _, S, q, fun ds hd vs F1 H1 E1 r1 => ⟨F1, ds, _, _, E1.fh, E1.nt, by rw [List.append_nil]; exact r1, hd, fun d hd v F2 H2 E2 r2 => k.nx ρ F2 σ H2 hd (E1.ff.trans E2.ff) ((S.step E1).step E2),
    fun c z F2 H2 E2 => k.xx c F2 H2 z (S.ext.trans (E1.trans E2))⟩⟩
/-- raise C('..') -/
@[simp] def dRaise (C : Addr) : DS := fun G _ => G.xx C
theorem sd_raise {C : Addr} {bmB : List Value} {B newId initId : String} {x m : Str} {j : Nat} {p p2 pos2 : Pos} (hc : X.calm = true) (tk : Takes X (fun cls d _ H => E cls d H)) (F : PySem.ExcBaseFacts B newId initId bmB) (q : PySem.W.excIn X.K C bmB newId = true) (gC : X.mg x = some (.ref C)) (kC : PySem.W.keepIn X.K (.ref C) = true) (r : Raises X (.ref C)) (hg : Gl X x := by rfl)
    (hdb : (x == ("__debug__" : Str)) = false := by decide) : SD X E (.Raise (some (.Call (.Name x p) [.Constant (.str m) j p2] [] pos)) none pos2) (dRaise C) :=
  psImp (ps_raise hc tk (pmk_own F q gC kC r hg hdb)) fun T σ H ⟨F0, B, F, ρ, G, S, q, k⟩ => k.xx C F H q S.ext
theorem passC {P : Program} {w : World} {K : PySem.W.Frag} {mg : Str → Option Value} {base : Heap} {N : List Str} {qual : Str} {sc : Scope} {f : Addr} {cd : Value} {A : Around} {outer : List Env} {s : Shared} {H : Hp} {E : XK} :
    Passes (L2.CX P w) (cxOf (L2.CX P w) P w K mg base N qual sc f cd A outer s H E) E := passes_call (takes_of rfl rfl rfl rfl) fun _ _ _ _ h => h
end
end Dy

/-! # The data layer: instances of one's own, dicts. -/
namespace Dy
variable [Tn]
open PySem PySem.Spec PyProof.Rows L2
/-! ### keys -/
def keyD1 : D → Option Key
  | .int i => some (.inl i)
  | .str x => some (.inr x)
  | _ => none
def keyL : List D → Option (List Key)
  | [] => some []
  | d :: l => match keyD1 d, keyL l with
    | some k, some ks => some (k :: ks)
    | _, _ => none
def dKey : Key → D
  | .inl i => .int i
  | .inr x => .str x
@[simp] theorem dKey_inl (i : Int) : dKey (.inl i) = .int i := rfl
@[simp] theorem dKey_inr (x : Str) : dKey (.inr x) = .str x := rfl
@[simp] theorem keyD1_int (i : Int) : keyD1 (.int i) = some (.inl i) := rfl
@[simp] theorem keyD1_str (x : Str) : keyD1 (.str x) = some (.inr x) := rfl
@[simp] theorem keyD1_dKey (k : Key) : keyD1 (dKey k) = some k := by cases k <;> rfl
@[simp] theorem keyL_nil : keyL [] = some [] := rfl
@[simp] theorem keyL_cons (d : D) (l : List D) : keyL (d :: l) = (keyD1 d).bind fun k => (keyL l).map (k :: ·) := by
  rw [keyL]
  cases keyD1 d <;> cases keyL l <;> rfl
section
variable {K : PySem.W.Frag} {F H : Hp}
theorem rep_key {d : D} {v : V} {k : Key} (r : Rep K F d v) (h : keyD1 d = some k) : v = kV k := by
  cases r <;> simp [keyD1] at h <;> subst h <;> rfl
theorem repL_keys : ∀ {l : List D} {xs : List V} {ks : List Key}, RepL K F l xs → keyL l = some ks → xs = ks.map kV
  | [], _, ks, .nil, h => by simp at h; subst h; rfl
  | d :: l, _, ks, .cons r rr, h => by
    simp only [keyL] at h
    cases h1 : keyD1 d with
    | none => rw [h1] at h; cases h
    | some k =>
      cases h2 : keyL l with
      | none => rw [h1, h2] at h; cases h
      | some ks' =>
        rw [h1, h2] at h
        cases h
        rw [rep_key r h1, repL_keys rr h2]
        rfl
theorem rep_dKey (k : Key) : Rep K F (dKey k) (kV k) := by
  cases k
  · exact .int _
  · exact .str _
theorem rep_dKeys : ∀ ks : List Key, RepL K F (ks.map dKey) (ks.map kV)
  | [] => .nil
  | k :: ks => .cons (rep_dKey k) (rep_dKeys ks)
/-! ### a field of an instance of one's own -/
theorem FsRep.look {fs : List (Str × FV)} {vs : List (Str × V)} {fp : List Addr} {f : Str} {fv : FV} (h : FsRep K F H fs vs fp) : fs.lookup f = some fv → ∃ v fp', vs.lookup f = some v ∧ FRep K F H fv v fp' ∧ ∀ b ∈ fp', b ∈ fp := by
  induction h with
  | nil => intro e; cases e
  | @cons x fv' v fp1 fps fs vs h r ih =>
    intro e
    rw [List.lookup_cons] at e ⊢
    cases hx : f == x with
    | true =>
      rw [hx] at e
      cases e
      exact ⟨v, fp1, rfl, h, fun b hb => List.mem_append_left _ hb⟩
    | false =>
      rw [hx] at e
      obtain ⟨v', fp', e1, e2, e3⟩ := ih e
      exact ⟨v', fp', e1, e2, fun b hb => List.mem_append_right _ (e3 b hb)⟩
/-- a field changed -/
def putFV (f : Str) (fv : FV) : List (Str × FV) → List (Str × FV)
  | [] => [(f, fv)]
  | (x, w) :: r => if x = f then (x, fv) :: r else (x, w) :: putFV f fv r
/-- the instance in the slot: what its fields are -/
theorem StR.instAt {F0 B : Hp} {ρ : List Sl} {σ : St} (S : StR K F0 B F ρ σ H) {i : Nat} {C : Addr} {o : Option Addr} {fs : List (Str × FV)} (q : ρ[i]? = some (.own (.inst C o fs))) :
    ∃ a dx vs fps, σ[i]? = some (some (.ref a)) ∧ H a = some (.ins C dx vs) ∧ FsRep K F H fs vs fps := by
  obtain ⟨fpz, w⟩ := S.own
  obtain ⟨a, e, ⟨dx, vs, fps, _, _, h1, _, h3, _⟩, _⟩ := w.1 i _ q
  exact ⟨a, dx, vs, fps, e, h1, h3⟩
end
section
variable {X : Cx} {pos : Pos}
/-- x.f, x an instance of one's own with frozen data there -/
@[simp] def dFld (i : Nat) (C : Addr) (f : Str) : DE := fun ρ P => ∃ o fs d, ρ[i]? = some (.own (.inst C o fs)) ∧ fs.lookup f = some (.d d) ∧ P d
theorem ed_fld (i : Nat) {x f : Str} {C : Addr} {p : Pos} (c : Cls X.K C) (n : NoAttr X.K C f) (hi : X.N[i]? = some x := by rfl) (hv : Vis X.env.scope x := by first | exact Or.inl rfl | exact Or.inr (Or.inl rfl) | exact Or.inr (Or.inr rfl)) (hd : (x == ("__debug__" : Str)) = false := by decide)
    (hcd : (x == ("__classdict__" : Str)) = false := by decide) (hb : attributeBase (.Name x p) f X.env (eval (.Name x p) X.env) = eval (.Name x p) X.env := by rfl) : ED X (.Attribute (.Name x p) f pos) (dFld i C f) :=
  peImp (pe_fld (pe_var hi hv hd hcd) hb) fun σ H Q ⟨F0, B, F, ρ, P, S, ⟨o, fs, d, q, hf, hp⟩, fin⟩ => by
    obtain ⟨a, dx, vs, fps, e, h1, r⟩ := S.instAt q
    obtain ⟨v, fp', e2, ⟨_, r2⟩, _⟩ := r.look hf
    exact ⟨.ref a, e, a, C, dx, vs, v, rfl, h1, c, n, e2, fin.at S.fh S.nt hp r2⟩
/-- x.f of frozen data -/
@[simp] def insD (f : Str) (C : Addr) : D → (D → Prop) → Prop
  | .ins C' ns ds, P => C' = C ∧ ns.length = ds.length ∧ ∃ d, (List.zip ns ds).lookup f = some d ∧ P d
  | _, _ => False
theorem zip_look {K : PySem.W.Frag} {F : Hp} {f : Str} : ∀ {ns : List Str} {ds : List D} {fs : List (Str × V)} {d : D}, fs.map (·.1) = ns → RepL K F ds (fs.map (·.2)) → (List.zip ns ds).lookup f = some d → ∃ v, fs.lookup f = some v ∧ Rep K F d v
  | [], _, _, _, _, _, h => by simp at h
  | n :: ns, ds, [], _, e, _, _ => by cases e
  | n :: ns, [], (y, v) :: fs, _, e, r, h => by simp at h
  | n :: ns, d0 :: ds, (y, v) :: fs, d, e, r, h => by
    simp only [List.map_cons, List.cons.injEq] at e
    obtain ⟨rfl, e⟩ := e
    cases r with
    | cons r rr =>
      rw [List.zip_cons_cons, List.lookup_cons] at h
      rw [List.lookup_cons]
      cases hx : f == y with
      | true =>
        rw [hx] at h
        cases h
        exact ⟨v, rfl, r⟩
      | false =>
        rw [hx] at h
        exact zip_look e rr h
@[simp] def dIns (C : Addr) (f : Str) (g : DE) : DE := fun ρ P => g ρ fun x => insD f C x P
theorem ed_ins {e : Expr} {f : Str} {C : Addr} {g : DE} (c : Cls X.K C) (n : NoAttr X.K C f) (he : ED X e g) (hb : attributeBase e f X.env (eval e X.env) = eval e X.env := by rfl) : ED X (.Attribute e f pos) (dIns C f g) :=
  peImp (pe_fld he hb) fun σ H Q ⟨F0, B, F, ρ, P, S, q, fin⟩ => ⟨F0, B, F, ρ, _, S, q, fun x hx v F1 H1 E1 r => by
    cases r with
    | @ins a C' dx fs ns l h e r =>
      obtain ⟨rfl, _, d, hd, hp⟩ := hx
      obtain ⟨v, hv, rv⟩ := zip_look e r hd
      exact ⟨a, C', dx, fs, v, rfl, E1.fh _ _ h, c, n, hv, (fin.later E1).at E1.fh E1.nt hp rv⟩
    | _ => exact hx.elim⟩
/-- a tuple of one's own making: it may be a key -/
@[simp] def dTpl (g : DA) : DE := fun ρ P => g ρ fun xs => xs.length ≤ 1000000 ∧ P (.tpl xs)
theorem ed_tpl {es : List Expr} {x1} {k : DA} (h : AD X es k) : ED X (.Tuple es x1 pos) (dTpl k) := peImp (pe_tup h) fun σ H Q ⟨F0, B, F, ρ, P, S, q, fin⟩ =>
  ⟨F0, B, F, ρ, _, S, q, fun xs ⟨hl, hx⟩ vs F1 H1 E1 r1 => ⟨by rw [← r1.length]; exact le_line hl, fun p hp => (fin.later E1).new E1.fh E1.nt hx hp trivial (.tpl upd_same (r1.mono (same_alloc E1.fh hp)))⟩⟩
end
/-! ### dicts with tuples for keys, ints for values -/
def valI (kvs : List (List Key × Int)) (k : List Key) : Option Int := (kvs.find? fun x => decide (x.1 = k)).map (·.2)
def putI (kvs : List (List Key × Int)) (k : List Key) (n : Int) : List (List Key × Int) := if (kvs.any fun x => decide (x.1 = k)) = true then kvs.map (fun x => if x.1 = k then (x.1, n) else x) else kvs ++ [(k, n)]
theorem valI_map (kvs : List (List Key × Int)) (k : List Key) : valV (kvs.map fun x => (x.1, V.int x.2)) k = (valI kvs k).map V.int := by
  unfold valV valI
  induction kvs with
  | nil => rfl
  | cons x kvs ih =>
    rw [List.map_cons, List.find?_cons, List.find?_cons]
    by_cases h : x.1 = k
    · simp [h]
    · simpa [h] using ih
theorem putI_map (kvs : List (List Key × Int)) (k : List Key) (n : Int) : putK (kvs.map fun x => (x.1, V.int x.2)) k (.int n) = (putI kvs k n).map fun x => (x.1, V.int x.2) := by
  unfold putK putI
  have e : ((kvs.map fun x => (x.1, V.int x.2)).any fun kv => decide (kv.1 = k)) = kvs.any fun x => decide (x.1 = k) := by
    rw [List.any_map]; rfl
  rw [e]
  split
  · rw [List.map_map, List.map_map]
    refine List.map_congr_left fun x _ => ?_
    simp only [Function.comp]
    split <;> rfl
  · rw [List.map_append]; rfl
def FV.ints : FV → Option (List (List Key × Int))
  | .dct kvs => some kvs
  | .dcl _ _ kvs => some kvs
  | _ => none
@[simp] theorem ints_dct (kvs : List (List Key × Int)) : (FV.dct kvs).ints = some kvs := rfl
section
variable {K : PySem.W.Frag} {F H : Hp}
theorem FRep.ints {fv : FV} {v : V} {fp : List Addr} {kvs : List (List Key × Int)} (h : FRep K F H fv v fp) (e : fv.ints = some kvs) : ∃ p, v = .ref p ∧ p ∈ fp ∧ Rd H p (.dT (kvs.map fun x => (x.1, V.int x.2))) := by
  cases fv with
  | dct k2 =>
    simp [FV.ints] at e
    subst e
    obtain ⟨p, rfl, rfl, h1⟩ := h
    exact ⟨p, rfl, by simp, .inl h1⟩
  | dcl p od k2 =>
    simp [FV.ints] at e
    subst e
    obtain ⟨rfl, rfl, h1⟩ := h
    exact ⟨p, rfl, by simp, .inr ⟨od, h1⟩⟩
  | _ => simp [FV.ints] at e
theorem rd_keep {H' : Hp} {p : Addr} {kvs : List (List Key × V)} (b : SameT H H') (h : Rd H p (.dT kvs)) : Rd H' p (.dT kvs) := by
  rcases h with h | ⟨o, h⟩
  · exact .inl (b.ordi h fun ps z => nomatch z)
  · exact .inr ⟨o, b.ordi h fun ps z => nomatch z⟩
/-- what is to be shown for one field's change -/
theorem FsRep.put {fs : List (Str × FV)} {vs : List (Str × V)} {fp : List Addr} {f : Str} {fv : FV} (h : FsRep K F H fs vs fp) : fs.lookup f = some fv → fp.Nodup → ∃ v fpf, vs.lookup f = some v ∧ FRep K F H fv v fpf ∧ (∀ b ∈ fpf, b ∈ fp) ∧
    ∀ H' fv', (∀ b ∈ fp, b ∉ fpf → H' b = H b) → FRep K F H' fv' v fpf → FsRep K F H' (putFV f fv' fs) vs fp := by
  induction h with
  | nil => intro e; cases e
  | @cons x fv0 v fp1 fps fs vs h r ih =>
    intro e nd
    rw [List.lookup_cons] at e ⊢
    rw [List.nodup_append] at nd
    cases hx : f == x with
    | true =>
      rw [hx] at e
      cases e
      refine ⟨v, fp1, rfl, h, fun b hb => List.mem_append_left _ hb, fun H' fv' k r' => ?_⟩
      have hx' : x = f := (beq_iff_eq.mp hx).symm
      rw [putFV, if_pos hx']
      exact .cons r' (r.mono (Same.refl F) fun b hb => k b (List.mem_append_right _ hb) fun z => nd.2.2 b z b hb rfl)
    | false =>
      rw [hx] at e
      obtain ⟨v', fpf, e1, e2, e3, e4⟩ := ih e nd.2.1
      refine ⟨v', fpf, e1, e2, fun b hb => List.mem_append_right _ (e3 b hb), fun H' fv' k r' => ?_⟩
      have hx' : ¬ x = f := fun z => by subst z; simp at hx
      rw [putFV, if_neg hx']
      exact .cons (h.mono (Same.refl F) fun b hb => k b (List.mem_append_left _ hb) fun z => nd.2.2 b hb b (e3 b z) rfl) (e4 H' fv' (fun b hb hn => k b (List.mem_append_right _ hb) hn) r')
/-- a field is set anew -/
theorem FsRep.set {fs : List (Str × FV)} {vs : List (Str × V)} {fp : List Addr} {f : Str} {fv : FV} {y : V} {fpn : List Addr} (h : FsRep K F H fs vs fp) (r : FRep K F H fv y fpn) (nn : fpn.Nodup) : fp.Nodup → (∀ b ∈ fpn, b ∉ fp) →
    ∃ fp', FsRep K F H (putFV f fv fs) (putF f y vs) fp' ∧ fp'.Nodup ∧ ∀ b ∈ fp', b ∈ fp ∨ b ∈ fpn := by
  induction h with
  | nil => exact fun _ _ => ⟨fpn ++ [], .cons r .nil, by simpa using nn, fun b hb => .inr (by simpa using hb)⟩
  | @cons x fv0 v fp1 fps fs vs h rr ih =>
    intro nd dis
    rw [List.nodup_append] at nd
    rw [putFV, putF]
    by_cases hx : x = f
    · rw [if_pos hx, if_pos hx]
      refine ⟨fpn ++ fps, .cons r rr, ?_, fun b hb => ?_⟩
      · rw [List.nodup_append]
        exact ⟨nn, nd.2.1, fun a ha b hb z => dis a ha (by rw [z]; simp [hb])⟩
      · rcases List.mem_append.mp hb with z | z
        · exact .inr z
        · exact .inl (by simp [z])
    · rw [if_neg hx, if_neg hx]
      obtain ⟨fp', r', nd', m⟩ := ih nd.2.1 fun b hb z => dis b hb (by simp [z])
      refine ⟨fp1 ++ fp', .cons h r', ?_, fun b hb => ?_⟩
      · rw [List.nodup_append]
        refine ⟨nd.1, nd', fun a ha b hb z => ?_⟩
        rcases m b hb with w | w
        · exact nd.2.2 a ha b w z
        · exact dis b w (by rw [← z]; simp [ha])
      · rcases List.mem_append.mp hb with z | z
        · exact .inl (by simp [z])
        · rcases m b z with w | w
          · exact .inl (by simp [w])
          · exact .inr w
/-- one field's object is changed in place -/
theorem StR.chF {F0 B : Hp} {ρ : List Sl} {σ : St} (S : StR K F0 B F ρ σ H) {i : Nat} {C : Addr} {o : Option Addr} {fs : List (Str × FV)} {f : Str} {fv : FV} (q : ρ[i]? = some (.own (.inst C o fs))) (hf : fs.lookup f = some fv) :
    ∃ a dx vs v fpf, σ[i]? = some (some (.ref a)) ∧ H a = some (.ins C dx vs) ∧ vs.lookup f = some v ∧ FRep K F H fv v fpf ∧ (∀ b ∈ fpf, F b = none ∧ B b = none ∧ b ≠ a ∧ b ≠ dx) ∧
      ∀ H' fv', Ext F0 B F H' → (∀ b, b ∉ fpf → ∀ o, H b = some o → H' b = some o) → FRep K F H' fv' v fpf → StR K F0 B F (ρ.set i (.own (.inst C o (putFV f fv' fs)))) σ H' := by
  obtain ⟨a, fp, e, ⟨dx, vs, fps, rfl, nd, h1, h2, h3, h4⟩, n, ch⟩ := S.change q
  have nd1 := (List.nodup_cons.mp nd).1
  have nd2 := List.nodup_cons.mp (List.nodup_cons.mp nd).2
  obtain ⟨v, fpf, e1, e2, e3, e4⟩ := h3.put hf nd2.2
  have ne : ∀ b ∈ fpf, b ≠ a ∧ b ≠ dx := fun b hb => ⟨fun z => nd1 (by rw [← z]; simp [e3 b hb]), fun z => nd2.1 (by rw [← z]; exact e3 b hb)⟩
  refine ⟨a, dx, vs, v, fpf, e, h1, e1, e2, fun b hb => ⟨(n b (by simp [e3 b hb])).1, (n b (by simp [e3 b hb])).2, ne b hb⟩, fun H' fv' E' k r' => ?_⟩
  have k1 : ∀ b ∈ fps, b ∉ fpf → H' b = H b := fun b hb hn => by
    obtain ⟨ho, eb, _⟩ := h3.mu b hb
    rw [eb]
    exact k b hn ho eb
  refine ch H' _ (a :: dx :: fps) E' (fun b hb o eb => k b (fun z => hb (by simp [e3 b z])) o eb) ⟨dx, vs, fps, rfl, nd, k a (fun z => (ne a z).1 rfl) _ h1, k dx (fun z => (ne dx z).2 rfl) _ h2, e4 H' fv' k1 r', h4⟩ fun b hb => .inl hb
end
section
variable {X : Cx} {pos : Pos}
/-- x.f[k] -/
@[simp] def dDGet (i : Nat) (C : Addr) (f : Str) (kk : DE) : DE := fun ρ P => ∃ o fs fv kvs, ρ[i]? = some (.own (.inst C o fs)) ∧ fs.lookup f = some fv ∧ fv.ints = some kvs ∧ kk ρ fun d => ∃ l ks m, d = .tpl l ∧ keyL l = some ks ∧ valI kvs ks = some m ∧ P (.int m)
theorem ed_dget (i : Nat) {x f : Str} {C : Addr} {p p2 : Pos} {kx : Expr} {kk : DE} (hu : X.A.units + 1 < cLine) (c : Cls X.K C) (n : NoAttr X.K C f) (hk : ED X kx kk) (hs : NoSl kx := by exact fun _ _ => rfl) (hi : X.N[i]? = some x := by rfl) (hv : Vis X.env.scope x := by first | exact Or.inl rfl | exact Or.inr (Or.inl rfl) | exact Or.inr (Or.inr rfl))
    (hd : (x == ("__debug__" : Str)) = false := by decide) (hcd : (x == ("__classdict__" : Str)) = false := by decide) (hb : attributeBase (.Name x p) f X.env (eval (.Name x p) X.env) = eval (.Name x p) X.env := by rfl) :
    ED X (.Subscript (.Attribute (.Name x p) f p2) kx pos) (dDGet i C f kk) :=
  peImp (pe_dget hu (pe_fld (pe_var hi hv hd hcd) hb) hk hs) fun σ H Q ⟨F0, B, F, ρ, P, S, ⟨o, fs, fv, kvs, q, hf, hkv, w⟩, fin⟩ => by
    obtain ⟨a, dx, vs, fps, e, h1, r⟩ := S.instAt q
    obtain ⟨v, fp', e2, r2, _⟩ := r.look hf
    obtain ⟨p0, rfl, _, rd⟩ := r2.ints hkv
    refine ⟨.ref a, e, a, C, dx, vs, .ref p0, rfl, h1, c, n, e2, F0, B, F, ρ, _, S, w, fun d ⟨l, ks, m, ed, hl, hm, hp⟩ vk F1 H1 E1 r1 => ?_⟩
    subst ed
    cases r1 with
    | @tpl b xs _ hb rb =>
      have ex := repL_keys rb hl
      subst ex
      refine ⟨p0, .int m, rfl, .inr ⟨_, ks, b, rd_keep E1.bh rd, rfl, E1.fh _ _ hb, ?_⟩, (fin.later E1).at E1.fh E1.nt hp (.int m)⟩
      rw [valI_map, hm]
      rfl
/-- x.f[k] = e -/
@[simp] def dDPut (i : Nat) (C : Addr) (f : Str) (kk vv : DE) : DS := fun G ρ => vv ρ fun dv => ∃ m o fs kvs, dv = .int m ∧ ρ[i]? = some (.own (.inst C o fs)) ∧ fs.lookup f = some (.dct kvs) ∧ kvs.length < 1000000 ∧
  kk ρ fun d => ∃ l ks, d = .tpl l ∧ keyL l = some ks ∧ G.nx (ρ.set i (.own (.inst C o (putFV f (.dct (putI kvs ks m)) fs))))
theorem sd_dput (i : Nat) {E : XK} {x f : Str} {C : Addr} {p p2 p3 : Pos} {kx e : Expr} {kk vv : DE} (hu : X.A.units + 1 < cLine) (c : Cls X.K C) (n : NoAttr X.K C f) (hk : ED X kx kk) (he : ED X e vv) (hs : swapsWith e (some (.Subscript (.Attribute (.Name x p) f p2) kx p3)) pos.line X.env = pure false := by rfl) (hi : X.N[i]? = some x := by rfl)
    (hv : Vis X.env.scope x := by first | exact Or.inl rfl | exact Or.inr (Or.inl rfl) | exact Or.inr (Or.inr rfl)) (hd : (x == ("__debug__" : Str)) = false := by decide) (hcd : (x == ("__classdict__" : Str)) = false := by decide) (hb : attributeBase (.Name x p) f X.env (eval (.Name x p) X.env) = eval (.Name x p) X.env := by rfl) :
    SD X E (.Assign [.Subscript (.Attribute (.Name x p) f p2) kx p3] e pos) (dDPut i C f kk vv) :=
  psImp (ps_dput hu (pe_fld (pe_var hi hv hd hcd) hb) hk he hs) fun T σ H ⟨F0, B, F, ρ, G, S, q, k⟩ =>
    ⟨F0, B, F, ρ, _, S, q, fun dv ⟨m, o, fs, kvs, ed, q, hf, hl, w⟩ v F1 H1 E1 r1 => by
      subst ed
      cases r1
      have S1 := S.step E1
      obtain ⟨a, dx, vs, v, fpf, e1, h1, e2, r2, _⟩ := S1.chF q hf
      obtain ⟨p0, rfl, rfl, hp0⟩ := r2
      refine ⟨.ref a, e1, a, C, dx, vs, .ref p0, rfl, h1, c, n, e2, F0, B, F1, ρ, _, S1, w, fun d ⟨l, ks, ed, hks, hn⟩ vk F2 H2 E2 rk => ?_⟩
      subst ed
      cases rk with
      | @tpl b xs _ hb rb =>
        have ex := repL_keys rb hks
        subst ex
        have S2 := S1.step E2
        obtain ⟨a', dx', vs', v', fpf', e1', h1', e2', r2', nn, ch⟩ := S2.chF q hf
        obtain ⟨p1, rfl, rfl, hp1⟩ := r2'
        rw [e1] at e1'
        cases e1'
        have : H2 a = some (.ins C dx vs) := E2.bh.ordi h1 fun ps z => nomatch z
        rw [this] at h1'
        cases h1'
        rw [e2] at e2'
        cases e2'
        refine ⟨p0, _, rfl, .inr ⟨_, ks, b, hp1, rfl, E2.fh _ _ hb, by rw [List.length_map]; exact smallM (by omega), rfl⟩, ?_⟩
        rw [putI_map]
        refine k.nx _ F2 _ _ hn (E1.ff.trans E2.ff) (ch _ _ (S2.ext.own hp1 trivial trivial (nn p0 (by simp)).1 (nn p0 (by simp)).2.1) (fun b hb o eb => ?_) ⟨p0, rfl, rfl, upd_same⟩)
        rw [upd_ne (fun z => hb (by simp [z]))]
        exact eb⟩
end
end Dy

/-! # The data layer: fields that are set, methods. -/
namespace Dy
variable [Tn]
open PySem PySem.Spec PyProof.Rows L2
section
variable {X : Cx} {pos : Pos}
/-- x.f = {}, x an instance of one's own -/
@[simp] def dFNew (i : Nat) (C : Addr) (f : Str) : DS := fun G ρ => ∃ o fs, ρ[i]? = some (.own (.inst C o fs)) ∧ fs.length < 1000 ∧ G.nx (ρ.set i (.own (.inst C o (putFV f (.dct []) fs))))
theorem FsRep.len {K : PySem.W.Frag} {F H : Hp} {fs : List (Str × FV)} {vs : List (Str × V)} {fp : List Addr} (h : FsRep K F H fs vs fp) : vs.length = fs.length := by
  induction h with
  | nil => rfl
  | cons h r ih => simp only [List.length_cons, ih]
theorem sd_fnew (i : Nat) {E : XK} {x f : Str} {C : Addr} {p p2 p3 : Pos} (c : Cls X.K C) (n : NoAttr X.K C f) (hs : swapsWith (.Dict [] [] p3) (some (.Attribute (.Name x p) f p2)) pos.line X.env = pure false := by rfl) (hi : X.N[i]? = some x := by rfl)
    (hv : Vis X.env.scope x := by first | exact Or.inl rfl | exact Or.inr (Or.inl rfl) | exact Or.inr (Or.inr rfl)) (hd : (x == ("__debug__" : Str)) = false := by decide) (hcd : (x == ("__classdict__" : Str)) = false := by decide) :
    SD X E (.Assign [.Attribute (.Name x p) f p2] (.Dict [] [] p3) pos) (dFNew i C f) :=
  psImp (ps_fld (pe_var hi hv hd hcd) pe_dnewT hs) fun T σ H ⟨F0, B, F, ρ, G, S, ⟨o, fs, q, hl, w⟩, k⟩ => fun p hp => by
    have E1 : Ext F H F (upd H p (.dT [])) := S.selfExt.allocH hp trivial
    obtain ⟨a, fp, e, ⟨dx, vs, fps, rfl, nd, h1, h2, h3, h4⟩, no, ch⟩ := S.changeN E1 q
    have hpf : ∀ b ∈ a :: dx :: fps, b ≠ p := fun b hb z => (no b hb).2.2 (by rw [z]; exact hp)
    have nd1 := (List.nodup_cons.mp nd).1
    have nd2 := List.nodup_cons.mp (List.nodup_cons.mp nd).2
    obtain ⟨fp', r', nd', m⟩ := h3.set (f := f) (fv := .dct []) (y := .ref p) (fpn := [p]) ⟨p, rfl, rfl, upd_same⟩ (by simp) nd2.2 fun b hb => by
      rw [List.mem_singleton.mp hb]
      exact fun z => hpf p (by simp [z]) rfl
    have na : a ∉ fp' := fun z => by
      rcases m a z with w | w
      · exact nd1 (by simp [w])
      · exact hpf a (by simp) (List.mem_singleton.mp w)
    have ndx : dx ∉ fp' := fun z => by
      rcases m dx z with w | w
      · exact nd2.1 w
      · exact hpf dx (by simp) (List.mem_singleton.mp w)
    have hdx : dx ≠ a := fun z => nd1 (by simp [z])
    have fn : F p = none := by
      cases z : F p with
      | none => rfl
      | some o => have := S.fh _ _ z; rw [hp] at this; cases this
    refine ⟨.ref a, e, a, C, dx, vs, rfl, h1, c, n, by rw [h3.len]; exact hl, k.nx _ F _ _ w (Same.refl F) (ch _ _ (a :: dx :: fp') ((S.ext.allocH (o := .dT []) hp trivial).own h1 trivial trivial (no a (by simp)).1 (no a (by simp)).2.1) (fun b hb o eb => ?_) ⟨dx, _, fp', rfl, ?_, upd_same, ?_, r'.mono (Same.refl F) (fun b hb => upd_ne fun z => na (z ▸ hb)), h4⟩ fun b hb => ?_)⟩
    · rw [upd_ne (fun z => hb (by simp [z]))]
      exact eb
    · exact List.nodup_cons.mpr ⟨by simp [na, hdx.symm], List.nodup_cons.mpr ⟨ndx, nd'⟩⟩
    · rw [upd_ne hdx]
      exact h2
    · rcases List.mem_cons.mp hb with z | z
      · exact .inl (by simp [z])
      · rcases List.mem_cons.mp z with z | z
        · exact .inl (by simp [z])
        · rcases m b z with w | w
          · exact .inl (by simp [w])
          · exact .inr (by rw [List.mem_singleton.mp w]; exact ⟨hp, fn⟩)
/-- x.f.get(k, z) -/
@[simp] def dDGet2 (i : Nat) (C : Addr) (f : Str) (kk zz : DE) : DE := fun ρ P => ∃ o fs fv kvs, ρ[i]? = some (.own (.inst C o fs)) ∧ fs.lookup f = some fv ∧ fv.ints = some kvs ∧ kk ρ fun d => ∃ l ks, d = .tpl l ∧ keyL l = some ks ∧ zz ρ fun z => ∃ j, z = .int j ∧ P (.int ((valI kvs ks).getD j))
theorem ed_dget2 (i : Nat) {x f : Str} {C : Addr} {p p2 apos cpos : Pos} {kx zx : Expr} {kk zz : DE} (hu : X.A.units + 1 < cLine) (c : Cls X.K C) (n : NoAttr X.K C f) (hk : ED X kx kk) (hz : ED X zx zz) (m : M2 X (.Attribute (.Name x p) f p2) "get" apos kx zx cpos) (hi : X.N[i]? = some x := by rfl) (hv : Vis X.env.scope x := by first | exact Or.inl rfl | exact Or.inr (Or.inl rfl) | exact Or.inr (Or.inr rfl))
    (hd : (x == ("__debug__" : Str)) = false := by decide) (hcd : (x == ("__classdict__" : Str)) = false := by decide) (hb : attributeBase (.Name x p) f X.env (eval (.Name x p) X.env) = eval (.Name x p) X.env := by rfl) :
    ED X (.Call (.Attribute (.Attribute (.Name x p) f p2) "get" apos) [kx, zx] [] cpos) (dDGet2 i C f kk zz) :=
  peImp (pe_dget2 hu (pe_fld (pe_var hi hv hd hcd) hb) hk hz m) fun σ H Q ⟨F0, B, F, ρ, P, S, ⟨o, fs, fv, kvs, q, hf, hkv, w⟩, fin⟩ => by
    obtain ⟨a, dx, vs, fps, e, h1, r⟩ := S.instAt q
    obtain ⟨v, fp', e2, r2, _⟩ := r.look hf
    obtain ⟨p0, rfl, _, rd⟩ := r2.ints hkv
    refine ⟨.ref a, e, a, C, dx, vs, .ref p0, rfl, h1, c, n, e2, p0, rfl, .inr ⟨_, rd⟩, F0, B, F, ρ, _, S, w, fun d ⟨l, ks, ed, hl, w2⟩ vk F1 H1 E1 r1 => ?_⟩
    subst ed
    refine ⟨F0, B, F1, ρ, _, S.step E1, w2, fun z ⟨j, ej, hp⟩ vz F2 H2 E2 r3 => ?_⟩
    subst ej
    cases r3
    have r1 := r1.mono E2.ff
    cases r1 with
    | @tpl b xs _ hb rb =>
      have ex := repL_keys rb hl
      subst ex
      refine ⟨_, .inr ⟨_, ks, b, rd_keep E2.bh (rd_keep E1.bh rd), rfl, E2.fh _ _ hb, rfl⟩, ?_⟩
      have hg : (valV (kvs.map fun x => (x.1, V.int x.2)) ks).getD (V.int j) = V.int ((valI kvs ks).getD j) := by
        rw [valI_map]
        cases valI kvs ks <;> rfl
      rw [hg]
      exact ((fin.later E1).later E2).at E2.fh E2.nt hp (.int _)
end
end Dy

/-! # The data layer: methods, what is made. -/
namespace Dy
variable [Tn]
open PySem PySem.Spec PyProof.Rows L2
/-- a heap without a footprint -/
def wo (H : Hp) (fp : List Addr) : Hp := fun b => if b ∈ fp then none else H b
theorem wo_in {H : Hp} {fp : List Addr} {b : Addr} (h : b ∈ fp) : wo H fp b = none := if_pos h
theorem wo_out {H : Hp} {fp : List Addr} {b : Addr} (h : b ∉ fp) : wo H fp b = H b := if_neg h
abbrev Fs := List (Str × FV)
abbrev Spm := Fs → List D → (Fs → D → Prop) → Prop
/-- a method's promise: its object is its caller's own -/
def spM (K : PySem.W.Frag) (C : Addr) (φ : Spm) : Sp := fun vs H Q E => ∃ (F : Hp) (fs : Fs) (a : Addr) (fp : List Addr) (vs' : List V) (ds : List D) (P : Fs → D → Prop), vs = .ref a :: vs' ∧ Same F H ∧ NT F H ∧ ORep K F H (.inst C none fs) a fp ∧ (∀ b ∈ fp, F b = none) ∧ RepL K F ds vs' ∧ φ fs ds P ∧
  ∀ fs' d, P fs' d → ∀ v F' H' fp', Ext F (wo H fp) F' H' → ORep K F' H' (.inst C none fs') a fp' → (∀ b ∈ fp', F' b = none ∧ (b ∈ fp ∨ H b = none)) → Rep K F' d v → Q v H'
structure MetD (P : Program) (w : World) (K : PySem.W.Frag) (mg : Str → Option Value) (base : Heap) (CX : CXT) (C : Addr) (m : Str) (k : Nat) (φ : Spm) : Prop where
  ex : ∃ (f : Addr) (fd : FuncData) (ps : List Str), FnOk P w K mg base CX k f fd ps (spM K C φ) ∧ Meth K C m f ∧ Cls K C ∧ Binds K fd ps []
/-- what is made of a class -/
structure MakD (P : Program) (w : World) (K : PySem.W.Frag) (mg : Str → Option Value) (base : Heap) (CX : CXT) (x : Str) (C : Addr) (k : Nat) (φ : Spm) : Prop where
  ex : ∃ (f : Addr) (fd : FuncData) (ps : List Str), FnOk P w K mg base CX k f fd ps (spM K C φ) ∧ Mk K C f ∧ mg x = some (.ref C) ∧ Binds K fd ps []
/-- a method of frozen instances -/
structure MetF (P : Program) (w : World) (K : PySem.W.Frag) (mg : Str → Option Value) (base : Heap) (CX : CXT) (C : Addr) (m : Str) (k : Nat) (φ : Spc) : Prop where
  ex : ∃ (f : Addr) (fd : FuncData) (ps : List Str), FnOk P w K mg base CX k f fd ps (spD K φ) ∧ Meth K C m f ∧ Cls K C ∧ Binds K fd ps []
@[simp] def startM (N : List Str) (ob : OB) (ds : List D) : List Sl := .own ob :: (ds.map .d ++ List.replicate (N.length - (ds.length + 1)) .no)
theorem startM_own {N : List Str} {ob : OB} {ds : List D} {i : Nat} {o : OB} (q : (startM N ob ds)[i]? = some (.own o)) : i = 0 ∧ o = ob := by
  cases i with
  | zero =>
    simp at q
    exact ⟨rfl, q.symm⟩
  | succ i =>
    simp only [startM, List.getElem?_cons_succ] at q
    by_cases hi : i < ds.length
    · rw [List.getElem?_append_left (by simpa using hi), List.getElem?_map, List.getElem?_eq_getElem hi] at q
      cases q
    · rw [List.getElem?_append_right (by simp; omega), List.getElem?_replicate] at q
      split at q <;> cases q
theorem stR_startM {K : PySem.W.Frag} {F H : Hp} {ob : OB} {a : Addr} {fp : List Addr} {ds : List D} {vs : List V} (N : List Str) (s : Same F H) (n : NT F H) (ro : ORep K F H ob a fp) (nf : ∀ b ∈ fp, F b = none) (r : RepL K F ds vs) : StR K F (wo H fp) F (startM N ob ds) (L2.start N (.ref a :: vs)) H := by
  have hl := r.length
  have B0 : ∀ p o, wo H fp p = some o → H p = some o := fun p o e => by
    by_cases hp : p ∈ fp
    · rw [wo_in hp] at e; cases e
    · rw [wo_out hp] at e; exact e
  refine ⟨⟨Same.refl F, s, fun p o e => .inl (B0 p o e), fun p o h _ _ => h, n⟩, by simp [startM, L2.start, hl], fun i sl q => ?_, fun i => fp, fun i o q => ?_, fun i j o o' q1 q2 hij => absurd ((startM_own q1).1.trans (startM_own q2).1.symm) hij⟩
  · cases i with
    | zero =>
      simp at q
      subst q
      exact ⟨some (.ref a), by simp [L2.start], trivial⟩
    | succ i =>
      simp only [startM, List.getElem?_cons_succ] at q
      have e : (L2.start N (V.ref a :: vs))[i + 1]? = (vs.map some ++ List.replicate (N.length - (vs.length + 1)) none)[i]? := by
        simp [L2.start]
      rw [e]
      by_cases hi : i < ds.length
      · rw [List.getElem?_append_left (by simpa using hi), List.getElem?_map, List.getElem?_eq_getElem hi] at q
        obtain ⟨v, hv, rv⟩ := r.get (List.getElem?_eq_getElem hi)
        have q' : Sl.d ds[i] = sl := by simpa using q
        subst q'
        refine ⟨some v, ?_, v, rfl, rv⟩
        rw [List.getElem?_append_left (by simp; omega), List.getElem?_map, hv]
        rfl
      · rw [List.getElem?_append_right (by simp; omega), List.getElem?_replicate] at q
        split at q
        · cases q
          rename_i hlt
          refine ⟨none, ?_, trivial⟩
          rw [List.getElem?_append_right (by simp; omega), List.getElem?_replicate, if_pos (by simp at hlt ⊢; omega)]
        · cases q
  · obtain ⟨rfl, rfl⟩ := startM_own q
    exact ⟨a, by simp [L2.start], ro, fun b hb => ⟨nf b hb, wo_in hb⟩⟩
/-- an object of one's own behind a method's call -/
theorem StR.changeM {K : PySem.W.Frag} {F0 B F H : Hp} {ρ : List Sl} {σ : St} (S : StR K F0 B F ρ σ H) {i : Nat} {ob : OB} (q : ρ[i]? = some (.own ob)) :
    ∃ a fp, σ[i]? = some (some (.ref a)) ∧ ORep K F H ob a fp ∧ (∀ b ∈ fp, F b = none ∧ B b = none) ∧
      ∀ F' H' ob' fp', Ext F (wo H fp) F' H' → ORep K F' H' ob' a fp' → (∀ b ∈ fp', F' b = none ∧ (b ∈ fp ∨ H b = none)) → StR K F0 B F' (ρ.set i (.own ob')) σ H' := by
  obtain ⟨fps, w⟩ := S.own
  obtain ⟨a, e, r, n⟩ := w.1 i ob q
  refine ⟨a, fps i, e, r, n, fun F' H' ob' fp' E' r' new => ?_⟩
  have hl : i < ρ.length := (List.getElem?_eq_some_iff.mp q).1
  have out : ∀ {p : Addr} {o : HO}, B p = some o → wo H (fps i) p = H p := fun {p o} h => wo_out fun z => by rw [(n p z).2] at h; cases h
  have ext : Ext F0 B F' H' := by
    refine ⟨S.ext.ff.trans E'.ff, E'.fh, fun p o h => ?_, fun p o h0 hB ht => ?_, E'.nt⟩
    · rcases S.ext.bh p o h with z | ⟨⟨ps, z⟩, qs, z2⟩
      · exact E'.bh p o (by rw [out h]; exact z)
      · subst z
        rcases E'.bh p _ (by rw [out h]; exact z2) with z3 | ⟨_, rs, z3⟩
        · exact .inr ⟨⟨ps, rfl⟩, qs, z3⟩
        · exact .inr ⟨⟨ps, rfl⟩, rs, z3⟩
    · have hF := S.ext.fr p o h0 hB ht
      rcases S.ext.bh p o hB with z | ⟨⟨ps, z⟩, qs, z2⟩
      · exact E'.fr p o hF (by rw [out hB]; exact z) ht
      · subst z
        exact E'.fr p (.tbl qs) hF (by rw [out hB]; exact z2) (fun xs y => nomatch y)
  have other : ∀ {j : Nat} {o : OB}, j ≠ i → ρ[j]? = some (.own o) → ∀ b ∈ fps j, ∃ ho, H b = some ho ∧ Mu ho ∧ wo H (fps i) b = some ho := fun {j o} hj q2 b hb => by
    obtain ⟨a2, _, r2, _⟩ := w.1 j o q2
    obtain ⟨ho, e2, m⟩ := r2.mu b hb
    exact ⟨ho, e2, m, by rw [wo_out (w.2 j i o ob q2 q hj b hb)]; exact e2⟩
  refine ⟨ext, by simpa using S.len, fun j s q2 => ?_, pick i fp' fps, fun j o q2 => ?_, fun j m o o' q1 q2 nn b hb hb' => ?_⟩
  · by_cases hj : i = j
    · subst hj
      rw [List.getElem?_set_self hl] at q2
      cases q2
      exact ⟨_, e, trivial⟩
    · rw [List.getElem?_set_ne hj] at q2
      obtain ⟨o, e3, r3⟩ := S.slot j s q2
      exact ⟨o, e3, r3.mono E'.ff⟩
  · by_cases hj : j = i
    · subst hj
      rw [pick_self]
      rw [List.getElem?_set_self hl] at q2
      cases q2
      refine ⟨a, e, r', fun b hb => ⟨(new b hb).1, ?_⟩⟩
      rcases (new b hb).2 with z | z
      · exact (n b z).2
      · exact S.ext.bh.none z
    · rw [pick_ne hj]
      rw [List.getElem?_set_ne (Ne.symm hj)] at q2
      obtain ⟨a2, e2, r2, n2⟩ := w.1 j o q2
      refine ⟨a2, e2, r2.mono E'.ff fun b hb => ?_, fun b hb => ⟨?_, (n2 b hb).2⟩⟩
      · obtain ⟨ho, e3, m, e4⟩ := other hj q2 b hb
        rw [e3]
        exact E'.bh.ordi e4 m.ntbl
      · obtain ⟨ho, e3, m, e4⟩ := other hj q2 b hb
        exact E'.fr b ho (n2 b hb).1 e4 m.ntup
  · have dis : ∀ {j : Nat} {o : OB} {b : Addr}, j ≠ i → (ρ.set i (.own ob'))[j]? = some (.own o) → b ∈ fps j → b ∈ fp' → False := fun {j o b} hj q2 hb hb' => by
      rw [List.getElem?_set_ne (Ne.symm hj)] at q2
      rcases (new b hb').2 with z | z
      · exact w.2 i j ob o q q2 (Ne.symm hj) b z hb
      · obtain ⟨ho, e3, _⟩ := other hj q2 b hb
        rw [z] at e3
        cases e3
    by_cases hj : j = i
    · have hm : m ≠ i := fun z => nn (by rw [hj, z])
      subst hj
      rw [pick_self] at hb
      rw [pick_ne hm] at hb'
      exact dis hm q2 hb' hb
    · rw [pick_ne hj] at hb
      by_cases hm : m = i
      · subst hm
        rw [pick_self] at hb'
        exact dis hj q1 hb hb'
      · rw [pick_ne hm] at hb'
        rw [List.getElem?_set_ne (Ne.symm hj)] at q1
        rw [List.getElem?_set_ne (Ne.symm hm)] at q2
        exact w.2 j m o o' q1 q2 nn b hb hb'
theorem FsRep.keys {K : PySem.W.Frag} {F H : Hp} {fs : List (Str × FV)} {vs : List (Str × V)} {fp : List Addr} (h : FsRep K F H fs vs fp) {m : Str} (e : fs.lookup m = none) : vs.lookup m = none := by
  induction h with
  | nil => rfl
  | @cons x fv v fp fps fs vs _ _ ih =>
    rw [List.lookup_cons] at e ⊢
    cases hx : m == x with
    | true => rw [hx] at e; cases e
    | false => rw [hx] at e; exact ih e
theorem ORep.pin {K : PySem.W.Frag} {F H : Hp} {C a : Addr} {o : Option Addr} {fs : Fs} {fp : List Addr} (h : ORep K F H (.inst C o fs) a fp) (o' : Option Addr) (q : ∀ x, o' = some x → a = x) : ORep K F H (.inst C o' fs) a fp := by
  obtain ⟨dx, vs, fps, e, nd, h1, h2, h3, _⟩ := h
  exact ⟨dx, vs, fps, e, nd, h1, h2, h3, q⟩
theorem ORep.at {K : PySem.W.Frag} {F H : Hp} {C a : Addr} {o : Option Addr} {fs : Fs} {fp : List Addr} (h : ORep K F H (.inst C o fs) a fp) : ∀ x, o = some x → a = x := by
  obtain ⟨dx, vs, fps, e, nd, h1, h2, h3, h4⟩ := h
  exact h4
section
variable {P : Program} {w : World} {K : PySem.W.Frag} {mg : Str → Option Value} {base : Heap} {C : Addr}
/-- what a method's body is to bring -/
@[simp] def gM (C a : Addr) (P : Fs → D → Prop) : DEnds := { nx := fun ρ => ∃ fs, ρ[0]? = some (.own (.inst C (some a) fs)) ∧ P fs .non, rt := fun _ => False, rs := fun ρ d => ∃ fs, ρ[0]? = some (.own (.inst C (some a) fs)) ∧ P fs d }
theorem fnM_ok {x qual : Str} {st : Stmt} {f : Addr} {fd : FuncData} {N ps : List Str} {k : Nat} {φ : Spm} (F : Fun K x qual st f fd) (S : FnScope N ps (defScope st)) (len : ∀ fs ds P, φ fs ds P → ds.length + 1 = ps.length)
    (body : ∀ (cdv : Value) (A : Around) (outer : List Env) (s : Shared) (H : Hp) (E : XK), Room k (A.deeper (envOfC qual (defScope st) s.heap.objs.size f cdv)) →
      ∃ g : DS, SsD (cxOf CX0 P w K mg base N qual (defScope st) f cdv A outer s H E).nox E0 (defBody st) g ∧ ∀ a fs ds Q, φ fs ds Q → g (gM C a Q) (startM N (.inst C (some a) fs) ds)) : FnOk P w K mg base CX0 (k + 1) f fd ps (spM K C φ) := by
  refine F.ok S (fun vs H Q E ⟨F', fs, a, fp, vs', ds, P', e, s, n, ro, nf, r, h, _⟩ => by rw [e, List.length_cons, ← r.length]; exact len fs ds P' h) (fun cdv A outer s H vs Q E hr ⟨F', fs, a, fp, vs', ds, P', e, sm, n, ro, nf, r, h, fin⟩ => ?_)
  subst e
  obtain ⟨g, hg, q⟩ := body cdv A outer s H E hr
  have bot : ∀ {ρ' : List Sl} {F2 : Hp} {σ' : St} {H' : Hp} {d : D} {v : V}, (∃ fs', ρ'[0]? = some (.own (.inst C (some a) fs')) ∧ P' fs' d) → StR K F' (wo H fp) F2 ρ' σ' H' → Rep K F2 d v → Q v H' := fun {ρ' F2 σ' H' d v} ⟨fs', e, p⟩ S' r' => by
    obtain ⟨fps, w'⟩ := S'.own
    obtain ⟨a', e1, r1, n1⟩ := w'.1 0 _ e
    have ea : a' = a := r1.at a rfl
    subst ea
    refine fin fs' d p v F2 H' (fps 0) S'.ext (r1.pin none (fun x z => nomatch z)) (fun b hb => ⟨(n1 b hb).1, ?_⟩) r'
    by_cases hbf : b ∈ fp
    · exact .inl hbf
    · have := (n1 b hb).2
      rw [wo_out hbf] at this
      exact .inr this
  refine ⟨_, hg, F', wo H fp, F', _, _, stR_startM N sm n (ro.pin (some a) (fun x z => by cases z; rfl)) nf r, q a fs ds P' h, ⟨fun ρ' F2 σ' H' p _ S' => bot p S' .non, fun _ _ _ _ z => z.elim, fun _ _ _ _ z => z.elim, fun ρ' d v F2 σ' H' p S' r' => bot p S' r', fun _ _ _ z => z.elim⟩⟩
/-- a method of frozen instances -/
theorem fnF_ok {x qual : Str} {st : Stmt} {f : Addr} {fd : FuncData} {N ps : List Str} {k : Nat} {φ : Spc} (F : Fun K x qual st f fd) (S : FnScope N ps (defScope st)) (len : ∀ ds P Z, φ ds P Z → ds.length = ps.length)
    (body : ∀ (cdv : Value) (A : Around) (outer : List Env) (s : Shared) (H : Hp) (E : XK), Room k (A.deeper (envOfC qual (defScope st) s.heap.objs.size f cdv)) →
      ∃ g : DS, SsD (cxOf CX0 P w K mg base N qual (defScope st) f cdv A outer s H E).nox E0 (defBody st) g ∧ ∀ ds Q Z, φ ds Q Z → g { nx := fun _ => Q .non, rt := Q } (startS N ds)) : FnOk P w K mg base CX0 (k + 1) f fd ps (spD K φ) := by
  refine F.ok S (fun vs H Q E ⟨F', ds, P', Z, s, n, r, h, _⟩ => by rw [← r.length]; exact len ds P' Z h) (fun cdv A outer s H vs Q E hr ⟨F', ds, P', Z, sm, n, r, h, fin, _⟩ => ?_)
  obtain ⟨g, hg, q⟩ := body cdv A outer s H E hr
  exact ⟨_, hg, F', H, F', _, _, stR_start N sm n r, q ds P' Z h, ⟨fun ρ' F2 σ' H' p _ S' => fin .non p .non F2 H' S'.ext .non, fun _ _ _ _ z => z.elim, fun _ _ _ _ z => z.elim, fun _ d v F2 _ H' p S' r' => fin d p v F2 H' S'.ext r', fun _ _ _ z => z.elim⟩⟩
end
section
variable {X : Cx} {E : XK} {pos : Pos}
/-- a method of one's own object: what is wanted behind it, of the slots and of what it gives -/
@[simp] def dMeth (i : Nat) (C : Addr) (m : Str) (φ : Spm) (k : DA) : List Sl → (List Sl → D → Prop) → Prop := fun ρ R => ∃ o fs, ρ[i]? = some (.own (.inst C o fs)) ∧ fs.lookup m = none ∧ k ρ fun ds => φ fs ds fun fs' d => R (ρ.set i (.own (.inst C o fs'))) d
theorem toMeth {K : PySem.W.Frag} {F0 B F H : Hp} {ρ : List Sl} {σ : St} {i : Nat} {C : Addr} {m : Str} {φ : Spm} {k : DA} {R : List Sl → D → Prop} {Q : VK} (S : StR K F0 B F ρ σ H) (q : dMeth i C m φ k ρ R)
    (fin : ∀ ρ' d, R ρ' d → ∀ v F' H', Same F F' → StR K F0 B F' ρ' σ H' → Rep K F' d v → Q v H') {t : TA} (ht : ∀ σ H Q, tA K k σ H Q → t σ H Q) : tMeth C m (spM K C φ) [] E0 (tVar i) t σ H Q := by
  obtain ⟨o, fs, q, hm, w⟩ := q
  obtain ⟨a, dx, vs, fps, e, h1, r⟩ := S.instAt q
  refine ⟨.ref a, e, a, dx, vs, rfl, h1, r.keys hm, ht _ _ _ ⟨F0, B, F, ρ, _, S, w, fun ds hd vs' F1 H1 E1 r1 => ?_⟩⟩
  show spM K C φ (V.ref a :: (vs' ++ [])) H1 Q E0
  rw [List.append_nil]
  have S1 := S.step E1
  obtain ⟨a', fp, e', ro, n, ch⟩ := S1.changeM q
  rw [e] at e'
  cases e'
  refine ⟨F1, fs, a, fp, vs', ds, _, rfl, E1.fh, E1.nt, ro.pin none (fun x z => nomatch z), fun b hb => (n b hb).1, r1, hd, fun fs' d p v F' H' fp' E' ro' n' r' => fin _ d p v F' H' (E1.ff.trans E'.ff) (ch F' H' _ fp' E' (ro'.pin o ro.at) n') r'⟩
variable {x m : Str} {C : Addr} {CX : CXT} {j n : Nat} {φ : Spm} {e : Expr} {es : List Expr} {k : DA} {p apos cpos pos2 : Pos} {pl : Sem Bool}
end
end Dy

/-! # The data layer: calls of methods, of classes. -/
namespace Dy
variable [Tn]
open PySem PySem.Spec PyProof.Rows L2
theorem toNil {K : PySem.W.Frag} : ∀ σ H Q, tA K dNil σ H Q → tNil σ H Q := fun σ H Q ⟨F0, B, F, ρ, P, S, q, fin⟩ => fin [] q [] F H S.selfExt .nil
theorem ext_wo {F H : Hp} {fp : List Addr} {F' H' : Hp} (n : ∀ b ∈ fp, H b = none) {G : Hp} (g : ∀ b, b ∉ fp → G b = H b) (E : Ext F (wo G fp) F' H') : Ext F H F' H' := by
  have e : wo G fp = H := by
    funext b
    by_cases hb : b ∈ fp
    · rw [wo_in hb, n b hb]
    · rw [wo_out hb, g b hb]
  rw [e] at E
  exact E
section
variable {X : Cx} {E : XK} {pos : Pos} {x m y : Str} {C : Addr} {CX : CXT} {j n : Nat} {φ : Spm} {e o : Expr} {es : List Expr} {k : DA} {p apos cpos pos2 : Pos} {pl : Sem Bool}
@[simp] def dCallM (i : Nat) (C : Addr) (m : Str) (φ : Spm) (k : DA) : DS := fun G ρ => dMeth i C m φ k ρ fun ρ' _ => G.nx ρ'
@[simp] def dSetM (y i : Nat) (C : Addr) (m : Str) (φ : Spm) (k : DA) : DS := fun G ρ => dMeth i C m φ k ρ fun ρ' d => G.nx (ρ'.set y (.d d))
theorem sd_callM (i : Nat) (G : MetD X.prog X.w X.K X.mg X.base CX C m j φ) (hr : Room n X.A) (hx : Passes CX X E0) (ha : AD X (e :: es) k) (hjn : j ≤ n := by decide) (hi : X.N[i]? = some x := by rfl) (hv : Vis X.env.scope x := by first | exact Or.inl rfl | exact Or.inr (Or.inl rfl) | exact Or.inr (Or.inr rfl))
    (hd : (x == ("__debug__" : Str)) = false := by decide) (hcd : (x == ("__classdict__" : Str)) = false := by decide)
    (hst : starEach (e :: es) X.env = (false, eval e X.env) :: starEach es X.env := by rfl) (hpl : (backTo cpos (starEach es X.env)).any (·.1) = false := by rfl)
    (ht : eval (.Call (.Attribute (.Name x p) m apos) (e :: es) [] cpos) X.env = (do
      let ov ← eval (.Name x p) X.env
      standAt apos.atName
      let (f, first) ← holding [ov] (getMethod ov m pl)
      callWith cpos f first (backTo cpos (starEach (e :: es) X.env)) (backToKw cpos (keywordEach [] X.env))) := by rfl)
    (hsw : swapsWith (.Call (.Attribute (.Name x p) m apos) (e :: es) [] cpos) none pos2.line X.env = pure false := by rfl) :
    SD X E (.Expr (.Call (.Attribute (.Name x p) m apos) (e :: es) [] cpos) pos2) (dCallM i C m φ k) := by
  obtain ⟨f, fd, ps, F, hm, c, hb⟩ := G.ex
  exact psImp (ps_expr (pe_meth (pe_var hi hv hd hcd) c hm F (hr.mono hjn) hb .nil hx ha hst hpl ht) hsw) fun T σ H ⟨F0, B, F, ρ, G, S, q, k⟩ => toMeth S q (fun ρ' d p v F' H' s S' r => k.nx ρ' F' σ H' p s S') fun _ _ _ q => q
theorem sd_callM0 (i : Nat) (G : MetD X.prog X.w X.K X.mg X.base CX C m j φ) (hr : Room n X.A) (hx : Passes CX X E0) (hjn : j ≤ n := by decide) (hi : X.N[i]? = some x := by rfl) (hv : Vis X.env.scope x := by first | exact Or.inl rfl | exact Or.inr (Or.inl rfl) | exact Or.inr (Or.inr rfl))
    (hd : (x == ("__debug__" : Str)) = false := by decide) (hcd : (x == ("__classdict__" : Str)) = false := by decide)
    (ht : eval (.Call (.Attribute (.Name x p) m apos) [] [] cpos) X.env = (do
      let ov ← eval (.Name x p) X.env
      standAt apos.atName
      let (f, first) ← holding [ov] (getMethod ov m pl)
      callWith cpos f first (backTo cpos (starEach [] X.env)) (backToKw cpos (keywordEach [] X.env))) := by rfl)
    (hsw : swapsWith (.Call (.Attribute (.Name x p) m apos) [] [] cpos) none pos2.line X.env = pure false := by rfl) :
    SD X E (.Expr (.Call (.Attribute (.Name x p) m apos) [] [] cpos) pos2) (dCallM i C m φ dNil) := by
  obtain ⟨f, fd, ps, F, hm, c, hb⟩ := G.ex
  exact psImp (ps_expr (pe_meth0 (pe_var hi hv hd hcd) c hm F (hr.mono hjn) hb .nil hx ht) hsw) fun T σ H ⟨F0, B, F, ρ, G, S, q, k⟩ => toMeth S q (fun ρ' d p v F' H' s S' r => k.nx ρ' F' σ H' p s S') toNil
theorem sd_setM (jy i : Nat) {py : Pos} (hN : X.N.Nodup) (G : MetD X.prog X.w X.K X.mg X.base CX C m j φ) (hr : Room n X.A) (hx : Passes CX X E0) (ha : AD X (e :: es) k) (hjn : j ≤ n := by decide) (hy : X.N[jy]? = some y := by rfl) (hly : Loc X.env.scope y := by first | exact .inl rfl | exact .inr rfl) (hi : X.N[i]? = some x := by rfl) (hv : Vis X.env.scope x := by first | exact Or.inl rfl | exact Or.inr (Or.inl rfl) | exact Or.inr (Or.inr rfl))
    (hd : (x == ("__debug__" : Str)) = false := by decide) (hcd : (x == ("__classdict__" : Str)) = false := by decide)
    (hst : starEach (e :: es) X.env = (false, eval e X.env) :: starEach es X.env := by rfl) (hpl : (backTo cpos (starEach es X.env)).any (·.1) = false := by rfl)
    (ht : eval (.Call (.Attribute (.Name x p) m apos) (e :: es) [] cpos) X.env = (do
      let ov ← eval (.Name x p) X.env
      standAt apos.atName
      let (f, first) ← holding [ov] (getMethod ov m pl)
      callWith cpos f first (backTo cpos (starEach (e :: es) X.env)) (backToKw cpos (keywordEach [] X.env))) := by rfl)
    (hsw : swapsWith (.Call (.Attribute (.Name x p) m apos) (e :: es) [] cpos) (some (.Name y py)) pos2.line X.env = pure false := by rfl) (hf : X.fn y = true ∨ X.env.scope.names.lookup y = some .local := by first | exact .inl rfl | exact .inr rfl) :
    SD X E (.Assign [.Name y py] (.Call (.Attribute (.Name x p) m apos) (e :: es) [] cpos) pos2) (dSetM jy i C m φ k) := by
  obtain ⟨f, fd, ps, F, hm, c, hb⟩ := G.ex
  exact psImp (ps_set hN hy hly (pe_meth (pe_var hi hv hd hcd) c hm F (hr.mono hjn) hb .nil hx ha hst hpl ht) hsw hf) fun T σ H ⟨F0, B, F, ρ, G, S, q, k⟩ => toMeth S q (fun ρ' d p v F' H' s S' r => k.nx _ F' _ H' p s (S'.set jy r)) fun _ _ _ q => q
theorem sd_setM0 (jy i : Nat) {py : Pos} (hN : X.N.Nodup) (G : MetD X.prog X.w X.K X.mg X.base CX C m j φ) (hr : Room n X.A) (hx : Passes CX X E0) (hjn : j ≤ n := by decide) (hy : X.N[jy]? = some y := by rfl) (hly : Loc X.env.scope y := by first | exact .inl rfl | exact .inr rfl) (hi : X.N[i]? = some x := by rfl) (hv : Vis X.env.scope x := by first | exact Or.inl rfl | exact Or.inr (Or.inl rfl) | exact Or.inr (Or.inr rfl))
    (hd : (x == ("__debug__" : Str)) = false := by decide) (hcd : (x == ("__classdict__" : Str)) = false := by decide)
    (ht : eval (.Call (.Attribute (.Name x p) m apos) [] [] cpos) X.env = (do
      let ov ← eval (.Name x p) X.env
      standAt apos.atName
      let (f, first) ← holding [ov] (getMethod ov m pl)
      callWith cpos f first (backTo cpos (starEach [] X.env)) (backToKw cpos (keywordEach [] X.env))) := by rfl)
    (hsw : swapsWith (.Call (.Attribute (.Name x p) m apos) [] [] cpos) (some (.Name y py)) pos2.line X.env = pure false := by rfl) (hf : X.fn y = true ∨ X.env.scope.names.lookup y = some .local := by first | exact .inl rfl | exact .inr rfl) :
    SD X E (.Assign [.Name y py] (.Call (.Attribute (.Name x p) m apos) [] [] cpos) pos2) (dSetM jy i C m φ dNil) := by
  obtain ⟨f, fd, ps, F, hm, c, hb⟩ := G.ex
  exact psImp (ps_set hN hy hly (pe_meth0 (pe_var hi hv hd hcd) c hm F (hr.mono hjn) hb .nil hx ht) hsw hf) fun T σ H ⟨F0, B, F, ρ, G, S, q, k⟩ => toMeth S q (fun ρ' d p v F' H' s S' r => k.nx _ F' _ H' p s (S'.set jy r)) toNil
/-! ### what is made -/
theorem toMake {K : PySem.W.Frag} {F0 B F H : Hp} {ρ : List Sl} {σ : St} {R : Fs → Prop} {Q : VK} (S : StR K F0 B F ρ σ H) (q : k ρ fun ds => φ [] ds fun fs' d => d = .non ∧ R fs')
    (fin : ∀ fs', R fs' → ∀ a fp F' H', Ext F H F' H' → ORep K F' H' (.inst C none fs') a fp → (∀ b ∈ fp, F' b = none ∧ H b = none) → Q (.ref a) H') : tMake C (spM K C φ) [] E0 (tA K k) σ H Q := by
  refine ⟨F0, B, F, ρ, _, S, q, fun ds hd vs' F1 H1 E1 r1 => fun a dx ha hdx hne => ?_⟩
  show spM K C φ (V.ref a :: (vs' ++ [])) _ _ E0
  rw [List.append_nil]
  have E2 : Ext F1 H1 F1 (upd (upd H1 dx (.own a)) a (.ins C dx [])) := by
    have z1 := (Ext.refl E1.fh E1.nt).allocH (o := .own a) hdx trivial
    exact z1.trans ((Ext.refl z1.fh z1.nt).allocH (o := .ins C dx []) (by rw [upd_ne (Ne.symm hne)]; exact ha) trivial)
  refine ⟨F1, [], a, [a, dx], vs', ds, _, rfl, E2.fh, E2.nt, ⟨dx, [], [], rfl, by simp [Ne.symm hne], upd_same, by rw [upd_ne hne, upd_same], .nil, fun x z => nomatch z⟩, fun b hb => ?_, r1, hd, fun fs' d ⟨hdn, p⟩ v F' H' fp' E' ro' n' r' => ?_⟩
  · simp only [List.mem_cons, List.not_mem_nil, or_false] at hb
    rcases hb with rfl | rfl
    · exact E1.fh.free ha
    · exact E1.fh.free hdx
  · subst hdn
    cases r'
    have n0 : ∀ b ∈ [a, dx], H1 b = none := fun b hb => by
      simp only [List.mem_cons, List.not_mem_nil, or_false] at hb
      rcases hb with rfl | rfl
      · exact ha
      · exact hdx
    have g : ∀ b, b ∉ [a, dx] → (upd (upd H1 dx (.own a)) a (.ins C dx [])) b = H1 b := fun b hb => by
      rw [upd_ne (fun z => hb (by simp [z])), upd_ne (fun z => hb (by simp [z]))]
    have E3 := ext_wo n0 g E'
    refine ⟨rfl, fin fs' p a fp' F' H' (E1.trans E3) ro' fun b hb => ⟨(n' b hb).1, ?_⟩⟩
    rcases (n' b hb).2 with z | z
    · exact E1.bh.none (n0 b z)
    · by_cases hb2 : b ∈ [a, dx]
      · exact E1.bh.none (n0 b hb2)
      · rw [g b hb2] at z
        exact E1.bh.none z
/-- y = C(..), one's own -/
@[simp] def dMakeS (jy : Nat) (C : Addr) (φ : Spm) (k : DA) : DS := fun G ρ => k ρ fun ds => φ [] ds fun fs' d => d = .non ∧ G.nx (ρ.set jy (.own (.inst C none fs')))
theorem sd_makeS (jy : Nat) {py : Pos} (hN : X.N.Nodup) (M : MakD X.prog X.w X.K X.mg X.base CX x C j φ) (hr : Room n X.A) (hx : Passes CX X E0) (ha : AD X (e :: es) k) (hjn : j + 1 ≤ n := by decide) (hy : X.N[jy]? = some y := by rfl) (hly : Loc X.env.scope y := by first | exact .inl rfl | exact .inr rfl) (hg : Gl X x := by rfl) (hdb : (x == ("__debug__" : Str)) = false := by decide)
    (he : starEach (e :: es) X.env = (false, eval e X.env) :: starEach es X.env := by rfl) (hpl : (backTo cpos (starEach es X.env)).any (·.1) = false := by rfl)
    (hsw : swapsWith (.Call (.Name x p) (e :: es) [] cpos) (some (.Name y py)) pos2.line X.env = pure false := by rfl) (hf : X.fn y = true ∨ X.env.scope.names.lookup y = some .local := by first | exact .inl rfl | exact .inr rfl) :
    SD X E (.Assign [.Name y py] (.Call (.Name x p) (e :: es) [] cpos) pos2) (dMakeS jy C φ k) := by
  obtain ⟨f, fd, ps, F, mk, hm, hb⟩ := M.ex
  exact psImp (ps_set hN hy hly (pe_make mk F (hr.mono hjn) hg hm hb .nil hx ha hdb he hpl) hsw hf) fun T σ H ⟨F0, B, F, ρ, G, S, q, k⟩ => toMake S q fun fs' p a fp F' H' E' ro n => k.nx _ F' _ H' p E'.ff (S.setNew jy E' ro n)
/-- C(..), frozen -/
@[simp] def dMakeE (C : Addr) (φ : Spm) (k : DA) : DE := fun ρ P => k ρ fun ds => φ [] ds fun fs' d => d = .non ∧ (∀ z ∈ fs', z.2.free) ∧ P (OB.inst C none fs').frz
theorem ed_make (M : MakD X.prog X.w X.K X.mg X.base CX x C j φ) (hr : Room n X.A) (hx : Passes CX X E0) (ha : AD X (e :: es) k) (hjn : j + 1 ≤ n := by decide) (hg : Gl X x := by rfl) (hdb : (x == ("__debug__" : Str)) = false := by decide)
    (he : starEach (e :: es) X.env = (false, eval e X.env) :: starEach es X.env := by rfl) (hpl : (backTo cpos (starEach es X.env)).any (·.1) = false := by rfl) :
    ED X (.Call (.Name x p) (e :: es) [] cpos) (dMakeE C φ k) := by
  obtain ⟨f, fd, ps, F, mk, hm, hb⟩ := M.ex
  exact peImp (pe_make mk F (hr.mono hjn) hg hm hb .nil hx ha hdb he hpl) fun σ H Q ⟨F0, B, F, ρ, P, S, q, fin⟩ => toMake S q fun fs' ⟨hf, p⟩ a fp F' H' E' ro n =>
    fin _ p (.ref a) (frzs F' H' fp) H' (E'.frzs ro.mu n) (ro.frz hf fun b hb => (n b hb).1)
/-! ### methods of frozen instances -/
@[simp] def dMethF (C : Addr) (m : Str) (φ : Spc) (f : DE) (k : DA) : DE := fun ρ P => f ρ fun x => ∃ ns l, x = .ins C ns l ∧ m ∉ ns ∧ k ρ fun ds => φ (x :: ds) P fun _ => False
theorem lookup_none {β : Type} {m : Str} : ∀ {fs : List (Str × β)}, m ∉ fs.map (·.1) → fs.lookup m = none
  | [], _ => rfl
  | (x, v) :: fs, h => by
    simp only [List.map_cons, List.mem_cons, not_or] at h
    rw [List.lookup_cons, beq_false_of_ne h.1]
    exact lookup_none h.2
theorem toMethF {K : PySem.W.Frag} {φ : Spc} {f : DE} {t : TA} (ht : ∀ σ H Q, tA K k σ H Q → t σ H Q) : ∀ σ H Q, tE K (dMethF C m φ f k) σ H Q → tMeth C m (spD K φ) [] E0 (tE K f) t σ H Q := fun σ H Q ⟨F0, B, F, ρ, P, S, q, fin⟩ =>
  ⟨F0, B, F, ρ, _, S, q, fun x ⟨ns, l, ex, hm, w⟩ v F1 H1 E1 r1 => by
    subst ex
    cases r1 with
    | @ins a _ dx fs _ _ h e r =>
      refine ⟨a, dx, fs, rfl, E1.fh _ _ h, lookup_none (by rw [e]; exact hm), ht _ _ _ ⟨F0, B, F1, ρ, _, S.step E1, w, fun ds hd vs F2 H2 E2 r2 => ?_⟩⟩
      show spD K φ (V.ref a :: (vs ++ [])) _ _ E0
      rw [List.append_nil]
      exact ⟨F2, _, P, _, E2.fh, E2.nt, .cons (.ins (E2.ff _ _ h) e (r.mono E2.ff)) r2, hd, (fin.later E1).later E2, fun c z => z.elim⟩⟩
theorem ed_methF {f : DE} {φ : Spc} (G : MetF X.prog X.w X.K X.mg X.base CX C m j φ) (hr : Room n X.A) (hx : Passes CX X E0) (ho : ED X o f) (ha : AD X (e :: es) k) (hjn : j ≤ n := by decide)
    (hst : starEach (e :: es) X.env = (false, eval e X.env) :: starEach es X.env := by rfl) (hpl : (backTo cpos (starEach es X.env)).any (·.1) = false := by rfl)
    (ht : eval (.Call (.Attribute o m apos) (e :: es) [] cpos) X.env = (do
      let ov ← eval o X.env
      standAt apos.atName
      let (f, first) ← holding [ov] (getMethod ov m pl)
      callWith cpos f first (backTo cpos (starEach (e :: es) X.env)) (backToKw cpos (keywordEach [] X.env))) := by rfl) :
    ED X (.Call (.Attribute o m apos) (e :: es) [] cpos) (dMethF C m φ f k) := by
  obtain ⟨f, fd, ps, F, hm, c, hb⟩ := G.ex
  exact peImp (pe_meth ho c hm F (hr.mono hjn) hb .nil hx ha hst hpl ht) (toMethF fun _ _ _ q => q)
theorem ed_methF0 {f : DE} {φ : Spc} (G : MetF X.prog X.w X.K X.mg X.base CX C m j φ) (hr : Room n X.A) (hx : Passes CX X E0) (ho : ED X o f) (hjn : j ≤ n := by decide)
    (ht : eval (.Call (.Attribute o m apos) [] [] cpos) X.env = (do
      let ov ← eval o X.env
      standAt apos.atName
      let (f, first) ← holding [ov] (getMethod ov m pl)
      callWith cpos f first (backTo cpos (starEach [] X.env)) (backToKw cpos (keywordEach [] X.env))) := by rfl) :
    ED X (.Call (.Attribute o m apos) [] [] cpos) (dMethF C m φ f dNil) := by
  obtain ⟨f, fd, ps, F, hm, c, hb⟩ := G.ex
  exact peImp (pe_meth0 ho c hm F (hr.mono hjn) hb .nil hx ht) (toMethF toNil)
end
end Dy

/-! # The data layer: dicts of one's own, walks over dicts, truths. -/
namespace Dy
variable [Tn]
open PySem PySem.Spec PyProof.Rows L2
/-! ### dicts with ints and texts for keys -/
def getL (ks : List Key) (l : List D) (k : Key) : Option D := ((List.zip ks l).find? fun x => decide (x.1 = k)).map (·.2)
def hasK (ks : List Key) (k : Key) : Bool := ks.any fun x => decide (x = k)
def putKs (ks : List Key) (k : Key) : List Key := if hasK ks k = true then ks else ks ++ [k]
def putDs (ks : List Key) (l : List D) (k : Key) (d : D) : List D := if hasK ks k = true then List.zipWith (fun x y => if x = k then d else y) ks l else l ++ [d]
section
variable {K : PySem.W.Frag} {F H : Hp}
theorem getL_rep {k : Key} : ∀ {kvs : List (Key × V)} {l : List D}, RepL K F l (kvs.map (·.2)) → (getL (kvs.map (·.1)) l k = none → valV kvs k = none) ∧ ∀ d, getL (kvs.map (·.1)) l k = some d → ∃ v, valV kvs k = some v ∧ Rep K F d v
  | [], _, r => by
    cases r
    exact ⟨fun _ => rfl, fun d h => by simp [getL] at h⟩
  | (x, v) :: kvs, _, r => by
    cases r with
    | @cons d0 _ l _ r rr =>
      obtain ⟨i1, i2⟩ := getL_rep (k := k) rr
      simp only [getL, valV, List.map_cons, List.zip_cons_cons, List.find?_cons] at i1 i2 ⊢
      by_cases hx : x = k
      · simp only [hx, decide_true]
        exact ⟨(by intro z; cases z), fun d e => by cases e; exact ⟨v, rfl, r⟩⟩
      · simp only [hx, decide_false]
        exact ⟨i1, i2⟩
theorem put_rep {k : Key} {d : D} {v : V} (rd : Rep K F d v) {kvs : List (Key × V)} {l : List D} (r : RepL K F l (kvs.map (·.2))) :
    (putK kvs k v).map (·.1) = putKs (kvs.map (·.1)) k ∧ RepL K F (putDs (kvs.map (·.1)) l k d) ((putK kvs k v).map (·.2)) := by
  have hany : (kvs.any fun kv => decide (kv.1 = k)) = hasK (kvs.map (·.1)) k := by
    unfold hasK
    rw [List.any_map]
    rfl
  unfold putK putKs putDs
  rw [hany]
  by_cases h : hasK (kvs.map (·.1)) k = true
  · rw [if_pos h, if_pos h, if_pos h]
    clear hany h
    induction kvs generalizing l with
    | nil => cases r; exact ⟨rfl, .nil⟩
    | cons x kvs ih =>
      cases r with
      | cons r rr =>
        obtain ⟨i1, i2⟩ := ih rr
        simp only [List.map_cons, List.zipWith_cons_cons]
        refine ⟨?_, .cons ?_ i2⟩
        · rw [i1]
          split <;> rfl
        · split <;> assumption
  · rw [if_neg h, if_neg h, if_neg h]
    exact ⟨by simp, by rw [List.map_append]; exact r.append (.one rd)⟩
theorem StR.ownD {F0 B : Hp} {ρ : List Sl} {σ : St} (S : StR K F0 B F ρ σ H) {i : Nat} {ks : List Key} {l : List D} (q : ρ[i]? = some (.own (.dic ks l))) :
    ∃ a kvs, σ[i]? = some (some (.ref a)) ∧ H a = some (.dK kvs) ∧ F a = none ∧ B a = none ∧ kvs.map (·.1) = ks ∧ RepL K F l (kvs.map (·.2)) ∧ ∀ (ks' : List Key) (l' : List D) (kvs' : List (Key × V)), kvs'.map (·.1) = ks' → RepL K F l' (kvs'.map (·.2)) → StR K F0 B F (ρ.set i (.own (.dic ks' l'))) σ (upd H a (.dK kvs')) := by
  obtain ⟨a, fp, e, ⟨rfl, kvs, h1, h2, r⟩, n, ch⟩ := S.change q
  refine ⟨a, kvs, e, h1, (n a (by simp)).1, (n a (by simp)).2, h2, r, fun ks' l' kvs' e' r' => ch _ _ [a] (S.ext.own h1 trivial trivial (n a (by simp)).1 (n a (by simp)).2) (fun b hb o eb => ?_) ⟨rfl, kvs', upd_same, e', r'⟩ fun b hb => .inl hb⟩
  rw [upd_ne (fun z => hb (by simp [z]))]
  exact eb
end
section
variable {X : Cx} {E : XK} {pos : Pos} {x y : Str} {C : Addr} {e kx : Expr} {kk vv f : DE} {p p2 apos cpos : Pos}
/-- y = {k: v}, one's own -/
@[simp] def dDic1 (i : Nat) (kk vv : DE) : DS := fun G ρ => kk ρ fun dk => vv ρ fun dv => ∃ key, keyD1 dk = some key ∧ G.nx (ρ.set i (.own (.dic [key] [dv])))
theorem sd_dic1 (i : Nat) {py p3 : Pos} (hN : X.N.Nodup) (hk : ED X kx kk) (he : ED X e vv) (hy : X.N[i]? = some y := by rfl) (hly : Loc X.env.scope y := by first | exact .inl rfl | exact .inr rfl)
    (hs : swapsWith (.Dict [some kx] [e] p3) (some (.Name y py)) pos.line X.env = pure false := by rfl) (hf : X.fn y = true ∨ X.env.scope.names.lookup y = some .local := by first | exact .inl rfl | exact .inr rfl) :
    SD X E (.Assign [.Name y py] (.Dict [some kx] [e] p3) pos) (dDic1 i kk vv) :=
  psImp (ps_set hN hy hly (pe_disp (pps_cons hk he pps_nil) rfl rfl (by simp) (Nat.le_of_ble_eq_true rfl)) hs hf) fun T σ H ⟨F0, B, F, ρ, G, S, q, k⟩ => fun p hp => by
    have E1 : Ext F H F (upd H p (.dK [])) := S.selfExt.allocH hp trivial
    refine ⟨F0, B, F, ρ, _, S.step E1, q, fun dk hk vk F2 H2 E2 r2 => ⟨F0, B, F2, ρ, _, (S.step E1).step E2, hk, fun dv ⟨key, ek, hn⟩ v F3 H3 E3 r3 => ?_⟩⟩
    have h2 : H3 p = some (.dK []) := E3.bh.ordi (E2.bh.ordi upd_same fun ps z => nomatch z) fun ps z => nomatch z
    have e2 := rep_key r2 ek
    subst e2
    refine ⟨h2, [(key, v)], rfl, by simp, ?_⟩
    have hF : F p = none := S.fh.free hp
    have hF2 : F2 p = none := E2.fr p _ hF upd_same (fun xs z => nomatch z)
    have hF3 : F3 p = none := E3.fr p _ hF2 (E2.bh.ordi upd_same fun ps z => nomatch z) (fun xs z => nomatch z)
    have EE : Ext F H F3 (upd H3 p (.dK [(key, v)])) := (E1.trans (E2.trans E3)).own h2 trivial trivial hF3 hp
    exact k.nx _ F3 _ _ hn EE.ff (S.setNew i EE (show ORep X.K F3 _ (.dic [key] [dv]) p [p] from ⟨rfl, [(key, v)], upd_same, rfl, .one r3⟩) fun b hb => by rw [List.mem_singleton.mp hb]; exact ⟨hF3, hp⟩)
/-- y = {}, one's own -/
@[simp] def dDic0 (i : Nat) : DS := fun G ρ => G.nx (ρ.set i (.own (.dic [] [])))
theorem sd_dic0 (i : Nat) {py p3 : Pos} (hN : X.N.Nodup) (hy : X.N[i]? = some y := by rfl) (hly : Loc X.env.scope y := by first | exact .inl rfl | exact .inr rfl)
    (hs : swapsWith (.Dict [] [] p3) (some (.Name y py)) pos.line X.env = pure false := by rfl) (hf : X.fn y = true ∨ X.env.scope.names.lookup y = some .local := by first | exact .inl rfl | exact .inr rfl) :
    SD X E (.Assign [.Name y py] (.Dict [] [] p3) pos) (dDic0 i) :=
  psImp (ps_set hN hy hly pe_dnewK hs hf) fun T σ H ⟨F0, B, F, ρ, G, S, q, k⟩ => fun p hp => by
    have EE : Ext F H F (upd H p (.dK [])) := S.selfExt.allocH hp trivial
    have hF : F p = none := S.fh.free hp
    exact k.nx _ F _ _ q EE.ff (S.setNew i EE (show ORep X.K F _ (.dic [] []) p [p] from ⟨rfl, [], upd_same, rfl, .nil⟩) fun b hb => by rw [List.mem_singleton.mp hb]; exact ⟨hF, hp⟩)
/-- x[k] = v -/
@[simp] def dKPut (i : Nat) (kk vv : DE) : DS := fun G ρ => vv ρ fun dv => ∃ ks l, ρ[i]? = some (.own (.dic ks l)) ∧ ks.length < 1000000 ∧ kk ρ fun dk => ∃ key, keyD1 dk = some key ∧ G.nx (ρ.set i (.own (.dic (putKs ks key) (putDs ks l key dv))))
theorem sd_kput (i : Nat) {p3 : Pos} (hu : X.A.units + 1 < cLine) (hk : ED X kx kk) (he : ED X e vv) (hs : swapsWith e (some (.Subscript (.Name x p) kx p3)) pos.line X.env = pure false := by rfl) (hi : X.N[i]? = some x := by rfl)
    (hv : Vis X.env.scope x := by first | exact Or.inl rfl | exact Or.inr (Or.inl rfl) | exact Or.inr (Or.inr rfl)) (hd : (x == ("__debug__" : Str)) = false := by decide) (hcd : (x == ("__classdict__" : Str)) = false := by decide) :
    SD X E (.Assign [.Subscript (.Name x p) kx p3] e pos) (dKPut i kk vv) :=
  psImp (ps_dput hu (pe_var hi hv hd hcd) hk he hs) fun T σ H ⟨F0, B, F, ρ, G, S, q, k⟩ =>
    ⟨F0, B, F, ρ, _, S, q, fun dv ⟨ks, l, q, hl, w⟩ v F1 H1 E1 r1 => by
      have S1 := S.step E1
      obtain ⟨a, kvs, e1, h1, _, _, ek, rl, _⟩ := S1.ownD q
      refine ⟨.ref a, e1, F0, B, F1, ρ, _, S1, w, fun dk ⟨key, ekk, hn⟩ vk F2 H2 E2 rk => ?_⟩
      have S2 := S1.step E2
      obtain ⟨a', kvs', e1', h1', _, _, ek', rl', ch⟩ := S2.ownD q
      rw [e1] at e1'
      cases e1'
      have e3 := rep_key rk ekk
      subst e3
      obtain ⟨z1, z2⟩ := put_rep (k := key) (r1.mono E2.ff) rl'
      rw [ek'] at z1 z2
      refine ⟨a, _, rfl, .inl ⟨kvs', key, h1', rfl, ?_, rfl⟩, k.nx _ F2 _ _ hn (E1.ff.trans E2.ff) (ch _ _ _ z1 z2)⟩
      have := congrArg List.length ek'
      rw [List.length_map] at this
      rw [this]
      exact smallM (by omega)⟩
/-- k in x -/
@[simp] def dKIn (i : Nat) (kk : DE) : DE := fun ρ P => kk ρ fun dk => ∃ key ks l, keyD1 dk = some key ∧ ρ[i]? = some (.own (.dic ks l)) ∧ P (.bl (getL ks l key).isSome)
@[simp] def dKNotIn (i : Nat) (kk : DE) : DE := fun ρ P => kk ρ fun dk => ∃ key ks l, keyD1 dk = some key ∧ ρ[i]? = some (.own (.dic ks l)) ∧ P (.bl (!(getL ks l key).isSome))
theorem getL_some {K : PySem.W.Frag} {F : Hp} {k : Key} {kvs : List (Key × V)} {l : List D} (r : RepL K F l (kvs.map (·.2))) : (valV kvs k).isSome = (getL (kvs.map (·.1)) l k).isSome := by
  obtain ⟨h1, h2⟩ := getL_rep (k := k) r
  cases e : getL (kvs.map (·.1)) l k with
  | none => rw [h1 e]; rfl
  | some d =>
    obtain ⟨v, ev, _⟩ := h2 d e
    rw [ev]
    rfl
theorem toKIn (i : Nat) : ∀ σ H Q, tE X.K (dKIn i kk) σ H Q → tDIn (tE X.K kk) (tVar i) σ H Q := fun σ H Q ⟨F0, B, F, ρ, P, S, q, fin⟩ =>
  ⟨F0, B, F, ρ, _, S, q, fun dk ⟨key, ks, l, ek, q, hp⟩ v F1 H1 E1 r1 => by
    obtain ⟨a, kvs, e1, h1, _, _, e2, rl, _⟩ := (S.step E1).ownD q
    have e3 := rep_key r1 ek
    subst e3
    refine ⟨.ref a, e1, a, _, rfl, DGet.k h1, ?_⟩
    rw [getL_some rl, e2]
    exact (fin.later E1).at E1.fh E1.nt hp (.bl _)⟩
theorem toKNotIn (i : Nat) : ∀ σ H Q, tE X.K (dKNotIn i kk) σ H Q → tDNotIn (tE X.K kk) (tVar i) σ H Q := fun σ H Q ⟨F0, B, F, ρ, P, S, q, fin⟩ =>
  ⟨F0, B, F, ρ, _, S, q, fun dk ⟨key, ks, l, ek, q, hp⟩ v F1 H1 E1 r1 => by
    obtain ⟨a, kvs, e1, h1, _, _, e2, rl, _⟩ := (S.step E1).ownD q
    have e3 := rep_key r1 ek
    subst e3
    refine ⟨.ref a, e1, a, _, rfl, DGet.k h1, ?_⟩
    rw [getL_some rl, e2]
    exact (fin.later E1).at E1.fh E1.nt hp (.bl _)⟩
theorem ed_kin (i : Nat) (hu : X.A.units + 1 < cLine) (hk : ED X kx kk) (hi : X.N[i]? = some x := by rfl) (hv : Vis X.env.scope x := by first | exact Or.inl rfl | exact Or.inr (Or.inl rfl) | exact Or.inr (Or.inr rfl)) (hd : (x == ("__debug__" : Str)) = false := by decide) (hcd : (x == ("__classdict__" : Str)) = false := by decide)
    (hm : behindInMarks .In (.Name x p) = false := by rfl) : ED X (.Compare kx [.In] [.Name x p] pos) (dKIn i kk) := peImp (pe_cmp (pc_din hu hk (pe_var hi hv hd hcd)) hm) (toKIn i)
theorem ed_knotin (i : Nat) (hu : X.A.units + 1 < cLine) (hk : ED X kx kk) (hi : X.N[i]? = some x := by rfl) (hv : Vis X.env.scope x := by first | exact Or.inl rfl | exact Or.inr (Or.inl rfl) | exact Or.inr (Or.inr rfl)) (hd : (x == ("__debug__" : Str)) = false := by decide) (hcd : (x == ("__classdict__" : Str)) = false := by decide)
    (hm : behindInMarks .NotIn (.Name x p) = false := by rfl) : ED X (.Compare kx [.NotIn] [.Name x p] pos) (dKNotIn i kk) := peImp (pe_cmp (pc_dnotin hu hk (pe_var hi hv hd hcd)) hm) (toKNotIn i)
theorem td_kin (i : Nat) (hu : X.A.units + 1 < cLine) (hk : ED X kx kk) (hi : X.N[i]? = some x := by rfl) (hv : Vis X.env.scope x := by first | exact Or.inl rfl | exact Or.inr (Or.inl rfl) | exact Or.inr (Or.inr rfl)) (hd : (x == ("__debug__" : Str)) = false := by decide) (hcd : (x == ("__classdict__" : Str)) = false := by decide)
    (hm : behindInMarks .In (.Name x p) = false := by rfl) : TD X (.Compare kx [.In] [.Name x p] pos) (dTest (dKIn i kk)) := ptImp (pt_cmp (pc_din hu hk (pe_var hi hv hd hcd)) hm) fun σ H Q q => toKIn i σ H _ (toTest σ H Q q)
theorem td_knotin (i : Nat) (hu : X.A.units + 1 < cLine) (hk : ED X kx kk) (hi : X.N[i]? = some x := by rfl) (hv : Vis X.env.scope x := by first | exact Or.inl rfl | exact Or.inr (Or.inl rfl) | exact Or.inr (Or.inr rfl)) (hd : (x == ("__debug__" : Str)) = false := by decide) (hcd : (x == ("__classdict__" : Str)) = false := by decide)
    (hm : behindInMarks .NotIn (.Name x p) = false := by rfl) : TD X (.Compare kx [.NotIn] [.Name x p] pos) (dTest (dKNotIn i kk)) := ptImp (pt_cmp (pc_dnotin hu hk (pe_var hi hv hd hcd)) hm) fun σ H Q q => toKNotIn i σ H _ (toTest σ H Q q)
/-- x[k], one's own -/
@[simp] def dKGet (i : Nat) (kk : DE) : DE := fun ρ P => ∃ ks l, ρ[i]? = some (.own (.dic ks l)) ∧ kk ρ fun dk => ∃ key d, keyD1 dk = some key ∧ getL ks l key = some d ∧ P d
theorem ed_kget (i : Nat) (hu : X.A.units + 1 < cLine) (hk : ED X kx kk) (hi : X.N[i]? = some x := by rfl) (hv : Vis X.env.scope x := by first | exact Or.inl rfl | exact Or.inr (Or.inl rfl) | exact Or.inr (Or.inr rfl)) (hd : (x == ("__debug__" : Str)) = false := by decide) (hcd : (x == ("__classdict__" : Str)) = false := by decide)
    (hs : NoSl kx := by exact fun _ _ => rfl) : ED X (.Subscript (.Name x p) kx pos) (dKGet i kk) := peImp (pe_dget hu (pe_var hi hv hd hcd) hk hs) fun σ H Q ⟨F0, B, F, ρ, P, S, ⟨ks, l, q, w⟩, fin⟩ => by
    obtain ⟨a, kvs, e1, h1, _, _, e2, rl, _⟩ := S.ownD q
    refine ⟨.ref a, e1, F0, B, F, ρ, _, S, w, fun dk ⟨key, d, ek, hg, hp⟩ v F1 H1 E1 r1 => ?_⟩
    obtain ⟨a', kvs', e1', h1', _, _, e2', rl', _⟩ := (S.step E1).ownD q
    rw [e1] at e1'
    cases e1'
    have e3 := rep_key r1 ek
    subst e3
    rw [← e2'] at hg
    obtain ⟨u, hu, ru⟩ := (getL_rep (k := key) rl').2 d hg
    refine ⟨a, u, rfl, ?_, (fin.later E1).at E1.fh E1.nt hp ru⟩
    rw [← hu]
    exact DGet.k h1'
/-- d[k], frozen: keys ints and texts, or tuples -/
@[simp] def fgD : D → D → (D → Prop) → Prop
  | .dic ks l, dk, P => ∃ key d, keyD1 dk = some key ∧ getL ks l key = some d ∧ P d
  | .dct kvs, .tpl l, P => ∃ ks m, keyL l = some ks ∧ valI kvs ks = some m ∧ P (.int m)
  | _, _, _ => False
@[simp] def dFGet (f kk : DE) : DE := fun ρ P => f ρ fun x => kk ρ fun dk => fgD x dk P
theorem ed_fget (hu : X.A.units + 1 < cLine) (he : ED X e f) (hk : ED X kx kk) (hs : NoSl kx := by exact fun _ _ => rfl) : ED X (.Subscript e kx pos) (dFGet f kk) := peImp (pe_dget hu he hk hs) fun σ H Q ⟨F0, B, F, ρ, P, S, q, fin⟩ =>
  ⟨F0, B, F, ρ, _, S, q, fun x hx vx F1 H1 E1 r1 => ⟨F0, B, F1, ρ, _, S.step E1, hx, fun dk hd v F2 H2 E2 r2 => by
    have r1 := r1.mono E2.ff
    have fin2 := (fin.later E1).later E2
    cases r1 with
    | @dic a kvs ks l h e r =>
      obtain ⟨key, d, ek, hg, hp⟩ := hd
      have e3 := rep_key r2 ek
      subst e3
      rw [← e] at hg
      obtain ⟨u, hu, ru⟩ := (getL_rep (k := key) r).2 d hg
      refine ⟨a, u, rfl, ?_, fin2.at E2.fh E2.nt hp ru⟩
      rw [← hu]
      exact DGet.k (E2.fh _ _ h)
    | @dct a kvs h =>
      cases r2 with
      | @tpl b xs l hb rb =>
        obtain ⟨ks, m, hl, hm, hp⟩ := hd
        have ex := repL_keys rb hl
        subst ex
        refine ⟨a, .int m, rfl, .inr ⟨_, ks, b, .inl (E2.fh _ _ h), rfl, E2.fh _ _ hb, ?_⟩, fin2.at E2.fh E2.nt hp (.int m)⟩
        rw [valI_map, hm]
        rfl
      | _ => exact hd.elim
    | _ => cases r2 <;> exact hd.elim⟩⟩
/-- k in d, frozen -/
@[simp] def dFIn (kk f : DE) : DE := fun ρ P => kk ρ fun dk => f ρ fun x => ∃ key ks l, keyD1 dk = some key ∧ x = .dic ks l ∧ P (.bl (getL ks l key).isSome)
theorem toFIn : ∀ σ H Q, tE X.K (dFIn kk f) σ H Q → tDIn (tE X.K kk) (tE X.K f) σ H Q := fun σ H Q ⟨F0, B, F, ρ, P, S, q, fin⟩ =>
  ⟨F0, B, F, ρ, _, S, q, fun dk hk v F1 H1 E1 r1 => ⟨F0, B, F1, ρ, _, S.step E1, hk, fun x ⟨key, ks, l, ek, ex, hp⟩ vx F2 H2 E2 r2 => by
    subst ex
    have e3 := rep_key r1 ek
    subst e3
    cases r2 with
    | @dic a kvs _ _ h e r =>
      refine ⟨a, _, rfl, DGet.k (E2.fh _ _ h), ?_⟩
      rw [getL_some r, e]
      exact ((fin.later E1).later E2).at E2.fh E2.nt hp (.bl _)⟩⟩
theorem ed_fin (hu : X.A.units + 1 < cLine) (hk : ED X kx kk) (he : ED X e f) (hm : behindInMarks .In e = false := by rfl) : ED X (.Compare kx [.In] [e] pos) (dFIn kk f) := peImp (pe_cmp (pc_din hu hk he) hm) toFIn
theorem td_fin (hu : X.A.units + 1 < cLine) (hk : ED X kx kk) (he : ED X e f) (hm : behindInMarks .In e = false := by rfl) : TD X (.Compare kx [.In] [e] pos) (dTest (dFIn kk f)) := ptImp (pt_cmp (pc_din hu hk he) hm) fun σ H Q q => toFIn σ H _ (toTest σ H Q q)
/-! ### truths by identity -/
@[simp] def isBD : D → D → (D → Prop) → Prop
  | .bl a, .bl b, P => P (.bl (decide (a = b)))
  | _, _, _ => False
@[simp] def notBD : D → D → (D → Prop) → Prop
  | .bl a, .bl b, P => P (.bl (!decide (a = b)))
  | _, _, _ => False
theorem oIsB : OpR X (compareOp .Is) (r2D X.K isBD) := oprImp op_is_bl fun x y H Q ⟨F, dx, dy, P, s, n, r1, r2, h, fin⟩ => by
  cases r1 with
  | bl a =>
    cases r2 with
    | bl b => exact ⟨a, b, rfl, rfl, fin.at s n h (.bl _)⟩
    | _ => exact h.elim
  | _ => exact h.elim
theorem oNotB : OpR X (compareOp .IsNot) (r2D X.K notBD) := oprImp op_isnot_bl fun x y H Q ⟨F, dx, dy, P, s, n, r1, r2, h, fin⟩ => by
  cases r1 with
  | bl a =>
    cases r2 with
    | bl b => exact ⟨a, b, rfl, rfl, fin.at s n h (.bl _)⟩
    | _ => exact h.elim
  | _ => exact h.elim
end
end Dy

/-! # The data layer: walks over a field's keys, pop(0). -/
namespace Dy
variable [Tn]
open PySem PySem.Spec PyProof.Rows L2
theorem lookup_putFV {f : Str} {v : FV} : ∀ {fs : Fs}, (putFV f v fs).lookup f = some v
  | [] => by simp [putFV]
  | (x, w) :: fs => by
    rw [putFV]
    by_cases h : x = f
    · rw [if_pos h, List.lookup_cons]
      have : (f == x) = true := by rw [h]; simp
      rw [this]
    · rw [if_neg h, List.lookup_cons]
      have : (f == x) = false := beq_false_of_ne fun z => h z.symm
      rw [this]
      exact lookup_putFV
theorem putFV_back {f : Str} {v w : FV} : ∀ {fs : Fs}, fs.lookup f = some v → putFV f v (putFV f w fs) = fs
  | [], h => by cases h
  | (x, u) :: fs, h => by
    rw [putFV]
    rw [List.lookup_cons] at h
    by_cases hx : x = f
    · have : (f == x) = true := by rw [hx]; simp
      rw [this] at h
      cases h
      rw [if_pos hx, putFV, if_pos hx]
    · have : (f == x) = false := beq_false_of_ne fun z => hx z.symm
      rw [this] at h
      rw [if_neg hx, putFV, if_neg hx, putFV_back h]
section
variable {X : Cx} {E : XK} {pos : Pos} {x y f : Str} {C : Addr} {p p2 : Pos}
/-- the turns of a walk over a field's keys: the dict is locked -/
def forKI (i : Nat) (C : Addr) (o : Option Addr) (f : Str) (fs : Fs) (kvs : List (List Key × Int)) (gg : DG) (body : DS) (G : DEnds) (ρ : List Sl) : Prop := ∀ p od, ∃ I : List (List Key × Int) → List Sl → Prop, I kvs (ρ.set i (.own (.inst C o (putFV f (.dcl p od kvs) fs)))) ∧
  (∀ xs ρ, I xs ρ → ρ[i]? = some (.own (.inst C o (putFV f (.dcl p od kvs) fs)))) ∧ (∀ x xs ρ, I (x :: xs) ρ → gg (.tpl (x.1.map dKey)) ρ fun ρ2 => body { nx := I xs, ct := I xs, bk := fun _ => False, rt := fun _ => False, rs := fun _ _ => False, xx := fun _ => False } ρ2) ∧ ∀ ρ, I [] ρ → G.nx (ρ.set i (.own (.inst C o fs)))
@[simp] def dForK (i : Nat) (C : Addr) (f : Str) (gg : DG) (body : DS) : DS := fun G ρ => ∃ o fs kvs, ρ[i]? = some (.own (.inst C o fs)) ∧ fs.lookup f = some (.dct kvs) ∧ forKI i C o f fs kvs gg body G ρ
theorem forK_E {α : Type} {e : α → List Key × Int} {xs : List α} {i : Nat} {C : Addr} {o : Option Addr} {f : Str} {fs : Fs} {gg : DG} {body : DS} {G : DEnds} {ρ : List Sl} (I : Fs → List α → List α → List Sl → Prop) (h0 : ∀ fl, I fl [] xs (ρ.set i (.own (.inst C o fl)))) (hl : ∀ fl dn lf ρ, I fl dn lf ρ → ρ[i]? = some (.own (.inst C o fl)))
    (h : ∀ fl fv, fl.lookup f = some fv → fv.ints = some (xs.map e) → ∀ dn a lf ρ N, dn ++ a :: lf = xs → I fl dn (a :: lf) ρ → (∀ ρ', I fl (dn ++ [a]) lf ρ' → N ρ') → gg (.tpl ((e a).1.map dKey)) ρ fun ρ2 => body { nx := N, ct := N, bk := fun _ => False, rt := fun _ => False, rs := fun _ _ => False, xx := fun _ => False } ρ2)
    (hd : ∀ fl ρ, I fl xs [] ρ → G.nx (ρ.set i (.own (.inst C o fs)))) : forKI i C o f fs (xs.map e) gg body G ρ := fun p od => by
  refine ⟨fun rest ρ => ∃ dn lf, dn ++ lf = xs ∧ rest = lf.map e ∧ I (putFV f (.dcl p od (xs.map e)) fs) dn lf ρ, ⟨[], xs, rfl, rfl, h0 _⟩, fun rest ρ ⟨dn, lf, _, _, i⟩ => hl _ _ _ _ i, ?_, ?_⟩
  · rintro x rest ρ ⟨dn, lf, e1, e2, i⟩
    cases lf with
    | nil => cases e2
    | cons a lf =>
      simp only [List.map_cons, List.cons.injEq] at e2
      obtain ⟨rfl, rfl⟩ := e2
      exact h _ _ lookup_putFV rfl dn a lf ρ _ e1 i fun ρ' hr => ⟨dn ++ [a], lf, by simpa using e1, rfl, hr⟩
  · rintro ρ ⟨dn, lf, e1, e2, i⟩
    cases lf with
    | cons _ _ => cases e2
    | nil =>
      rw [List.append_nil] at e1
      subst e1
      exact hd _ ρ i
theorem sd_forK (i : Nat) {tg : Expr} {body : List Stmt} {bs : List Nat} {gg : DG} {tb : DS} (hp : PassesOwn (model X.prog X.w) X.A X.env X.xe) (hc : X.calm = true) (c : Cls X.K C) (n : NoAttr X.K C f) (hg : GD X tg bs gg) (hb : SsD X E body tb) (hi : X.N[i]? = some x := by rfl) (hv : Vis X.env.scope x := by first | exact Or.inl rfl | exact Or.inr (Or.inl rfl) | exact Or.inr (Or.inr rfl))
    (hd : (x == ("__debug__" : Str)) = false := by decide) (hcd : (x == ("__classdict__" : Str)) = false := by decide) (hab : attributeBase (.Name x p) f X.env (eval (.Name x p) X.env) = eval (.Name x p) X.env := by rfl) (hs : ∀ z, foldedSetIterable (.Attribute (.Name x p) f p2) X.env z = pure z := by intro _; rfl) :
    SD X E (.For tg (.Attribute (.Name x p) f p2) body [] pos) (dForK i C f gg tb) := psImp (ps_lock (ps_for hp hc (pi_keys (pe_fld (pe_var hi hv hd hcd) hab)) hg hb hs)) fun T σ H ⟨F0, B, F, ρ, G, S, q, k⟩ => by
  obtain ⟨o, fs, kvs, q, hf, w⟩ := q
  obtain ⟨a, dx, vs, v, fpf, e, h1, e1, r2, nn, ch⟩ := S.chF q hf
  obtain ⟨p0, rfl, rfl, hp0⟩ := r2
  refine ⟨p0, _, hp0, trivial, fun od => ?_⟩
  obtain ⟨I, w0, wl, ws, wd⟩ := w p0 od
  have n0 := nn p0 (by simp)
  have S1 : StR X.K F0 B F _ σ (upd H p0 (.frz od (.dT (kvs.map fun x => (x.1, V.int x.2))))) := ch _ (.dcl p0 od kvs) (S.ext.own hp0 trivial trivial n0.1 n0.2.1) (fun b hb o eb => by rw [upd_ne (fun z => hb (by simp [z]))]; exact eb) ⟨rfl, rfl, upd_same⟩
  obtain ⟨a', dx', vs', fps', e', h1', r'⟩ := S1.instAt (by rw [List.getElem?_set_self (List.getElem?_eq_some_iff.mp q).1])
  obtain ⟨v', fp', e2, r3, _⟩ := r'.look lookup_putFV
  obtain ⟨rfl, _, hp1⟩ := r3
  refine ⟨.ref a', e', a', C, dx', vs', .ref p0, rfl, h1', c, n, e2, p0, od, rfl, .inr ⟨_, hp1, ?_⟩⟩
  have len : (kvs.map fun x => (x.1, V.int x.2)).length = kvs.length := by rw [List.length_map]
  have lockd : ∀ {F' : Hp} {ρ' : List Sl} {σ' : St} {H' : Hp} {xs}, StR X.K F0 B F' ρ' σ' H' → I xs ρ' → H' p0 = some (.frz od (.dT (kvs.map fun x => (x.1, V.int x.2)))) := fun S' i' => by
    obtain ⟨_, _, _, _, _, _, r'⟩ := S'.instAt (wl _ _ i')
    obtain ⟨_, _, _, r3, _⟩ := r'.look lookup_putFV
    exact r3.2.2
  refine ⟨fun i m σ H => m = kvs.length - i ∧ i ≤ kvs.length ∧ ∃ F' ρ', StR X.K F0 B F' ρ' σ H ∧ Same F F' ∧ I (kvs.drop i) ρ', ⟨kvs.length, by simp, Nat.zero_le _, F, _, S1, Same.refl F, by simpa using w0⟩, ?_⟩
  rintro i m σ' H' ⟨rfl, hi, F', ρ', S', s', w'⟩
  have hl := lockd S' w'
  by_cases hlt : i < kvs.length
  · refine .inr ⟨⟨hl, by rw [len]; exact hlt⟩, fun σ2 H2 => ∃ F2 ρ2, StR X.K F0 B F2 ρ2 σ2 H2 ∧ Same F F2 ∧ I (kvs.drop (i + 1)) ρ2, fun σ2 H2 h2 => ⟨kvs.length - (i + 1), by omega, rfl, hlt, h2⟩, fun z H2 hy => ?_⟩
    obtain ⟨rfl, key, v, qa, hk, rfl, hq⟩ := hy
    have hdrop := List.drop_eq_getElem_cons hlt
    rw [hdrop] at w'
    have hkey : kvs[i].1 = key := by
      rw [List.getElem?_map, List.getElem?_eq_getElem hlt] at hk
      cases hk
      rfl
    have E2 : Ext F' H2 (upd F' qa (.tup (key.map kV))) H2 := S'.selfExt.tuple hq
    refine ⟨F0, B, _, ρ', .tpl (kvs[i].1.map dKey), _, S'.step E2, .tpl upd_same (by rw [hkey]; exact rep_dKeys key), ws _ _ _ w', fun ρ3 q3 σ3 S3 _ => ⟨F0, B, _, ρ3, _, S3, q3, ?_⟩⟩
    exact ⟨fun ρ4 F4 σ4 H4 q4 z S4 => ⟨F4, ρ4, S4, (s'.trans E2.ff).trans z, q4⟩, fun _ _ _ _ z => z.elim, fun ρ4 F4 σ4 H4 q4 z S4 => ⟨F4, ρ4, S4, (s'.trans E2.ff).trans z, q4⟩, fun _ _ _ _ _ _ z => z.elim, fun _ _ _ z => z.elim⟩
  · have e : i = kvs.length := by omega
    subst e
    rw [List.drop_length] at w'
    refine .inl ⟨⟨hl, by rw [len]; exact Nat.le_refl _⟩, hl, ?_⟩
    obtain ⟨a2, dx2, vs2, v2, fp2, e3, h3, e4, r4, n4, ch2⟩ := S'.chF (wl _ _ w') lookup_putFV
    obtain ⟨rfl, rfl, hp4⟩ := r4
    have m0 := n4 p0 (by simp)
    have S5 := ch2 (upd H' p0 (.dT (kvs.map fun x => (x.1, V.int x.2)))) (.dct kvs) (S'.ext.own hp4 trivial trivial m0.1 m0.2.1) (fun b hb o eb => by rw [upd_ne (fun z => hb (by simp [z]))]; exact eb) ⟨p0, rfl, rfl, upd_same⟩
    rw [putFV_back hf] at S5
    exact k.nx _ F' σ' _ (wd _ w') s' S5
/-- y = x.pop(0) -/
@[simp] def dPop0 (jy i : Nat) : DS := fun G ρ => ∃ d l, ρ[i]? = some (.own (.lst (d :: l))) ∧ G.nx ((ρ.set i (.own (.lst l))).set jy (.d d))
theorem sd_pop0 (jy i : Nat) {py p1 p2 p3 p4 pos2 : Pos} {kk : Tok} (hN : X.N.Nodup) (hy : X.N[jy]? = some y := by rfl) (hly : Loc X.env.scope y := by first | exact .inl rfl | exact .inr rfl) (hi : X.N[i]? = some x := by rfl) (hv : Vis X.env.scope x := by first | exact Or.inl rfl | exact Or.inr (Or.inl rfl) | exact Or.inr (Or.inr rfl))
    (hd : (x == ("__debug__" : Str)) = false := by decide) (hcd : (x == ("__classdict__" : Str)) = false := by decide) (hbase : attributeBase (.Name x p1) "pop" X.env (eval (.Name x p1) X.env) = eval (.Name x p1) X.env := by rfl)
    (hfew : ((backTo p3 (starEach [.Constant (.int 0) kk p4] X.env)).all (fun x => !x.1) && (backToKw p3 (keywordEach [] X.env)).all (fun x => x.1.isSome) && decide ([Expr.Constant (.int 0) kk p4].length + ([] : List Keyword).length + (if ([] : List Keyword).isEmpty then 0 else 1) < 30)) = true := by rfl)
    (hline : (p2.endLine == p3.line) = true := by rfl) (hs : starEach [.Constant (.int 0) kk p4] X.env = (false, eval (.Constant (.int 0) kk p4) X.env) :: starEach [] X.env := by rfl) (hplain : (backTo p3 (starEach [] X.env)).any (·.1) = false := by rfl)
    (hsw : swapsWith (.Call (.Attribute (.Name x p1) "pop" p2) [.Constant (.int 0) kk p4] [] p3) (some (.Name y py)) pos2.line X.env = pure false := by rfl) (hf : X.fn y = true ∨ X.env.scope.names.lookup y = some .local := by first | exact .inl rfl | exact .inr rfl) :
    SD X E (.Assign [.Name y py] (.Call (.Attribute (.Name x p1) "pop" p2) [.Constant (.int 0) kk p4] [] p3) pos2) (dPop0 jy i) :=
  psImp (ps_set hN hy hly (pe_bm PySem.F.plainAttrs_list PySem.F.slot_list_pop PySem.F.type_list_pop mt_popAt (pe_var hi hv hd hcd) (pa_cons pe_int pa_nil hs) hbase hfew hline hs hplain) hsw hf) fun T σ H ⟨F0, B, F, ρ, G, S, q, k⟩ => by
    obtain ⟨d, l, ql, w⟩ := q
    obtain ⟨p, xs, h1, h2, h3⟩ := S.ownAt ql
    cases h3 with
    | @cons _ v _ xs h3 h4 =>
      exact ⟨.ref p, h1, .inl ⟨rfl, _, SqL.of h2⟩, p, v :: xs, 0, 0, v, rfl, rfl, h2, by decide, by decide, by simp [seqIndex?], rfl, k.nx _ F _ _ w (Same.refl F) ((S.chL ql h1 h4).set jy h3)⟩
end
end Dy

/-! # list(zip(a, b)) of two lists. -/
namespace LZ
open PySem PySem.Calls PyProof.Rows PySem.W
def ZSt (h : Heap) (z TI TO i1 i2 l1 l2 S : Addr) (i : Nat) : Prop :=
  IsPair h TI (.ref i1) (.ref i2) ∧ h.IsListIter i1 l1 i ∧ h.IsListIter i2 l2 i ∧ ((IsZip h z TI TO .none ∧ ∃ a b, IsPair h TO a b) ∨ ∃ T f oT, IsZipHeld h z TI TO T f ∧ h.get? T = some oT ∧ T ≠ z ∧ T ≠ i1 ∧ T ≠ i2 ∧ T ≠ S)
section
variable {prog : Program} {w : World} {A : Around} {E : Value → Shared → Prop} {s : Shared} {z TI TO i1 i2 l1 l2 S : Addr} {xs ys : Array Value} {i : Nat}
theorem zl_item {x y : Value} {Q : Option Value → Shared → Prop} (D : ZipApart z TI TO i1 i2 l1 l2) (st : ZSt s.heap z TI TO i1 i2 l1 l2 S i) (hS : S < s.heap.objs.size) (hl1 : s.heap.IsList l1 xs) (hl2 : s.heap.IsList l2 ys) (hx : xs[i]? = some x) (hy : ys[i]? = some y)
    (hQ : ∀ h', ZSt h' z TI TO i1 i2 l1 l2 S (i + 1) → IsPair h' s.heap.objs.size x y → h'.objs.size = s.heap.objs.size + 1 → (∀ c o, c ≠ z → c ≠ TO → c ≠ i1 → c ≠ i2 → s.heap.get? c = some o → h'.get? c = some o) → Q (some (.ref s.heap.objs.size)) { s with heap := h' }) :
    wpAny (model prog w) A (pyNext (.ref z)) Q E s := by
  obtain ⟨hTI, h1, h2, st⟩ := st
  have n1 : i1 < s.heap.objs.size := by obtain ⟨o, e, _⟩ := h1; exact Heap.lt_size e
  have n2 : i2 < s.heap.objs.size := by obtain ⟨o, e, _⟩ := h2; exact Heap.lt_size e
  rcases st with ⟨hz, a, b, hTO⟩ | ⟨T, f, oT, hz, hT, t1, t2, t3, t4⟩
  · have nz : z < s.heap.objs.size := Heap.lt_size hz
    exact wpAny_pyNext_zip_item D hz hTI hTO h1 h2 hl1 hl2 hx hy fun h' a1 a2 a3 a4 a5 a6 a7 => hQ h' ⟨a7 _ _ D.TIz D.TITO D.TIi1 D.TIi2 hTI, a3, a4, .inr ⟨_, false, _, a1, a5, Nat.ne_of_gt nz, Nat.ne_of_gt n1, Nat.ne_of_gt n2, Nat.ne_of_gt hS⟩⟩ a5 a6 a7
  · exact wpAny_pyNext_zip_item_held D hz hT hTI h1 h2 hl1 hl2 hx hy fun h' a1 a3 a4 a5 a6 a7 => hQ h' ⟨a7 _ _ D.TIz D.TIi1 D.TIi2 hTI, a3, a4, .inr ⟨T, true, oT, a1, a7 _ _ t1 t2 t3 hT, t1, t2, t3, t4⟩⟩ a5 a6 fun c o cz _ c1 c2 e => a7 c o cz c1 c2 e
theorem zl_done {Q : Option Value → Shared → Prop} (hh : A.handled = none) (D : ZipApart z TI TO i1 i2 l1 l2) (st : ZSt s.heap z TI TO i1 i2 l1 l2 S i) (hl1 : s.heap.IsList l1 xs) (hl2 : s.heap.IsList l2 ys) (hend : xs[i]? = none ∨ ys[i]? = none)
    (hQ : ∀ h', (∀ c o, c ≠ z → c ≠ TO → c ≠ i1 → c ≠ i2 → s.heap.get? c = some o → h'.get? c = some o) → Q none { s with heap := h' }) : wpAny (model prog w) A (pyNext (.ref z)) Q E s := by
  obtain ⟨hTI, h1, h2, st⟩ := st
  rcases st with ⟨hz, a, b, hTO⟩ | ⟨T, f, oT, hz, hT, t1, t2, t3, t4⟩
  · exact wpAny_pyNext_zip_end hh D hz hTI hTO h1 h2 hl1 hl2 hend hQ
  · exact wpAny_pyNext_zip_end_held hh D hz hT hTI h1 h2 hl1 hl2 hend fun h' k => hQ h' fun c o cz _ c1 c2 e => k c o cz c1 c2 e
theorem ZSt.keep {h h' : Heap} (x : ZSt h z TI TO i1 i2 l1 l2 S i) (hk : ∀ b o, b ≠ S → h.get? b = some o → h'.get? b = some o) (nS : S ≠ z ∧ S ≠ TI ∧ S ≠ TO ∧ S ≠ i1 ∧ S ≠ i2) : ZSt h' z TI TO i1 i2 l1 l2 S i := by
  obtain ⟨hTI, h1, h2, st⟩ := x
  refine ⟨hk _ _ (Ne.symm nS.2.1) hTI, h1.at fun o e => hk _ _ (Ne.symm nS.2.2.2.1) e, h2.at fun o e => hk _ _ (Ne.symm nS.2.2.2.2) e, ?_⟩
  rcases st with ⟨hz, a, b, hTO⟩ | ⟨T, f, oT, hz, hT, t1, t2, t3, t4⟩
  · exact .inl ⟨hk _ _ (Ne.symm nS.1) hz, a, b, hk _ _ (Ne.symm nS.2.2.1) hTO⟩
  · exact .inr ⟨T, f, oT, hk _ _ (Ne.symm nS.1) hz, hk _ _ t4 hT, t1, t2, t3, t4⟩
end
/-- the pairs made -/
structure ZG (xs ys : Array Value) (lo : Addr) (h : Heap) (as : List Addr) : Prop where
  rise : as.Pairwise (· < ·)
  above : ∀ a ∈ as, lo < a
  pairs : ∀ (j : Nat) (a : Addr), as[j]? = some a → ∃ x y, xs[j]? = some x ∧ ys[j]? = some y ∧ IsPair h a x y
section
variable {prog : Program} {w : World} {A : Around} {s : Shared} {R : Result → Shared → Prop} {z TI TO i1 i2 l1 l2 S : Addr} {xs ys : Array Value}
theorem zl_loop (hh : A.handled = none) (D : ZipApart z TI TO i1 i2 l1 l2) (nS : S ≠ z ∧ S ≠ TI ∧ S ≠ TO ∧ S ≠ i1 ∧ S ≠ i2) (lS : l1 ≠ S ∧ l2 ≠ S) (zS : z < S ∧ TO < S ∧ i1 < S ∧ i2 < S) (l1i : l1 ≠ i1 ∧ l1 ≠ i2 ∧ l1 ≠ z ∧ l1 ≠ TO) (l2i : l2 ≠ i1 ∧ l2 ≠ i2 ∧ l2 ≠ z ∧ l2 ≠ TO)
    (n : Nat) (hn1 : n = min xs.size ys.size) (hn : n ≤ sizeLine) (res : Value) {h₁ : Heap}
    (hR : ∀ h' tk acc c as, (∀ b o, b ≠ S → b ≠ z → b ≠ TO → b ≠ i1 → b ≠ i2 → h₁.get? b = some o → h'.get? b = some o) → h'.get? S = some { cls := .type "list", dict := none, data := .seq acc c, slots := #[] } → as.length = n → ZG xs ys S h' as →
      acc.toList = as.map Value.ref → R (.ok (.ret res)) { s with heap := h', toks := tk }) :
    ∀ (k i : Nat) (h : Heap) (tk c : Nat) (acc : Array Value) (as : List Addr), n - i = k → i ≤ n → ZSt h z TI TO i1 i2 l1 l2 S i → h.IsList l1 xs → h.IsList l2 ys → (∀ b o, b ≠ S → b ≠ z → b ≠ TO → b ≠ i1 → b ≠ i2 → h₁.get? b = some o → h.get? b = some o) →
      h.get? S = some { cls := .type "list", dict := none, data := .seq acc c, slots := #[] } → acc.toList = as.map Value.ref → as.length = i → ZG xs ys S h as →
      codeAny (model prog w) A (.builtin "list.extend.loop" ⟨[.ref S, .ref z, res], []⟩) R { s with heap := h, toks := tk } := by
  intro k
  induction k with
  | zero =>
    intro i h tk c acc as hk hi hst hL1 hL2 hkeep hS hacc hal hG
    have hin : i = n := by omega
    have hend : xs[i]? = none ∨ ys[i]? = none := by
      by_cases hx : xs.size ≤ i
      · exact .inl (by simp [hx])
      · exact .inr (by simp; omega)
    refine codeAny_builtin PySem.F.entry_extend_loop ?_
    rw [Around.under_plainId PySem.F.plain_extend_loop _]
    show wpAny _ A.in1 (pyNext (.ref z) >>= _) _ _ _
    refine wpAny_bind (zl_done (s := { s with heap := h, toks := tk }) (A := A.in1) hh D hst hL1 hL2 hend fun h' he => ?_)
    refine wpAny_pure (hR h' tk acc c as (fun b o h0 h1 h2 h3 h4 e => he b o h1 h2 h3 h4 (hkeep b o h0 h1 h2 h3 h4 e)) (he S _ nS.1 nS.2.2.1 nS.2.2.2.1 nS.2.2.2.2 hS) (by omega) ⟨hG.rise, hG.above, fun j a hj => ?_⟩ hacc)
    obtain ⟨x, y, e1, e2, e3⟩ := hG.pairs j a hj
    have ha := hG.above a (List.mem_of_getElem? hj)
    exact ⟨x, y, e1, e2, he a _ (Nat.ne_of_gt (Nat.lt_trans zS.1 ha)) (Nat.ne_of_gt (Nat.lt_trans zS.2.1 ha)) (Nat.ne_of_gt (Nat.lt_trans zS.2.2.1 ha)) (Nat.ne_of_gt (Nat.lt_trans zS.2.2.2 ha)) e3⟩
  | succ k ih =>
    intro i h tk c acc as hk hi hst hL1 hL2 hkeep hS hacc hal hG
    have hlt : i < n := by omega
    have hx : xs[i]? = some xs[i] := Array.getElem?_eq_getElem (by omega)
    have hy : ys[i]? = some ys[i] := Array.getElem?_eq_getElem (by omega)
    have hsz : acc.size = i := by rw [← Array.length_toList, hacc, List.length_map, hal]
    have hSl : S < h.objs.size := Heap.lt_size hS
    refine codeAny_builtin PySem.F.entry_extend_loop ?_
    rw [Around.under_plainId PySem.F.plain_extend_loop _]
    show wpAny _ A.in1 (pyNext (.ref z) >>= _) _ _ _
    refine wpAny_bind (zl_item (s := { s with heap := h, toks := tk }) (S := S) D hst hSl hL1 hL2 hx hy fun h' hst' ht hz hkp => ?_)
    dsimp only at ht hz hkp ⊢
    have hS' := hkp S _ nS.1 nS.2.2.1 nS.2.2.2.1 nS.2.2.2.2 hS
    have up : ∀ b o, b ≠ S → h'.get? b = some o → (h'.update S (Obj.mapSeq (·.push (Value.ref h.objs.size)))).get? b = some o := fun b o hb e => (Heap.get?_update_other _ _ (Ne.symm hb)).trans e
    show wpAny _ A.in1 (updateSeq S (·.push (Value.ref h.objs.size)) >>= _) _ _ _
    refine wpAny_bind ?_
    refine wpAny_updateSeq hS' rfl (wpAny_pure ⟨plainId_quiet PySem.F.plain_extend_loop _, ih (i + 1) _ tk _ (acc.push (Value.ref h.objs.size)) (as ++ [h.objs.size]) (by omega) hlt (hst'.keep up nS) (hL1.at fun o e => up l1 o lS.1 (hkp l1 o l1i.2.2.1 l1i.2.2.2 l1i.1 l1i.2.1 e))
      (hL2.at fun o e => up l2 o lS.2 (hkp l2 o l2i.2.2.1 l2i.2.2.2 l2i.1 l2i.2.1 e)) (fun b o h0 h1 h2 h3 h4 e => up b o h0 (hkp b o h1 h2 h3 h4 (hkeep b o h0 h1 h2 h3 h4 e))) (Heap.get?_update_self _ hS' rfl) (by rw [Array.toList_push, hacc, List.map_append]; rfl) (by rw [List.length_append, hal]; rfl) ⟨?_, ?_, ?_⟩⟩) (by rw [hsz]; omega) (by show (acc.push (Value.ref h.objs.size)).size ≤ sizeLine + 1; rw [Array.size_push, hsz]; omega)
    · refine List.pairwise_append.mpr ⟨hG.rise, List.pairwise_singleton _ _, fun a ha b hb => ?_⟩
      rw [List.mem_singleton.mp hb]
      obtain ⟨j, hj⟩ := List.mem_iff_getElem?.mp ha
      obtain ⟨_, _, _, _, e3⟩ := hG.pairs j a hj
      exact Heap.lt_size e3
    · intro a ha
      rcases List.mem_append.mp ha with ha | ha
      · exact hG.above a ha
      · rw [List.mem_singleton.mp ha]; exact hSl
    · intro j b hj
      rcases Nat.lt_trichotomy j as.length with h1 | h1 | h1
      · rw [List.getElem?_append_left h1] at hj
        obtain ⟨x', y', e1, e2, e3⟩ := hG.pairs j b hj
        have hb := hG.above b (List.mem_of_getElem? hj)
        exact ⟨x', y', e1, e2, up b _ (Nat.ne_of_gt hb) (hkp b _ (Nat.ne_of_gt (Nat.lt_trans zS.1 hb)) (Nat.ne_of_gt (Nat.lt_trans zS.2.1 hb)) (Nat.ne_of_gt (Nat.lt_trans zS.2.2.1 hb)) (Nat.ne_of_gt (Nat.lt_trans zS.2.2.2 hb)) e3)⟩
      · subst h1
        have hb : h.objs.size = b := by simpa using hj
        subst hb
        exact ⟨xs[i], ys[i], by rw [hal]; exact hx, by rw [hal]; exact hy, up _ _ (Nat.ne_of_gt hSl) ht⟩
      · have hnone : (as ++ [h.objs.size])[j]? = none := List.getElem?_eq_none (by rw [List.length_append, List.length_singleton]; omega)
        rw [hnone] at hj; cases hj
end
theorem zip_no_len : typeLookup (.type "zip") "__len__" = pure none := am_miss_of_fast (by decide +kernel)
theorem zip_no_hint : typeLookup (.type "zip") "__length_hint__" = pure none := am_miss_of_fast (by decide +kernel)
section
variable {prog : Program} {w : World} {A : Around} {E : Value → Shared → Prop} {s : Shared} {z TI TO i1 i2 l1 l2 : Addr} {xs ys : Array Value}
theorem zl_call {Q : Value → Shared → Prop} (hh : A.handled = none) (D : ZipApart z TI TO i1 i2 l1 l2) (hz : IsZip s.heap z TI TO .none) (hTI : IsPair s.heap TI (.ref i1) (.ref i2)) (hTO : ∃ a b, IsPair s.heap TO a b) (h1 : s.heap.IsListIter i1 l1 0) (h2 : s.heap.IsListIter i2 l2 0) (hl1 : s.heap.IsList l1 xs) (hl2 : s.heap.IsList l2 ys)
    (l1i : l1 ≠ i1 ∧ l1 ≠ i2 ∧ l1 ≠ z ∧ l1 ≠ TO) (l2i : l2 ≠ i1 ∧ l2 ≠ i2 ∧ l2 ≠ z ∧ l2 ≠ TO) (hn : min xs.size ys.size ≤ sizeLine)
    (hQ : ∀ h' tk acc c as, (∀ b o, b ≠ z → b ≠ TO → b ≠ i1 → b ≠ i2 → s.heap.get? b = some o → h'.get? b = some o) → h'.get? s.heap.objs.size = some { cls := .type "list", dict := none, data := .seq acc c, slots := #[] } → as.length = min xs.size ys.size → ZG xs ys s.heap.objs.size h' as →
      acc.toList = as.map Value.ref → Q (.ref s.heap.objs.size) { s with heap := h', toks := tk }) :
    wpAny (model prog w) A (call (.type "list") [.ref z]) Q E s := by
  refine callType_codes (Q₁ := fun obj s₁ => obj = .ref s.heap.objs.size ∧ s₁ = { s with heap := s.heap.push { cls := .type "list", data := .seq #[] } }) PySem.F.called_list (PySem.F.typeCall_list_1 _) PySem.F.entry_list_init
    (code_list_new _ ⟨rfl, rfl⟩) fun obj s₁ hs₁ => ?_
  obtain ⟨rfl, rfl⟩ := hs₁
  have hS : (s.heap.push { cls := .type "list", data := .seq #[] }).get? s.heap.objs.size = some { cls := .type "list", data := .seq #[] } := Heap.get?_push_size _ rfl
  have zz : z < s.heap.objs.size := Heap.lt_size hz
  have zTI : TI < s.heap.objs.size := Heap.lt_size hTI
  have zTO : TO < s.heap.objs.size := by obtain ⟨a, b, e⟩ := hTO; exact Heap.lt_size e
  have z1 : i1 < s.heap.objs.size := by obtain ⟨o, e, _⟩ := h1; exact Heap.lt_size e
  have z2 : i2 < s.heap.objs.size := by obtain ⟨o, e, _⟩ := h2; exact Heap.lt_size e
  have y1 : l1 < s.heap.objs.size := by obtain ⟨o, e, _⟩ := hl1; exact Heap.lt_size e
  have y2 : l2 < s.heap.objs.size := by obtain ⟨o, e, _⟩ := hl2; exact Heap.lt_size e
  refine ⟨⟨_, hS, rfl⟩, PySem.F.args_list_init_2 _ _, ?_⟩
  generalize hSS : s.heap.objs.size = S at hS hQ zz zTI zTO z1 z2 y1 y2
  show wpAny _ _ (do let old ← Builtin.List.listItems (.ref S); Builtin.List.listUpdate (.ref S) (fun _ => #[]); letGo old.toList.reverse; Builtin.List.listExtendWith (.ref S) (.ref z) .none) _ _ _
  refine wpAny_bind ?_
  unfold Builtin.List.listItems
  refine wpAny_bind (wpAny_seqItems hS rfl (wpAny_pure ?_))
  show wpAny _ _ (updateSeq S (fun _ => #[]) >>= fun _ => letGo (#[] : Array Value).toList.reverse >>= fun _ => Builtin.List.listExtendWith (.ref S) (.ref z) .none) _ _ _
  refine wpAny_bind (wpAny_updateSeq hS rfl ?_)
  have hS₂ := Heap.get?_update_self (Obj.mapSeq (fun _ => (#[] : Array Value))) hS rfl
  have oth : ∀ b o, b ≠ S → s.heap.get? b = some o → ((s.heap.push { cls := .type "list", data := .seq #[] }).update S (Obj.mapSeq (fun _ => (#[] : Array Value)))).get? b = some o :=
    fun b o hb e => (Heap.get?_update_other _ _ (Ne.symm hb)).trans (Heap.get?_push_of_some _ e)
  refine wpAny_bind (wpAny_letGo ?_)
  have ne : ∀ {b : Addr}, b < S → b ≠ S := fun h => Nat.ne_of_lt h
  have hz₂ := oth z _ (ne zz) hz
  unfold Builtin.List.listExtendWith
  have hT : ∀ {g : Nat} , (({ s with heap := (s.heap.push { cls := .type "list", data := .seq #[] }).update S (Obj.mapSeq (fun _ => (#[] : Array Value))), toks := g } : Shared)).TypeIs (.ref z) "zip" := ⟨_, hz₂, rfl⟩
  refine wpAny_bind (wpAny_typeOf (T := "zip") hT ?_)
  have g1 : Builtin.List.listSameRef (.ref S) (.ref z) = false := by simp [Builtin.List.listSameRef, Ne.symm (ne zz)]
  have g2 : (Value.type "zip" == Value.type "list") = false := by decide
  have g3 : (Value.type "zip" == Value.type "tuple") = false := by decide
  simp only [g1, g2, g3, Bool.or_false, Bool.false_eq_true, if_false]
  refine wpAny_bind (wpAny_pyIter_zip hz₂ ?_)
  refine wpAny_bind (wpAny_holding ?_)
  unfold Builtin.List.listLengthHint
  refine wpAny_bind (wpAny_specialOf hT zip_no_len ?_)
  show wpAny _ _ (specialOf (Value.ref z) (Str.ofString "__length_hint__") >>= _) _ _ _
  refine wpAny_bind (wpAny_specialOf hT zip_no_hint ?_)
  refine wpAny_pure ?_
  show wpAny _ _ (rule "list.extend.makes-room" >>= fun _ => Builtin.List.listTouch (.ref S) >>= fun _ => again (.builtin "list.extend.loop" ⟨[.ref S, .ref z, .none], []⟩)) _ _ _
  refine wpAny_bind (wpAny_rule ?_)
  refine wpAny_bind ?_
  show wpAny _ _ (updateSeq S (·.push .none) >>= fun _ => updateSeq S (·.pop)) _ _ _
  refine wpAny_bind (wpAny_updateSeq hS₂ rfl ?_)
  have hS₃ := Heap.get?_update_self (Obj.mapSeq (·.push Value.none)) hS₂ rfl
  refine wpAny_updateSeq (hz := by seq_fits) hS₃ rfl ?_
  have hS₄ := Heap.get?_update_self (Obj.mapSeq (·.pop)) hS₃ rfl
  have oth4 : ∀ b o, b ≠ S → s.heap.get? b = some o → _ := fun b o hb e => (Heap.get?_update_other _ (Obj.mapSeq (·.pop)) (Ne.symm hb)).trans ((Heap.get?_update_other _ (Obj.mapSeq (·.push Value.none)) (Ne.symm hb)).trans (oth b o hb e))
  refine wpAny_pure ⟨plainId_quiet PySem.F.plain_extend_loop _, ?_⟩
  refine zl_loop (s := s) (h₁ := s.heap) (A := A.in1) hh D ⟨Ne.symm (ne zz), Ne.symm (ne zTI), Ne.symm (ne zTO), Ne.symm (ne z1), Ne.symm (ne z2)⟩ ⟨ne y1, ne y2⟩ ⟨zz, zTO, z1, z2⟩ l1i l2i _ rfl hn .none (fun h' tk acc c as hk hS' hl hG hacc => ⟨rfl, hQ h' tk acc c as (fun b o b1 b2 b3 b4 e => hk b o (ne (by rw [← hSS]; exact Heap.lt_size e)) b1 b2 b3 b4 e) hS' hl hG hacc⟩)
    _ 0 _ _ _ _ [] (Nat.sub_zero _) (Nat.zero_le _) ⟨oth4 _ _ (ne zTI) hTI, h1.at fun o e => oth4 _ _ (ne z1) e, h2.at fun o e => oth4 _ _ (ne z2) e, .inl ⟨oth4 _ _ (ne zz) hz, ?_⟩⟩ (hl1.at fun o e => oth4 _ _ (ne y1) e) (hl2.at fun o e => oth4 _ _ (ne y2) e) (fun b o b0 _ _ _ _ e => oth4 b o b0 e) hS₄ rfl rfl ⟨List.Pairwise.nil, (fun _ ha => nomatch ha), (fun j a hj => by simp at hj)⟩
  obtain ⟨a, b, e⟩ := hTO
  exact ⟨a, b, oth4 _ _ (ne zTO) e⟩
end
end LZ

/-! # list(zip(a, b)), zip of three: rules. -/
namespace LZ
open PySem PySem.Spec PyProof.Rows L2
/-- the pairs tracked at their addresses -/
def putT : Hp → List Addr → List (V × V) → Hp
  | H, a :: as, p :: kvs => putT (upd H a (.tup [p.1, p.2])) as kvs
  | H, _, _ => H
theorem putT_off {b : Addr} : ∀ (as : List Addr) (kvs : List (V × V)) (H : Hp), b ∉ as → putT H as kvs b = H b
  | [], _, _, _ => rfl
  | _ :: _, [], _, _ => rfl
  | a :: as, p :: kvs, H, h => by
    show putT (upd H a (.tup [p.1, p.2])) as kvs b = H b
    rw [putT_off as kvs _ (fun z => h (List.mem_cons_of_mem _ z)), upd_ne (fun z => h (by rw [z]; exact List.mem_cons_self))]
theorem putT_at : ∀ (as : List Addr) (kvs : List (V × V)) (H : Hp), as.length = kvs.length → as.Nodup → Paired (fun (t : Addr) (p : V × V) => putT H as kvs t = some (.tup [p.1, p.2])) as kvs
  | [], [], _, _, _ => .nil
  | [], _ :: _, _, h, _ => by cases h
  | _ :: _, [], _, h, _ => by cases h
  | a :: as, p :: kvs, H, h, hn => by
    have hn' := List.nodup_cons.mp hn
    have ih := putT_at as kvs (upd H a (.tup [p.1, p.2])) (Nat.succ.inj h) hn'.2
    refine .cons ?_ ih
    show putT (upd H a (.tup [p.1, p.2])) as kvs a = some (.tup [p.1, p.2])
    rw [putT_off as kvs _ hn'.1, upd_same]
theorem zip_get {α β : Type} {xs : List α} {ys : List β} {j : Nat} {p : α × β} (h : (List.zip xs ys)[j]? = some p) : xs[j]? = some p.1 ∧ ys[j]? = some p.2 := List.getElem?_zip_eq_some.mp h
theorem pairs_laid {X : Cx} {pins : List (Addr × Obj)} {σ : L2.St} {H : Hp} {s : Shared} {h' : Heap} {tk : Nat} {xs ys : List V} {us ws : List Value} {acc : Array Value} {c : Nat} {as : List Addr} {S : Addr} (I : Inv X pins σ H s) (hz : (List.zip xs ys).length ≤ sizeLine) (rx : Vals xs us) (ry : Vals ys ws)
    (hk : ∀ b o, s.heap.get? b = some o → h'.get? b = some o) (hlo : s.heap.objs.size ≤ S) (hS : h'.get? S = some { cls := .type "list", dict := none, data := .seq acc c, slots := #[] }) (hl : as.length = (List.zip xs ys).length) (hG : ZG us.toArray ws.toArray S h' as) (hacc : acc.toList = as.map Value.ref) :
    ∃ H' : Hp, (∀ b o, H b = some o → H' b = some o) ∧ H S = none ∧ (∀ t ∈ as, H t = none) ∧ S ∉ as ∧ H' S = some (.lst (as.map V.ref)) ∧ Paired (fun (t : Addr) (q : V × V) => H' t = some (.tup [q.1, q.2])) as (List.zip xs ys) ∧ Inv X pins σ H' { s with heap := h', toks := tk } := by
  have hSn : S ∉ as := fun z => Nat.lt_irrefl _ (hG.above _ z)
  have nd : as.Nodup := List.Pairwise.imp (fun {a b} (h : a < b) => Nat.ne_of_lt h) hG.rise
  have new : ∀ t ∈ as, H t = none := fun t ht => I.hok.fresh (Nat.le_trans hlo (Nat.le_of_lt (hG.above t ht)))
  have newS : H S = none := I.hok.fresh hlo
  have atP := putT_at as (List.zip xs ys) (upd H S (.lst (as.map V.ref))) hl nd
  have off : ∀ b, b ∉ as → b ≠ S → putT (upd H S (.lst (as.map V.ref))) as (List.zip xs ys) b = H b := fun b h1 h2 => by rw [putT_off as _ _ h1, upd_ne h2]
  have low : ∀ b o, s.heap.get? b = some o → b ∉ as ∧ b ≠ S := fun b o e => ⟨fun z => absurd (Heap.lt_size e) (Nat.not_lt.mpr (Nat.le_trans hlo (Nat.le_of_lt (hG.above b z)))), Nat.ne_of_lt (Nat.lt_of_lt_of_le (Heap.lt_size e) hlo)⟩
  have kp : ∀ b u, H b = some u → (putT (upd H S (.lst (as.map V.ref))) as (List.zip xs ys)) b = some u := fun b u e => by
    rw [off b (fun z => by rw [new b z] at e; cases e) (fun z => by rw [z, newS] at e; cases e)]
    exact e
  have eS : putT (upd H S (.lst (as.map V.ref))) as (List.zip xs ys) S = some (.lst (as.map V.ref)) := by rw [putT_off as _ _ hSn, upd_same]
  refine ⟨putT (upd H S (.lst (as.map V.ref))) as (List.zip xs ys), kp, newS, new, hSn, eS, atP, ?_⟩
  refine I.call' (ch := []) rfl ⟨fun b o q _ _ _ => hk b o q, fun b o q _ _ _ => ⟨o.slots, hk b o q⟩, fun b o q n _ => ?_, fun b o q _ => ⟨o, hk b o q⟩, fun b xs q => kp b _ q, fun b o u q => kp b _ q, fun b ps q => ⟨#[], by rw [kp b _ q]; simp⟩⟩ (fun b u q => ?_) I.bare fun b z => by simp at z
  · obtain ⟨z1, z2⟩ := low b o q
    rw [off b z1 z2]
    exact n
  · by_cases hb : b ∈ as
    · obtain ⟨j, pk, e1, e2, e3⟩ := LiI.paired_ix atP hb
      rw [e3] at q
      cases q
      obtain ⟨u, v, f1, f2, f3⟩ := hG.pairs j b e1
      obtain ⟨g1, g2⟩ := zip_get e2
      obtain ⟨u', hu, ru⟩ := rx.get g1
      obtain ⟨v', hv, rv⟩ := ry.get g2
      have eu : u' = u := by
        have := hu.symm.trans (by simpa using f1)
        exact Option.some.inj this
      have ev : v' = v := by
        have := hv.symm.trans (by simpa using f2)
        exact Option.some.inj this
      subst eu ev
      exact ⟨by show 2 ≤ sizeLine; decide, [u', v'], .cons ru (.cons rv .nil), ⟨_, f3, rfl, _, rfl⟩⟩
    · by_cases hb2 : b = S
      · rw [hb2] at q ⊢
        rw [eS] at q
        cases q
        refine ⟨by rw [List.length_map]; omega, acc.toList, c, by rw [hacc]; exact LiI.vals_refs as, ?_⟩
        rw [Array.toArray_toList]
        exact hS
      · rw [off b hb hb2] at q
        exact (I.hok b u q).stay (fun d v _ y => hk d v y) (fun d y => kp d _ y) fun d xs y => kp d _ y
def rZipL (K : PySem.W.Frag) : List V → Hp → VK → Prop := fun vs H Q => ∃ (a b : Addr) (xs ys : List V), vs = [.ref a, .ref b] ∧ SqL K H a xs ∧ SqL K H b ys ∧
  ∀ (H' : Hp) (p : Addr) (ts : List Addr), (∀ b o, H b = some o → H' b = some o) → H p = none → (∀ t ∈ ts, H t = none) → p ∉ ts → H' p = some (.lst (ts.map V.ref)) → Paired (fun (t : Addr) (q : V × V) => H' t = some (.tup [q.1, q.2])) ts (List.zip xs ys) → Q (.ref p) H'
def tZipL (K : PySem.W.Frag) (ta : TA) : TE := fun σ H Q => ta σ H fun vs H1 => rZipL K vs H1 Q
/-- list(zip(e, e2)) -/
theorem pe_listZip {X : Cx} {e e2 : Expr} {ta : TA} {p p2 cpos pos : Pos} (hc : X.calm = true) (hgl : Gl X "list") (hml : X.mg "list" = none) (hvl : bootBuiltins "list" = some (.type "list")) (hg : Gl X "zip") (hm : X.mg "zip" = none) (ha : PA X [e, e2] ta)
    (hs0 : starEach [.Call (.Name "zip" p2) [e, e2] [] cpos] X.env = (false, eval (.Call (.Name "zip" p2) [e, e2] [] cpos) X.env) :: starEach [] X.env := by rfl)
    (hs : starEach [e, e2] X.env = (false, eval e X.env) :: starEach [e2] X.env := by rfl) (hpl : (backTo cpos (starEach [e2] X.env)).any (·.1) = false := by rfl) :
    PE X (.Call (.Name "list" p) [.Call (.Name "zip" p2) [e, e2] [] cpos] [] pos) (tZipL X.K ta) := by
  refine ⟨fun pins s σ H Q I hq => ?_⟩
  refine wpAny_Call_Name_kw (ld_blt I hgl hml hvl ?_)
  refine PyProof.Rows.callWith_type1 ?_ hs0 rfl
  rw [hs0]
  show wpAny _ _ (spliced ((false, eval (.Call (.Name "zip" p2) [e, e2] [] cpos) X.env) :: backTo pos (starEach [] X.env))) _ _ s
  refine Calls.spliced_cons ?_
  refine wpAny_Call_Name_kw (ld_blt I hg hm PyProof.Rows.boot_zip (PyProof.Rows.callWith_type1 (thn (ha.run cpos pins s σ H _ I hq) fun us s1 ⟨vs, H1, I1, r1, q1⟩ => ?_) hs hpl))
  obtain ⟨a, b, xs, ys, ex, hqx, hqy, q⟩ := q1
  subst ex
  cases r1 with
  | cons r rr =>
    cases rr with
    | cons r' rr =>
      cases rr
      cases r
      cases r'
      obtain ⟨its, rv, p1, zx⟩ := I1.list hqx
      obtain ⟨its2, rv2, p22, zy⟩ := I1.list hqy
      have la : a < s1.heap.objs.size := p1.lt
      have lb : b < s1.heap.objs.size := p22.lt
      refine call_zip_2 p1.isList p22.isList fun h' hz hTI hTO h1 h2 hsz hk => ?_
      refine Calls.spliced_nil ?_
      have D : ZipApart (s1.heap.objs.size + 4) (s1.heap.objs.size + 2) (s1.heap.objs.size + 3) s1.heap.objs.size (s1.heap.objs.size + 1) a b := PySem.W.ktu_apart s1.heap.objs.size a b la lb
      have I2 : Inv X pins σ H1 { s1 with heap := h' } := I1.kept (t' := s1.toks) hk
      have e1 := rv.length
      have e2 := rv2.length
      have nn : ∀ (x : Addr) (k : Nat), x < s1.heap.objs.size → x ≠ s1.heap.objs.size + k := fun x k hx => Nat.ne_of_lt (Nat.lt_of_lt_of_le hx (Nat.le_add_right _ _))
      refine zl_call (s := { s1 with heap := h' }) (I1.ok.hd hc) D hz hTI ⟨_, _, hTO⟩ h1 h2 (p1.isList.at fun o e => hk _ _ e) (p22.isList.at fun o e => hk _ _ e) ⟨nn a 0 la, nn a 1 la, nn a 4 la, nn a 3 la⟩ ⟨nn b 0 lb, nn b 1 lb, nn b 4 lb, nn b 3 lb⟩ (by simp only [List.size_toArray]; omega) fun h'' tk acc c as hk' hS hl hG hacc => ?_
      have hsz' : s1.heap.objs.size ≤ h'.objs.size := by rw [hsz]; exact Nat.le_add_right _ _
      obtain ⟨H', k1, k2, k3, k4, k5, k6, J⟩ := pairs_laid (tk := tk) I1 (by rw [List.length_zip]; omega) rv rv2 (fun b o e => hk' b o (nn b 4 (Heap.lt_size e)) (nn b 3 (Heap.lt_size e)) (nn b 0 (Heap.lt_size e)) (nn b 1 (Heap.lt_size e)) (hk b o e)) hsz' hS (by rw [hl, List.length_zip]; simp only [List.size_toArray]; omega) hG hacc
      exact ⟨.ref _, H', J, rfl, q H' _ as k1 k2 k3 k4 k5 k6⟩
end LZ

/-! # zip of three lists; list(zip(a, b)) over data. -/
namespace LZ
open PySem PySem.Spec PyProof.Rows L2
/-- the lists at a, b, c as they stand at each turn -/
def Itz3 (K : PySem.W.Frag) (a b c : Addr) : It :=
  ⟨fun i H => ∃ (xs ys us : List V), SqL K H a xs ∧ SqL K H b ys ∧ SqL K H c us ∧ i < xs.length ∧ i < ys.length ∧ i < us.length,
    fun i H v H' => ∃ T x y u, v = .ref T ∧ H T = none ∧ H' = upd H T (.tup [x, y, u]) ∧ (∀ xs, SqL K H a xs → xs[i]? = some x) ∧ (∀ ys, SqL K H b ys → ys[i]? = some y) ∧ ∀ us, SqL K H c us → us[i]? = some u,
    fun i H => ∃ xs ys us : List V, SqL K H a xs ∧ SqL K H b ys ∧ SqL K H c us ∧ i ≤ xs.length ∧ i ≤ ys.length ∧ i ≤ us.length ∧ (i = xs.length ∨ i = ys.length ∨ i = us.length)⟩
theorem turn_zip3 {P : Program} {w : World} {K : PySem.W.Frag} {elts : List Expr} {kk : Nat} {tpos : Pos} {a b c z TI TO i1 i2 i3 : Addr} (D : ZipSep3 z TI TO i1 i2 i3 [i1, a] [i2, b] [i3, c]) (na : a ≠ i1) (nb : b ≠ i2) (nc : c ≠ i3) :
    Turn P w K (.Tuple elts kk tpos) (Itz3 K a b c) [z, TI, TO, i1, i2, i3] z (fun i h => IsZip h z TI TO .none ∧ IsTupOf3 h TI (.ref i1) (.ref i2) (.ref i3) ∧ (∃ x y u, IsTupOf3 h TO x y u) ∧ h.IsListIter i1 a i ∧ h.IsListIter i2 b i ∧ h.IsListIter i3 c i) where
  mem := by simp
  obj := fun i h st c hc => by
    obtain ⟨hz, hTI, ⟨x, y, u, hTO⟩, ⟨o1, e1, _, d1⟩, ⟨o2, e2, _, d2⟩, ⟨o3, e3, _, d3⟩⟩ := st
    have e' : c = z ∨ c = TI ∨ c = TO ∨ c = i1 ∨ c = i2 ∨ c = i3 := by simpa using hc
    rcases e' with q | q | q | q | q | q
    · rw [q]; exact ⟨_, hz, fun v q => nomatch q⟩
    · rw [q]; exact ⟨_, hTI, fun v q => nomatch q⟩
    · rw [q]; exact ⟨_, hTO, fun v q => nomatch q⟩
    · rw [q]; exact ⟨o1, e1, fun v q => by rw [d1] at q; cases q⟩
    · rw [q]; exact ⟨o2, e2, fun v q => by rw [d2] at q; cases q⟩
    · rw [q]; exact ⟨o3, e3, fun v q => by rw [d3] at q; cases q⟩
  keep := fun i h h' st k => by
    obtain ⟨hz, hTI, ⟨x, y, u, hTO⟩, h1, h2, h3⟩ := st
    exact ⟨k z (by simp) _ hz, k TI (by simp) _ hTI, ⟨x, y, u, k TO (by simp) _ hTO⟩, h1.at fun o q => k i1 (by simp) o q, h2.at fun o q => k i2 (by simp) o q, h3.at fun o q => k i3 (by simp) o q⟩
  item := by
    intro X hP hw hK hc i pins s σ H E I hf st hg
    subst hP hw hK
    obtain ⟨hz, hTI, ⟨x0, y0, u0, hTO⟩, h1, h2, h3⟩ := st
    obtain ⟨xs, ys, us, hqx, hqy, hqu, l1, l2, l3⟩ := hg
    obtain ⟨its, rv, p, _⟩ := I.list hqx
    obtain ⟨its2, rv2, p2, _⟩ := I.list hqy
    obtain ⟨its3, rv3, p3, _⟩ := I.list hqu
    have e1 := rv.length
    have e2 := rv2.length
    have e3 := rv3.length
    have hh : X.A.in1.handled = none := I.ok.hd hc
    have hzl : z < s.heap.objs.size := Heap.lt_size hz
    refine wpAny_pyNext_zipD3_item D (Draws.list hh i1 a na its.toArray) (Draws.list hh i2 b nb its2.toArray) (Draws.list hh i3 c nc its3.toArray) hz hTI hTO ⟨h1, p.isList⟩ ⟨h2, p2.isList⟩ ⟨h3, p3.isList⟩ (by simp only [List.size_toArray]; omega) (by simp only [List.size_toArray]; omega) (by simp only [List.size_toArray]; omega)
      fun v1 v2 v3 h' tk y1 y2 y3 z' TO' d1 d2 d3 hT hsz hk => ?_
    have g1 : its[i]? = some v1 := by simpa using y1
    have g2 : its2[i]? = some v2 := by simpa using y2
    have g3 : its3[i]? = some v3 := by simpa using y3
    obtain ⟨x, hx, ru⟩ : ∃ x, xs[i]? = some x ∧ RelV x v1 := by
      obtain ⟨w1, hw, r⟩ := rv.get (List.getElem?_eq_getElem l1)
      rw [g1] at hw
      cases hw
      exact ⟨_, List.getElem?_eq_getElem l1, r⟩
    obtain ⟨y, hy, ru2⟩ : ∃ x, ys[i]? = some x ∧ RelV x v2 := by
      obtain ⟨w1, hw, r⟩ := rv2.get (List.getElem?_eq_getElem l2)
      rw [g2] at hw
      cases hw
      exact ⟨_, List.getElem?_eq_getElem l2, r⟩
    obtain ⟨u, hu, ru3⟩ : ∃ x, us[i]? = some x ∧ RelV x v3 := by
      obtain ⟨w1, hw, r⟩ := rv3.get (List.getElem?_eq_getElem l3)
      rw [g3] at hw
      cases hw
      exact ⟨_, List.getElem?_eq_getElem l3, r⟩
    refine ⟨_, rfl, wpAny_letOwnedTupleGo_zip (s := { s with heap := h', toks := tk }) z' fun h'' z'' sb => ?_⟩
    have hT2 : h''.get? s.heap.objs.size = some { cls := .type "tuple", data := .seq #[v1, v2, v3] } := (sb.2 _ (Nat.ne_of_gt hzl)).trans hT
    have new : ObjOk X.prog X.w (upd H s.heap.objs.size (.tup [x, y, u])) h'' s.heap.objs.size (.tup [x, y, u]) :=
      ⟨by show 3 ≤ sizeLine; decide, [v1, v2, v3], .cons ru (.cons ru2 (.cons ru3 .nil)), ⟨_, hT2, rfl, _, rfl⟩⟩
    have I1 : Inv X pins σ (upd H s.heap.objs.size (.tup [x, y, u])) { s with heap := h'', toks := tk } :=
      I.turnedNew (t' := tk) (ch := [z, TI, TO, i1, i2, i3]) (fun c o hb q => (sb.2 c (fun q' => hb (by simp [q']))).trans (hk c o (fun q' => hb (by simp [q'])) (fun q' => hb (by simp [q'])) (fun q' => hb (by simp [q'])) (fun q' => hb (by simp [q'])) (fun q' => hb (by simp [q'])) q)) hf (Nat.le_refl _) new
    refine ⟨.ref s.heap.objs.size, _, I1, rfl, ⟨_, x, y, u, rfl, I.hok.fresh (Nat.le_refl _), rfl, fun l hl => by rw [I.list_inj hl hqx]; exact hx, fun l hl => by rw [I.list_inj hl hqy]; exact hy, fun l hl => by rw [I.list_inj hl hqu]; exact hu⟩, ⟨z'', ?_, ⟨v1, v2, v3, ?_⟩, ?_, ?_, ?_⟩, fun c hcm => ?_⟩
    · exact (sb.2 _ D.TIz).trans (hk _ _ D.TIz D.TITO D.TIi1 D.TIi2 D.TIi3 hTI)
    · exact (sb.2 _ D.TOz).trans TO'
    · exact d1.1.at fun o q => (sb.2 _ (Ne.symm D.zi1)).trans q
    · exact d2.1.at fun o q => (sb.2 _ (Ne.symm D.zi2)).trans q
    · exact d3.1.at fun o q => (sb.2 _ (Ne.symm D.zi3)).trans q
    · have hlt : c < s.heap.objs.size := by
        have e' : c = z ∨ c = TI ∨ c = TO ∨ c = i1 ∨ c = i2 ∨ c = i3 := by simpa using hcm
        rcases e' with q | q | q | q | q | q
        · rw [q]; exact hzl
        · rw [q]; exact Heap.lt_size hTI
        · rw [q]; exact Heap.lt_size hTO
        · rw [q]; obtain ⟨_, e1, _⟩ := h1; exact Heap.lt_size e1
        · rw [q]; obtain ⟨_, e2, _⟩ := h2; exact Heap.lt_size e2
        · rw [q]; obtain ⟨_, e3, _⟩ := h3; exact Heap.lt_size e3
      rw [upd_ne (Nat.ne_of_lt hlt)]
      exact (hf c hcm).1
  done := by
    intro X hP hw hK hc i pins s σ H E I hf st hg
    subst hP hw hK
    obtain ⟨hz, hTI, ⟨x0, y0, u0, hTO⟩, h1, h2, h3⟩ := st
    obtain ⟨xs, ys, us, hqx, hqy, hqu, l1, l2, l3, hend⟩ := hg
    obtain ⟨its, rv, p, _⟩ := I.list hqx
    obtain ⟨its2, rv2, p2, _⟩ := I.list hqy
    obtain ⟨its3, rv3, p3, _⟩ := I.list hqu
    have e1 := rv.length
    have e2 := rv2.length
    have e3 := rv3.length
    have hh : X.A.in1.handled = none := I.ok.hd hc
    exact wpAny_pyNext_zipD3_end D (Draws.list hh i1 a na its.toArray) (Draws.list hh i2 b nb its2.toArray) (Draws.list hh i3 c nc its3.toArray) hz hTI hTO ⟨h1, p.isList⟩ ⟨h2, p2.isList⟩ ⟨h3, p3.isList⟩ (by simp only [List.size_toArray]; omega) (by simp only [List.size_toArray]; omega) (by simp only [List.size_toArray]; omega)
      (by simp only [List.size_toArray]; omega) fun h' tk hk => ⟨rfl, I.turnedL (t' := tk) (ch := [z, TI, TO, i1, i2, i3]) (fun c o hb q =>
        hk c o (fun q' => hb (by simp [q'])) (fun q' => hb (by simp [q'])) (fun q' => hb (by simp [q'])) (fun q' => hb (by simp [q'])) (fun q' => hb (by simp [q'])) q) hf⟩
  self := fun A i s Q E st h => wpAny_pyIter_zip st.1 h
def iZip3 (K : PySem.W.Frag) (ta : TA) : TI := fun σ H R => ta σ H fun vs H1 => ∃ a b c xs ys us, vs = [.ref a, .ref b, .ref c] ∧ SqL K H1 a xs ∧ SqL K H1 b ys ∧ SqL K H1 c us ∧ R (Itz3 K a b c) H1
theorem pi_zip3 {X : Cx} {e e2 e3 : Expr} {ta : TA} {p pos tpos : Pos} {elts : List Expr} {kk : Nat} (hg : Gl X "zip") (hm : X.mg "zip" = none) (ha : PA X [e, e2, e3] ta)
    (hs : starEach [e, e2, e3] X.env = (false, eval e X.env) :: starEach [e2, e3] X.env := by rfl) (hpl : (backTo pos (starEach [e2, e3] X.env)).any (·.1) = false := by rfl) :
    PI X (.Tuple elts kk tpos) (.Call (.Name "zip" p) [e, e2, e3] [] pos) (iZip3 X.K ta) := by
  refine ⟨fun pins s σ H R I h => ?_⟩
  refine Call_ (ld_blt I hg hm PyProof.Rows.boot_zip (PyProof.Rows.callWith_type1 (thn (ha.run pos pins s σ H _ I h) fun us s1 ⟨vs, H1, I1, r1, q1⟩ => ?_) hs hpl))
  obtain ⟨a, b, c, xs, ys, us, ex, hqx, hqy, hqu, q⟩ := q1
  subst ex
  cases r1 with
  | cons r rr =>
    cases rr with
    | cons r' rr =>
      cases rr with
      | cons r'' rr =>
        cases rr
        cases r
        cases r'
        cases r''
        obtain ⟨its, rv, p1, _⟩ := I1.list hqx
        obtain ⟨its2, rv2, p2, _⟩ := I1.list hqy
        obtain ⟨its3, rv3, p3, _⟩ := I1.list hqu
        have la : a < s1.heap.objs.size := p1.lt
        have lb : b < s1.heap.objs.size := p2.lt
        have lc : c < s1.heap.objs.size := p3.lt
        have D := zip_sep3 (N := s1.heap.objs.size) (fp1 := [a]) (fp2 := [b]) (fp3 := [c]) (fun x hx => by rw [List.mem_singleton.mp hx]; exact la) (fun x hx => by rw [List.mem_singleton.mp hx]; exact lb) (fun x hx => by rw [List.mem_singleton.mp hx]; exact lc)
        refine zip_begins3 (begins_list a its.toArray) (begins_list b its2.toArray) (begins_list c its3.toArray) p1.isList p2.isList p3.isList fun h' hz hTI hTO h1 h2 h3 hsz hk => wpAny_pyIter_zip hz ?_
        have I2 : Inv X pins σ H1 { s1 with heap := h' } := I1.kept (t' := s1.toks) hk
        refine ⟨s1.heap.objs.size + 5, [s1.heap.objs.size + 5, s1.heap.objs.size + 3, s1.heap.objs.size + 4, s1.heap.objs.size, s1.heap.objs.size + 1, s1.heap.objs.size + 2], _, _, H1, rfl, I2, turn_zip3 D (Nat.ne_of_lt la) (Nat.ne_of_lt (Nat.lt_succ_of_lt lb)) (Nat.ne_of_lt (Nat.lt_succ_of_lt (Nat.lt_succ_of_lt lc))),
          ⟨hz, hTI, ⟨_, _, _, hTO⟩, ⟨_, h1, rfl, rfl⟩, ⟨_, h2, rfl, rfl⟩, ⟨_, h3, rfl, rfl⟩⟩, fun x hcm => ?_, q⟩
        have e' : x = s1.heap.objs.size + 5 ∨ x = s1.heap.objs.size + 3 ∨ x = s1.heap.objs.size + 4 ∨ x = s1.heap.objs.size ∨ x = s1.heap.objs.size + 1 ∨ x = s1.heap.objs.size + 2 := by simpa using hcm
        have hle : s1.heap.objs.size ≤ x := by
          rcases e' with z | z | z | z | z | z
          · rw [z]; exact Nat.le_add_right _ _
          · rw [z]; exact Nat.le_add_right _ _
          · rw [z]; exact Nat.le_add_right _ _
          · rw [z]; exact Nat.le_refl _
          · rw [z]; exact Nat.le_add_right _ _
          · rw [z]; exact Nat.le_add_right _ _
        exact I1.fpOk hle (I1.hok.fresh hle)
end LZ
namespace Dy
variable [Tn]
open PySem PySem.Spec PyProof.Rows L2
def zip3D (l l' l'' : List D) : List D := List.zipWith (fun x (p : D × D) => .tup [x, p.1, p.2]) l (List.zip l' l'')
theorem zip3D_get {l l' l'' : List D} {i : Nat} {x y u : D} (h : l[i]? = some x) (h' : l'[i]? = some y) (h'' : l''[i]? = some u) : (zip3D l l' l'')[i]? = some (.tup [x, y, u]) := by
  unfold zip3D
  have e : (List.zip l' l'')[i]? = some (y, u) := List.getElem?_zip_eq_some.mpr ⟨h', h''⟩
  rw [List.getElem?_zipWith, h, e]
theorem zip3D_length (l l' l'' : List D) : (zip3D l l' l'').length = min l.length (min l'.length l''.length) := by simp [zip3D]
theorem itOk_zip3 {K : PySem.W.Frag} {F : Hp} {a b c : Addr} {xs ys us : List V} {l l' l'' : List D} (h : F a = some (.lst xs)) (r : RepL K F l xs) (h' : F b = some (.lst ys)) (r' : RepL K F l' ys) (h'' : F c = some (.lst us)) (r'' : RepL K F l'' us) : ItOk K (LZ.Itz3 K a b c) F (zip3D l l' l'') where
  go := fun i H hi s => by
    rw [zip3D_length] at hi
    have e1 := r.length
    have e2 := r'.length
    have e3 := r''.length
    exact ⟨xs, ys, us, SqL.of (s _ _ h), SqL.of (s _ _ h'), SqL.of (s _ _ h''), by omega, by omega, by omega⟩
  stop := fun i H hi s => by
    rw [zip3D_length] at hi
    have e1 := r.length
    have e2 := r'.length
    have e3 := r''.length
    exact ⟨xs, ys, us, SqL.of (s _ _ h), SqL.of (s _ _ h'), SqL.of (s _ _ h''), by omega, by omega, by omega, by omega⟩
  yld := fun i H v H' hi s ⟨T, x, y, u, e, hT, e', q, q', q''⟩ => by
    obtain ⟨d, hd, rd⟩ := r.getV (q xs (SqL.of (s _ _ h)))
    obtain ⟨d', hd', rd'⟩ := r'.getV (q' ys (SqL.of (s _ _ h')))
    obtain ⟨d'', hd'', rd''⟩ := r''.getV (q'' us (SqL.of (s _ _ h'')))
    rw [e, e']
    refine ⟨_, zip3D_get hd hd' hd'', fun F1 s1 s2 n => ⟨upd F1 T (.tup [x, y, u]), (Ext.refl s2 n).alloc hT trivial, ?_⟩⟩
    exact .tup (SqT.of upd_same) (.cons ((rd.mono s1).mono (same_alloc s2 hT)) (.cons ((rd'.mono s1).mono (same_alloc s2 hT)) (.one ((rd''.mono s1).mono (same_alloc s2 hT)))))
section
variable {X : Cx} {e e2 e3 : Expr} {k : DA} {p p2 pos cpos tpos : Pos}
@[simp] def dZip3 (k : DA) : DA := fun ρ P => k ρ fun ds => ∃ l l' l'', ds = [.lst l, .lst l', .lst l''] ∧ P (zip3D l l' l'')
theorem id_zip3 {elts : List Expr} {kk : Nat} (ha : AD X [e, e2, e3] k) (hm : X.mg "zip" = none) (hg : Gl X "zip" := by rfl) (hs : starEach [e, e2, e3] X.env = (false, eval e X.env) :: starEach [e2, e3] X.env := by rfl) (hpl : (backTo pos (starEach [e2, e3] X.env)).any (·.1) = false := by rfl) :
    ID X (.Tuple elts kk tpos) (.Call (.Name "zip" p) [e, e2, e3] [] pos) (dZip3 k) :=
  piImp (LZ.pi_zip3 hg hm ha hs hpl) fun σ H R ⟨F0, B, F, ρ, P, S, q, fin⟩ => ⟨F0, B, F, ρ, _, S, q, fun ds ⟨l, l', l'', e, pp⟩ vs F1 H1 E1 r1 => by
    subst e
    cases r1 with
    | cons a b =>
      cases b with
      | cons b c =>
        cases c with
        | cons c d =>
          cases d
          cases a with
          | @lst a xs _ h1 q1 =>
            cases b with
            | @lst b ys _ h2 q2 =>
              cases c with
              | @lst c us _ h3 q3 => exact ⟨a, b, c, xs, ys, us, rfl, SqL.of (E1.fh _ _ h1), SqL.of (E1.fh _ _ h2), SqL.of (E1.fh _ _ h3), fin _ pp F1 H1 E1 _ (itOk_zip3 h1 q1 h2 q2 h3 q3)⟩⟩
/-- list(zip(a, b)): the pairs may be keys -/
@[simp] def dLZip (k : DA) : DE := fun ρ P => k ρ fun ds => ∃ l l', ds = [.lst l, .lst l'] ∧ P (.lst (List.zipWith (fun x y => .tpl [x, y]) l l'))
theorem lz_rep {K : PySem.W.Frag} {F H : Hp} : ∀ {l l' : List D} {xs ys : List V} {ts : List Addr}, RepL K F l xs → RepL K F l' ys → Paired (fun (t : Addr) (q : V × V) => H t = some (.tup [q.1, q.2])) ts (List.zip xs ys) → (∀ t ∈ ts, ∀ o, H t = some o → F t = some o) → RepL K F (List.zipWith (fun x y => .tpl [x, y]) l l') (ts.map V.ref)
  | _, _, _, _, ts, .nil, r', p, _ => by
    have : ts = [] := by
      cases p
      rfl
    subst this
    simpa using RepL.nil
  | _, _, _, _, ts, .cons h r, .nil, p, _ => by
    have : ts = [] := by
      cases p
      rfl
    subst this
    simpa using RepL.nil
  | _, _, _, _, ts, .cons h r, .cons h' r', p, s => by
    cases p with
    | @cons t _ ts _ e p => exact .cons (.tpl (s t (by simp) _ e) (.cons h (.one h'))) (lz_rep r r' p fun t ht => s t (by simp [ht]))
theorem ed_lzip (hml : X.mg "list" = none) (hm : X.mg "zip" = none) (ha : AD X [e, e2] k) (hc : X.calm = true) (hgl : Gl X "list" := by rfl) (hg : Gl X "zip" := by rfl)
    (hs0 : starEach [.Call (.Name "zip" p2) [e, e2] [] cpos] X.env = (false, eval (.Call (.Name "zip" p2) [e, e2] [] cpos) X.env) :: starEach [] X.env := by rfl)
    (hs : starEach [e, e2] X.env = (false, eval e X.env) :: starEach [e2] X.env := by rfl) (hpl : (backTo cpos (starEach [e2] X.env)).any (·.1) = false := by rfl) :
    ED X (.Call (.Name "list" p) [.Call (.Name "zip" p2) [e, e2] [] cpos] [] pos) (dLZip k) :=
  peImp (LZ.pe_listZip hc hgl hml (by decide +kernel) hg hm ha hs0 hs hpl) fun σ H Q ⟨F0, B, F, ρ, P, S, q, fin⟩ => ⟨F0, B, F, ρ, _, S, q, fun ds ⟨l, l', e, pp⟩ vs F1 H1 E1 r1 => by
    subst e
    cases r1 with
    | cons a b =>
      cases b with
      | cons b c =>
        cases c
        cases a with
        | @lst a xs _ h1 q1 =>
          cases b with
          | @lst b ys _ h2 q2 =>
            refine ⟨a, b, xs, ys, rfl, SqL.of (E1.fh _ _ h1), SqL.of (E1.fh _ _ h2), fun H' t ts k1 k2 k3 k4 k5 k6 => ?_⟩
            -- the list and its pairs are frozen
            have mem : ∀ b ∈ t :: ts, F1 b = none ∧ H1 b = none := fun b hb => by
              rcases List.mem_cons.mp hb with rfl | hb
              · exact ⟨E1.fh.free k2, k2⟩
              · exact ⟨E1.fh.free (k3 b hb), k3 b hb⟩
            have sm : Same F1 (frzs F1 H' (t :: ts)) := frzs_same fun b hb => (mem b hb).1
            have nn : ∀ b ∈ t :: ts, ∃ ho, H' b = some ho ∧ ∀ ps, ho ≠ .tbl ps := fun b hb => by
              rcases List.mem_cons.mp hb with rfl | hb
              · exact ⟨_, k5, fun ps z => nomatch z⟩
              · obtain ⟨j, q, _, _, e3⟩ := LiI.paired_ix k6 hb
                exact ⟨_, e3, fun ps z => nomatch z⟩
            have tb : AllT H' := fun q hq => by
              obtain ⟨ps, t1, t2, t3⟩ := E1.nt.2 q hq
              exact ⟨ps, k1 _ _ t1, t2, fun pos cv hc => let ⟨c, w1, w2⟩ := t3 pos cv hc; ⟨c, w1, k1 _ _ w2⟩⟩
            have EE : Ext F1 H1 (frzs F1 H' (t :: ts)) H' := ⟨sm, fun b u e => by
                by_cases hb : b ∈ t :: ts
                · rw [frzs_in hb] at e; exact e
                · rw [frzs_out hb] at e; exact k1 _ _ (E1.fh _ _ e), fun b o e => .inl (k1 _ _ e), fun b o h0 hB ht => by
                by_cases hb : b ∈ t :: ts
                · rw [(mem b hb).2] at hB; cases hB
                · rw [frzs_out hb]; exact h0, ⟨fun b ps e => by
                by_cases hb : b ∈ t :: ts
                · rw [frzs_in hb] at e
                  obtain ⟨ho, w1, w2⟩ := nn b hb
                  rw [w1] at e
                  cases e
                  exact w2 ps rfl
                · rw [frzs_out hb] at e; exact E1.nt.1 b ps e, tb⟩⟩
            refine fin _ pp (.ref t) _ H' (E1.trans EE) (.lst (by rw [frzs_in (by simp)]; exact k5) (lz_rep (q1.mono sm) (q2.mono sm) k6 fun x hx o ho => by rw [frzs_in (by simp [hx])]; exact ho))⟩
end
end Dy

/-! # A list walked while an exception is handled. -/
namespace Dy
open PySem PySem.Spec PyProof.Rows L2
section
variable {prog : Program} {w : World} {A : Around} {E : Value → Shared → Prop} {s : Shared}
theorem pyNext_list_end_hot {it l x1 : Addr} {i : Nat} {items : Array Value} {Q : Option Value → Shared → Prop} (hot : HotX.HotAt A x1 s.heap) (hit : s.heap.IsListIter it l i) (hl : s.heap.IsList l items) (hx : items[i]? = none) (hne : x1 ≠ it)
    (hQ : ∀ h', Heap.ExtBut it s.heap h' → Q none { s with heap := h' }) : wpAny (model prog w) A (pyNext (.ref it)) Q E s := by
  obtain ⟨o, ho, hc, hd⟩ := id hit
  obtain ⟨ol, hol, _, nl, hdl⟩ := hl
  obtain ⟨hh, o1, vs1, h1, d1, c1⟩ := hot
  unfold pyNext
  refine wpAny_bind (wpAny_attempt (wpAny_callSpecial?_slot (name := Str.ofString "__next__") hit.typeIs slot_listiter_next
    (wpAny_call_entry slot_listiter_next hit.typeIs entry_listiter_next ?_ (args_listiter_next _))))
  show wpAny _ _ (field (.ref it) 0 >>= _) _ _ s
  refine wpAny_bind (wpAny_field ho hd (x := .ref l) rfl ?_)
  show wpAny _ _ (if (Value.ref l == Value.none) = true then _ else _) _ _ s
  rw [if_neg (show ¬ ((Value.ref l == Value.none) = true) from Bool.false_ne_true)]
  show wpAny _ _ (field (.ref it) 1 >>= _) _ _ s
  refine wpAny_bind (wpAny_field ho hd (x := .int i 0) rfl ?_)
  show wpAny _ _ (seqItems? (.ref l) >>= _) _ _ s
  refine wpAny_bind (wpAny_seqItems hol hdl ?_)
  simp only [Int.toNat_natCast, hx]
  refine wpAny_bind (wpAny_rule (wpAny_bind (wpAny_setField ho hd (by simp) ?_)))
  show wpAny _ _ (newExc (.type "StopIteration") [] >>= _) _ _ _
  refine wpAny_bind ?_
  simp only [newExc, newTuple]
  refine wpAny_bind (wpAny_newObj_type ?_ (by size_fits))
  refine wpAny_bind (m := firstArgMember _ _) (wpAny_of_eq (a := Value.none) (by first | rfl | (simp only [firstArgMember]; rfl)) ?_)
  refine wpAny_newObj_type ?_ (by size_fits)
  have k1 : (s.heap.update it (Obj.mapFields (·.setIfInBounds 0 .none))).get? x1 = some o1 := (Heap.get?_update_other _ _ (Ne.symm hne)).trans h1
  refine HotX.raiseNew_hot ⟨hh, o1, vs1, Heap.get?_push_of_some _ (Heap.get?_push_of_some _ k1), d1, c1⟩ (Nat.ne_of_lt (Heap.lt_size (Heap.get?_push_of_some _ k1))) (Heap.get?_push_size _ rfl) rfl (by first | (simp; done) | (simp; omega) | (simp only [Array.size_append]; simp; omega)) ?_
  refine wpAny_bind (wpAny_isInstance (T := "StopIteration") (b := true) ⟨_, Heap.get?_update_self _ (Heap.get?_push_size _ rfl) rfl, rfl⟩ isSubtype_stop ?_)
  refine wpAny_pure (hQ _ fun b o hb e => ?_)
  have e1 : (s.heap.update it (Obj.mapFields (·.setIfInBounds 0 .none))).get? b = some o := (Heap.get?_update_other _ _ (Ne.symm hb)).trans e
  rw [Heap.get?_update_other _ _ (Nat.ne_of_gt (Heap.lt_size (Heap.get?_push_of_some _ e1)))]
  exact Heap.get?_push_of_some _ (Heap.get?_push_of_some _ e1)
/-- the handled exception's object in a heap -/
def HotO (x1 : Addr) (h : Heap) : Prop := ∃ (o : Obj) (vs : Array Value), h.get? x1 = some o ∧ o.data = .fields vs ∧ vs[2]? = some .none
theorem HotO.keep {x1 : Addr} {h h' : Heap} (x : HotO x1 h) (k : ∀ o, h.get? x1 = some o → h'.get? x1 = some o) : HotO x1 h' := by
  obtain ⟨o, vs, e, d, c⟩ := x
  exact ⟨o, vs, k o e, d, c⟩
theorem walks_hot (I ax x1 : Addr) (hh : A.handled = some (.ref x1)) (hne : ax ≠ I) (hn1 : x1 ≠ I) (items : Array Value) :
    Walks prog w A I [I, ax, x1] [I] items.size (fun i v => items[i]? = some v) (fun i h => h.IsListIter I ax i ∧ h.IsList ax items ∧ HotO x1 h) where
  sub := fun b hb => by simp at hb; simp [hb]
  frame := fun _ _ _ st hk => ⟨st.1.at fun o e => hk I (by simp) o e, st.2.1.at fun o e => hk ax (by simp) o e, st.2.2.keep fun o e => hk x1 (by simp) o e⟩
  item := fun i s Q E hi st hQ => by
    refine wpAny_pyNext_list_item st.1 st.2.1 (x := items[i]) (by simp [hi]) fun h' hit' hs' => ?_
    exact hQ _ h' s.toks (by simp [hi]) ⟨hit', st.2.1.extBut hs'.extBut hne, st.2.2.keep fun o e => hs'.extBut _ o hn1 e⟩ fun b o hb e => hs'.extBut b o (fun h => hb (by simp [h])) e
  done := fun s Q E st hQ => by
    obtain ⟨o, vs, e, d, c⟩ := st.2.2
    exact pyNext_list_end_hot ⟨hh, o, vs, e, d, c⟩ st.1 st.2.1 (by simp) hn1 fun h' he' => hQ h' s.toks fun b o hb e => he' b o (fun h => hb (by simp [h])) e
  self := fun _ _ _ _ st hQ => wpAny_pyIter_listiter st.1 hQ
theorem goes_hot {target : Expr} (I ax x1 : Addr) (hh : A.handled = some (.ref x1)) (hne : ax ≠ I) (hn1 : x1 ≠ I) (items : Array Value) :
    Goes prog w A target I [I, ax, x1] [I] items.size (fun i v _ => items[i]? = some v) (fun i h => h.IsListIter I ax i ∧ h.IsList ax items ∧ HotO x1 h) :=
  .ofWalks (walks_hot I ax x1 hh hne hn1 items) fun i v s Q E st q => by
    obtain ⟨o, ho, hc, hd⟩ := st.1
    exact go_of ho hc hd (by decide) q
end
end Dy

/-! # While an exception is handled: [int(y) for y in bools], sum of it. -/
namespace Dy
open PySem PySem.Spec PyProof.Rows L2
theorem lt3 {b N l x : Nat} (h : l < N) (h' : x < N) (hb : b = N ∨ b = l ∨ b = x) : b < N + 1 := by omega
theorem off2 {b N C D : Nat} (hb : b < N ∨ b = C) (hC : N + 1 ≤ C) (hD : N + 1 ≤ D) (h : D ≠ C) (hm : b = D ∨ b = N) : False := by omega
theorem ne3 {b N C : Nat} (hb : b < N + 1) (hC : N + 1 ≤ C) : b ≠ C := by omega
def b01 (b : Bool) : Int := if b then 1 else 0
section
variable {prog : Program} {w : World} {A : Around} {env : Env} {s : Shared}
theorem hot_ints {scope : Scope} {y : Str} {x1 : Addr} {mg mb : Str → Option Value} {iter : Expr} {py p1 p2 p3 pos : Pos} {Q : Value → Shared → Prop} {E : Value → Shared → Prop} {s0 : Shared} (hh : A.handled = some (.ref x1))
    (hfree : ∀ z ∈ scope.names, z.2 ≠ .free) (hcell : ∀ z ∈ scope.names, z.2 ≠ .cell) (hkind : scope.kind = .function) (hnames : ∀ z ∈ scope.names, z.2 = .local → scope.names.lookup z.1 = some .local)
    (hy : scope.names.lookup y = some .local) (hyi : scope.names.lookup ("int" : Str) = some .globalImplicit) (hdy : (y == ("__debug__" : Str)) = false) (hi : mg "int" = none) (hb : mb "int" = some (.type "int"))
    (hit : wpAny (model prog w) A (eval iter env) (fun v s => ∃ (l : Addr) (bs : List Bool), v = .ref l ∧ HotO x1 s.heap ∧ s.heap.Ns env.globals mg ∧ s.heap.Ns env.builtins mb ∧ s.heap.IsList l (bs.map Value.bool).toArray ∧ bs.length ≤ sizeLine ∧
      ∀ D h' tk (vs : List Value), s.heap.objs.size ≤ D → h'.PlainList D vs.toArray → Vals ((bs.map b01).map V.int) vs → (∀ b o, s.heap.get? b = some o → h'.get? b = some o) → Q (.ref D) { s with heap := h', toks := tk }) E s0) (hs : ∀ x, foldedSetIterable iter env x = pure x) :
    wpAny (model prog w) A (eval (.ListComp (.Call (.Name "int" p1) [.Name y p2] [] p3) [⟨.Name y py, iter, [], 0⟩] scope pos) env) Q E s0 := by
  have hclos : closureFor scope env = pure (cloFrom env.cells scope.names []) := closure_ok fun z hz e => absurd e (hfree z hz)
  refine ListComp_goes hclos hcell hkind hnames (wpAny_mono hit (fun v s hv => ?_) fun _ _ z => z) hs
  obtain ⟨l, bs, rfl, hot, hG, hB, hl, hsz, h⟩ := hv
  have hlt : l < s.heap.objs.size := by obtain ⟨o, ho, _⟩ := hl; exact Heap.lt_size ho
  have hlt1 : x1 < s.heap.objs.size := by obtain ⟨o, vs, ho, _⟩ := hot; exact Heap.lt_size ho
  refine wpAny_pyIter_list hl ?_
  refine ⟨_, _, _, _, _, _, rfl, goes_hot s.heap.objs.size l x1 hh (Nat.ne_of_lt hlt) (Nat.ne_of_lt hlt1) _, by simpa using hsz, ⟨⟨_, Heap.get?_push_size _ rfl, rfl, rfl⟩, hl.push _, hot.keep fun o e => Heap.get?_push_of_some _ e⟩, ?_, fun D C s₃ hB3 => ?_⟩
  · intro b hb
    show b < (s.heap.push _).objs.size
    rw [Heap.size_push]
    have hb' : b = s.heap.objs.size ∨ b = l ∨ b = x1 := by simpa using hb
    exact lt3 hlt hlt1 hb'
  obtain ⟨⟨h₃, tk₃, rfl⟩, old, nD, nC, hDC, hnm⟩ := hB3
  have nC' : s.heap.objs.size + 1 ≤ C := by
    have q := nC
    rw [Heap.size_push] at q
    exact q
  have nD' : s.heap.objs.size + 1 ≤ D := by
    have q := nD
    rw [Heap.size_push] at q
    exact q
  generalize hce : compEnvC scope (cloFrom env.cells scope.names []) C env = ce
  have cL : ce.locals = C := by subst hce; rfl
  have cG : ce.globals = env.globals := by subst hce; rfl
  have cB : ce.builtins = env.builtins := by subst hce; rfl
  have cK : ce.scope.kind = .function := by subst hce; exact hkind
  have ky : ce.kindOf y = some .local := by subst hce; exact lookup_relabel_local hy
  have ki : ce.kindOf "int" = some .globalImplicit := by
    subst hce
    have q := lookup_relS_keep (sc := env.scope) (x := ("int" : Str)) (k := .globalImplicit) (by decide) hyi
    exact q
  have hp : (ce.scope.kind == .class || (ce.scope.kind == .module && ce.locals != ce.globals)) = false := by rw [cK]; rfl
  refine ⟨fun i vs s₁ => ∃ h' tk m, s₁ = { s with heap := h', toks := tk } ∧ h'.Ns C m ∧ Vals (((bs.take i).map b01).map V.int) vs ∧ ∀ b o, s.heap.get? b = some o → h'.get? b = some o, ⟨h₃, tk₃, _, rfl, hnm, by simpa using Paired.nil, fun b o e => old b o (Heap.get?_push_of_some _ e)⟩, ?_, ?_, ?_⟩
  · rintro i vs s₁ h' tk ⟨h₄, tk₄, m, rfl, n₄, e₄, k₄⟩ hk' _
    have off : ∀ b : Addr, (b < s.heap.objs.size ∨ b = C) → b ∉ D :: [s.heap.objs.size] := fun b hb hm => by
      have hm' : b = D ∨ b = s.heap.objs.size := by simpa using hm
      exact off2 hb nC' nD' hDC hm'
    exact ⟨h', tk, m, rfl, n₄.at' fun o e => hk' _ o (off _ (.inr rfl)) e, e₄, fun b o e => hk' b o (off _ (.inl (Heap.lt_size e))) (k₄ b o e)⟩
  · rintro i v vs s₁ hi' hv st ⟨h₄, tk₄, m, rfl, n₄, e₄, k₄⟩ hpl
    have n₄' : h₄.Ns ce.locals m := by rw [cL]; exact n₄
    refine wpAny_assign_Name (wpAny_storeName_local ky n₄' (fun h₅ n₅ s₅ => ?_) hp)
    refine wpAny_tests_nil ?_
    have offC : ∀ b : Addr, b < s.heap.objs.size + 1 → b ≠ ce.locals := fun b hb => by rw [cL]; exact ne3 hb nC'
    have k₅ : ∀ b o, s.heap.get? b = some o → h₅.get? b = some o := fun b o e => s₅.extBut b o (offC b (Nat.lt_succ_of_lt (Heap.lt_size e))) (k₄ b o e)
    obtain ⟨bv, hbv, hbe⟩ : ∃ bv, bs[i]? = some bv ∧ v = Value.bool bv := by
      have q : (bs.map Value.bool)[i]? = some v := by simpa using hv
      rw [List.getElem?_map] at q
      cases e : bs[i]? with
      | none => rw [e] at q; cases q
      | some bv => rw [e] at q; exact ⟨bv, rfl, (Option.some.inj q).symm⟩
    subst hbe
    show wpAny _ _ (eval (.Call (.Name "int" p1) [.Name y p2] [] p3) ce) _ _ _
    refine Call_ (Calls.Name_function_global cK ki (Calls.loadGlobal_builtin (by rw [cG]; exact hG.keeps k₅) hi (by rw [cB]; exact hB.keeps k₅) hb ?_) (by decide)) rfl
    refine PyProof.Rows.callWith_type1 ?_ rfl rfl
    show wpAny _ _ (spliced ((false, eval (.Name y p2) ce) :: [])) _ _ _
    refine Calls.spliced_cons ?_
    rw [eval_Name _ _ _ hdy]
    refine wpAny_bind (wpAny_standAt (wpAny_loadName_local cK ky n₅ (v := .bool bv) (if_pos rfl) (Calls.spliced_nil (call_int_bool ?_))))
    refine ⟨⟨h₅, _, _, rfl, by rw [← cL]; exact n₅, ?_, k₅⟩, ⟨st.1.at fun o e => s₅.extBut _ o (offC _ (Nat.lt_succ_self _)) e, st.2.1.at fun o e => s₅.extBut _ o (offC _ (Nat.lt_succ_of_lt hlt)) e, st.2.2.keep fun o e => s₅.extBut _ o (offC _ (Nat.lt_succ_of_lt hlt1)) e⟩, hpl.at fun o e => s₅.extBut _ o (by rw [cL]; exact hDC) e⟩
    rw [List.take_add_one, hbv, List.map_append, List.map_append]
    refine Vals.append e₄ ?_
    show Vals [V.int (b01 bv)] [Value.int (b01 bv) _]
    exact Paired.cons (show RelV _ _ from ⟨_, rfl⟩) Paired.nil
  · rintro vs s₁ ⟨h₄, tk₄, m, rfl, n₄, e₄, k₄⟩ hpl
    refine ⟨m, by rw [cL]; exact n₄, fun h' hs' => ?_⟩
    rw [cL] at hs'
    have e₄' : Vals ((bs.map b01).map V.int) vs := by simpa using e₄
    exact h D h' tk₄ vs (Nat.le_trans (Nat.le_succ _) nD') (hpl.extBut hs'.extBut hDC) e₄' fun b o e => hs'.extBut b o (ne3 (Nat.lt_succ_of_lt (Heap.lt_size e)) nC') (k₄ b o e)
theorem preSum01 (bs : List Bool) : ∀ j, j ≤ bs.length → 0 ≤ preSum (fun i => (bs.map b01).getD i 0) j ∧ preSum (fun i => (bs.map b01).getD i 0) j ≤ j ∧ preSum (fun i => (bs.map b01).getD i 0) j = ((bs.take j).map b01).sum
  | 0, _ => by simp [preSum]
  | j + 1, h => by
    obtain ⟨h1, h2, h3⟩ := preSum01 bs j (by omega)
    have e : (bs.map b01).getD j 0 = b01 bs[j] := by simp [List.getD, show j < bs.length by omega]
    have b : 0 ≤ b01 bs[j] ∧ b01 bs[j] ≤ 1 := by unfold b01; split <;> omega
    have t : ((bs.take (j + 1)).map b01).sum = ((bs.take j).map b01).sum + b01 bs[j] := by
      rw [List.take_add_one, List.getElem?_eq_getElem (show j < bs.length by omega), List.map_append, List.sum_append]
      simp
    rw [t]
    simp only [preSum, e]
    omega
theorem hot_sum {l x1 : Addr} {bs : List Bool} {its : List Value} {Q : Value → Shared → Prop} {E : Value → Shared → Prop} (hh : A.handled = some (.ref x1)) (hot : HotO x1 s.heap) (hl : s.heap.IsList l its.toArray) (hv : Vals ((bs.map b01).map V.int) its) (hsm : bs.length ≤ 1000)
    (h : ∀ h' tk t', (∀ b o, s.heap.get? b = some o → h'.get? b = some o) → Q (.int (bs.map b01).sum t') { s with heap := h', toks := tk }) : wpAny (model prog w) A (call (.builtin "sum") [.ref l]) Q E s := by
  have hlt : l < s.heap.objs.size := by obtain ⟨o, ho, _⟩ := hl; exact Heap.lt_size ho
  have hlt1 : x1 < s.heap.objs.size := by obtain ⟨o, vs, ho, _⟩ := hot; exact Heap.lt_size ho
  have hlen : its.length = bs.length := by rw [← hv.length]; simp
  refine call_sum_walk (wpAny_pyIter_list hl ?_)
  refine ⟨_, _, _, _, _, _, fun i => (bs.map b01).getD i 0, rfl, walks_hot (A := A.in1) s.heap.objs.size l x1 hh (Nat.ne_of_lt hlt) (Nat.ne_of_lt hlt1) _, ⟨⟨_, Heap.get?_push_size _ rfl, rfl, rfl⟩, hl.push _, hot.keep fun o e => Heap.get?_push_of_some _ e⟩, ?_, fun i v hi => ?_, fun j hj => ?_, fun h' tk t' hk => ?_⟩
  · intro b hb
    show b < (s.heap.push _).objs.size
    rw [Heap.size_push]
    have hb' : b = s.heap.objs.size ∨ b = l ∨ b = x1 := by simpa using hb
    exact lt3 hlt hlt1 hb'
  · have hi' : its[i]? = some v := by simpa using hi
    have hil : i < its.length := (List.getElem?_eq_some_iff.mp hi').1
    have hx : ((bs.map b01).map V.int)[i]? = some (V.int ((bs.map b01).getD i 0)) := by
      simp [List.getD, show i < bs.length by omega]
    obtain ⟨u, hu, ru⟩ := hv.get hx
    rw [hi'] at hu
    cases hu
    exact ru
  · have hj' : j < bs.length := by
      have q : j < its.toArray.size := hj
      simp at q
      omega
    obtain ⟨h1, h2, h3⟩ := preSum01 bs (j + 1) hj'
    have e : (bs.map b01).getD j 0 = b01 bs[j] := by simp [List.getD, hj']
    have b : 0 ≤ b01 bs[j] ∧ b01 bs[j] ≤ 1 := by unfold b01; split <;> omega
    refine ⟨⟨?_, ?_⟩, ?_, ?_⟩
    · show -(2 ^ 63) ≤ (bs.map b01).getD j 0
      rw [e]; omega
    · show (bs.map b01).getD j 0 < 2 ^ 63
      rw [e]; omega
    · omega
    · omega
  · have hz : preSum (fun i => (bs.map b01).getD i 0) its.toArray.size = (bs.map b01).sum := by
      rw [List.size_toArray, hlen, (preSum01 bs bs.length (Nat.le_refl _)).2.2, List.take_length]
    rw [hz]
    refine h h' tk t' fun b o e => hk b o ?_ (Heap.get?_push_of_some _ e)
    have hlb := Heap.lt_size e
    intro hm
    have hm' : b = s.heap.objs.size := by simpa using hm
    exact Nat.ne_of_lt hlb hm'
end
end Dy

/-! # Rules where an exception is handled, its class known. -/
namespace Dy
open PySem PySem.Spec PyProof.Rows L2
/-- a is handled, oe its object of the class C, pinned -/
structure HotE (X : Cx) (a : Addr) (oe : Obj) (C : Addr) : Prop where
  hh : X.A.handled = some (.ref a)
  pin : (a, oe) ∈ X.pn
  z : L2N.Zn (.ref C) none oe
  fl : ∃ vs, oe.data = .fields vs
section
variable {X : Cx} {a C : Addr} {oe : Obj}
theorem HotE.get (h : HotE X a oe C) {pins : List (Addr × Obj)} {σ : St} {H : Hp} {s : Shared} (I : Inv X pins σ H s) : s.heap.get? a = some oe := (I.pin (a, oe) (List.mem_append_left _ h.pin)).1
theorem HotE.hot (h : HotE X a oe C) {pins : List (Addr × Obj)} {σ : St} {H : Hp} {s : Shared} (I : Inv X pins σ H s) : HotO a s.heap := by
  obtain ⟨vs, e⟩ := h.fl
  exact ⟨oe, vs, h.get I, e, h.z.2.2 vs e⟩
theorem call_isH (c : ExcC X.K C) (he : HotE X a oe C) : CallR X (.builtin "isinstance") (rIsE X.K C a) := by
  intro pins s σ H xs us Q I r h
  obtain ⟨d, cv, b, rfl, hcv, e, q⟩ := h
  obtain ⟨ua, uc, rfl, ra, rc⟩ := Vals.two r
  have ec := hcv uc rc
  subst ec
  obtain rfl : ua = Value.ref a := ra
  have hget := he.get I
  obtain ⟨vs, hv⟩ := he.fl
  have J : PySem.W.InstAt s.heap a oe C none := by
    have h1 := he.z.1
    have h2 := he.z.2.1
    revert hget h1 h2 hv
    cases oe with
    | mk oc od oda osl =>
      intro hget h1 h2 hv
      dsimp only at h1 h2 hv
      subst h1 h2 hv
      exact ⟨hget, rfl, rfl, trivial⟩
  exact PySem.W.kia_one (PySem.W.handS_kitx_exc c.hg c.hk c.hs c.hd c.ha c.hn c.ht c.hm) I.kIn J e (fun z => nomatch z) fun tk => ⟨.bl b, H, I.kept (t' := tk) fun _ _ z => z, rfl, q⟩
theorem vals_bls : ∀ {bs : List Bool} {us : List Value}, Vals (bs.map V.bl) us → us = bs.map Value.bool
  | [], _, h => by cases h; rfl
  | b :: bs, _, h => by
    cases h with
    | cons r rr =>
      cases r
      rw [vals_bls rr]
      rfl
def tHotInts (K : PySem.W.Frag) (ti : TE) : TE := fun σ H Q => ti σ H fun x H1 => ∃ (l : Addr) (bs : List Bool), x = .ref l ∧ SqL K H1 l (bs.map V.bl) ∧ ∀ p, H1 p = none → Q (.ref p) (upd H1 p (.lst ((bs.map b01).map V.int)))
theorem pe_hotInts {scope : Scope} {y : Str} {iter : Expr} {py p1 p2 p3 pos : Pos} {ti : TE} (he : HotE X a oe C) (hi : PE X iter ti) (hm : X.mg "int" = none)
    (hfree : ∀ z ∈ scope.names, z.2 ≠ .free) (hcell : ∀ z ∈ scope.names, z.2 ≠ .cell) (hkind : scope.kind = .function) (hnames : ∀ z ∈ scope.names, z.2 = .local → scope.names.lookup z.1 = some .local)
    (hy : scope.names.lookup y = some .local) (hyi : scope.names.lookup ("int" : Str) = some .globalImplicit) (hdy : (y == ("__debug__" : Str)) = false) (hs : ∀ x, foldedSetIterable iter X.env x = pure x := by intro _; rfl) :
    PE X (.ListComp (.Call (.Name "int" p1) [.Name y p2] [] p3) [⟨.Name y py, iter, [], 0⟩] scope pos) (tHotInts X.K ti) := by
  refine ⟨fun pins s σ H Q I h => ?_⟩
  obtain ⟨mb, h1, h2⟩ := I.mod.blt
  refine hot_ints he.hh hfree hcell hkind hnames hy hyi hdy (mg := X.mg) (mb := mb) hm ((h2 _ (by decide)).trans (by decide +kernel)) (thn (hi.run pins s σ H _ I h) fun v s1 ⟨x, H1, I1, r1, l, bs, e, hq, q⟩ => ?_) hs
  subst e
  obtain rfl : v = Value.ref l := r1
  obtain ⟨its, rv, ⟨o, n, ho, hc, hd, hda⟩, hl⟩ := I1.list hq
  have ei := vals_bls rv
  subst ei
  refine ⟨l, bs, rfl, he.hot I1, by rw [I1.ok.glob]; exact I1.mod.glob.keeps I1.bk, ?_, ⟨o, ho, hc, n, hda⟩, by simpa using hl, fun D h' tk vs hD hp hv k => ?_⟩
  · rw [I1.ok.blt]
    obtain ⟨mb', h1', h2'⟩ := I1.mod.blt
    exact h1.keeps I1.bk
  · obtain ⟨n', hp⟩ := hp
    exact ⟨.ref D, _, I1.laid (o := .lst ((bs.map b01).map V.int)) (t' := tk) k hD ⟨by simpa using hl, vs, n', hv, hp⟩, rfl, q D (I1.hok.fresh hD)⟩
def rHotSum (K : PySem.W.Frag) : List V → Hp → VK → Prop := fun xs H Q => ∃ (p : Addr) (bs : List Bool), xs = [.ref p] ∧ SqL K H p ((bs.map b01).map V.int) ∧ bs.length ≤ 1000 ∧ Q (.int (bs.map b01).sum) H
theorem call_hotSum (he : HotE X a oe C) : CallR X (.builtin "sum") (rHotSum X.K) := by
  intro pins s σ H xs us Q I r h
  obtain ⟨p, bs, rfl, hq, hl, q⟩ := h
  obtain ⟨u, rfl, ru⟩ := Vals.one r
  obtain rfl : u = Value.ref p := ru
  obtain ⟨its, rv, ⟨o, n, ho, hc, hd, hda⟩, hl'⟩ := I.list hq
  exact hot_sum he.hh (he.hot I) ⟨o, ho, hc, n, hda⟩ rv hl fun h' tk t' k => ⟨.int _, H, I.kept k, ⟨t', rfl⟩, q⟩
/-- a def called there, its promise told of this very exception -/
theorem run_hot {x : Str} {st : Stmt} {f : Addr} {fd : FuncData} {N ps : List Str} {k : Nat} {pins : List (Addr × Obj)} {σ : St} {H : Hp} {s : Shared} {us : List Value} {vs : List V} {Q : VK} (F : Fun X.K x x st f fd) (S : FnScope N ps (defScope st)) (hb : Binds X.K fd ps []) (he : HotE X a oe C) (hr : L2H.RoomH (k + 1) X.A)
    (I : Inv X pins σ H s) (r : Vals vs us) (hl : vs.length = ps.length)
    (hbody : ∀ (cdv : Value), L2H.RoomH k (X.A.deeper (envOfC x (defScope st) s.heap.objs.size f cdv)) → ∃ t, PSs (L2H.cxH CX0 X.prog X.w X.K X.mg X.base N x (defScope st) f cdv X.A X.stack s H E0 (a, oe)) (defBody st) t ∧ t { nx := fun _ H' => Q .non H', rt := Q } (L2.start N vs) H) :
    wpAny (model X.prog X.w) X.A (call (.ref f) us) (EP X pins σ Q) X.xe s := by
  obtain ⟨oc, od, kV, doc, pm, an, cdv, ct, osl, rfl, lk, hcd⟩ := F.ex
  have hlu : us.length = ps.length := by rw [← r.length]; exact hl
  have hbs := hb s us I.kIn (by rw [List.append_nil]; exact hlu)
  rw [List.append_nil] at hbs
  have P1 := I.pin (a, oe) (List.mem_append_left _ he.pin)
  have hpin : L2H.PinOk X.stack H s (a, oe) := ⟨P1.1, P1.2.1, fun hm => (List.mem_cons.mp (I.stkSub a hm)).elim P1.2.2.1 P1.2.2.2.1, P1.2.2.2.2⟩
  have hot : L2H.Hot1 X.A (a, oe) := by
    obtain ⟨vs, e⟩ := he.fl
    exact ⟨he.hh, vs, e, he.z.2.2 vs e⟩
  have KX : X.K.In s.heap := I.kIn
  have hkind : ∀ y ∈ ps.zip us, (defScope st).names.lookup y.1 = some .local ∨ ((defScope st).names.lookup y.1 = some .cell ∧ ((cellsFrom (s.heap.objs.size + 1) (defScope st).names []).lookup y.1).isSome = true) := fun y hy => by
    rcases S.par y.1 (List.of_mem_zip (a := y.1) (b := y.2) hy).1 with q | q
    · exact .inl q
    · exact .inr ⟨q, PySem.W.cellsFrom_some _ _ _ (.inl q)⟩
  have rc : codeAny (model X.prog X.w) X.A (.call (.ref f) ⟨us, []⟩) (CR CX0 X.stack X.prog X.w H s Q E0) s := by
    refine codeAny_call_function hr.depth (KX _ _ lk) rfl S.co S.gen rfl (PySem.W.codeRec_of KX hcd) (hbs _ _ _ _ ?_)
    refine wpAny_newFunctionEnv_cells S.kind hkind fun env hen s1 x1 => ?_
    subst hen
    refine ⟨I.nolimit.keeps x1.toInCall.keep, codeAny_func ?_⟩
    obtain ⟨t, ht, hq⟩ := hbody cdv (hr.deeper _)
    refine wpAny_mono (ht.run [] s1 (L2.start N vs) H _ (L2H.inv_startH S hpin I.env0 hl r x1) hq) (fun fl s' hs => ?_) fun e s' hs => hs
    have fin : ∀ {σ' : St} {H' : Hp} {v : V} {u : Value}, Inv (L2H.cxH CX0 X.prog X.w X.K X.mg X.base N x (defScope st) f cdv X.A X.stack s H E0 (a, oe)) [] σ' H' s' → RelV v u → Q v H' → CE X.stack X.prog X.w H s Q u s' :=
      fun {σ' H' v u} J rv q => ⟨v, H', J.os, J.bare, J.base, J.hok, rv, q⟩
    cases fl with
    | ret u =>
      obtain ⟨v, σ', H', J, rv, q⟩ := hs
      exact fin J rv q
    | next =>
      obtain ⟨σ', H', J, q⟩ := hs
      exact fin (v := V.non) (u := Value.none) J rfl q
    | brk =>
      obtain ⟨_, _, _, q⟩ := hs
      exact False.elim q
    | cont =>
      obtain ⟨_, _, _, q⟩ := hs
      exact False.elim q
  refine wpAny_call (codeAny_mono rc fun r s' hq => ?_)
  cases r with
  | error e => exact (show False from hq).elim
  | ok fl =>
    cases fl with
    | ret u => exact I.after hq
    | next => exact False.elim hq
    | brk => exact False.elim hq
    | cont => exact False.elim hq
end
end Dy

/-! # A lambda made, handed to a def that calls it and catches. -/
namespace Dy
variable [Tn]
open PySem PySem.Spec PyProof.Rows L2
section
variable {X : Cx} {pins : List (Addr × Obj)} {σ : St} {H : Hp} {s : Shared}
theorem sameT_tab {H : Hp} {P c : Addr} {ps more : Array Value} {o : HO} (hP : H P = some (.tbl ps)) (nC : H c = none) : SameT H (upd (upd H P (.tbl (ps ++ more))) c o) := fun b u e => by
  by_cases hb : b = P
  · subst hb
    rw [hP] at e
    cases e
    exact .inr ⟨⟨ps, rfl⟩, ps ++ more, by rw [upd_ne (ne_of_none hP nC), upd_same]⟩
  · exact .inl (by rw [upd_ne (ne_of_none e nC), upd_ne hb]; exact e)
theorem allT_tab {H : Hp} {P c : Addr} {q : Str} {ps : Array Value} {pos : Pos} (hm : (P, q) ∈ Tn.ns) (hu : ∀ p ∈ Tn.ns, p.1 = P → p.2 = q) (hT : AllT H) (hP : H P = some (.tbl ps)) (nC : H c = none) :
    AllT (upd (upd H P (.tbl (ps ++ #[rawInt pos.line, rawInt pos.col, .ref c]))) c (LamX.CodeO c q)) := by
  have eL : (ps ++ #[rawInt pos.line, rawInt pos.col, .ref c]).toList = ps.toList ++ [rawInt pos.line, rawInt pos.col, .ref c] := by simp
  have sT : ∀ b o, H b = some o → (∀ x, o ≠ .tbl x) → upd (upd H P (.tbl (ps ++ #[rawInt pos.line, rawInt pos.col, .ref c]))) c (LamX.CodeO c q) b = some o := fun b o e n => (sameT_tab hP nC).ordi e n
  intro p hp
  by_cases hb : p.1 = P
  · have e2 := hu p hp hb
    obtain ⟨ps', a1, a2, a3⟩ := hT p hp
    rw [hb, hP] at a1
    cases a1
    rw [e2, hb]
    refine ⟨_, by rw [upd_ne (ne_of_none hP nC), upd_same], by rw [eL]; exact PySem.TriplesOk_snoc _ _ _ _ a2, fun p' cv hcv => ?_⟩
    rw [eL] at hcv
    rcases LamX.among_app _ a2 hcv with z | z
    · obtain ⟨c0, e1, e3⟩ := a3 p' cv z
      rw [e2] at e3
      exact ⟨c0, e1, sT _ _ e3 LamX.codeO_ne⟩
    · exact ⟨c, z, upd_same⟩
  · obtain ⟨ps', a1, a2, a3⟩ := hT p hp
    refine ⟨ps', by rw [upd_ne (ne_of_none a1 nC), upd_ne hb]; exact a1, a2, fun p' cv hcv => ?_⟩
    obtain ⟨c0, e1, e2⟩ := a3 p' cv hcv
    exact ⟨c0, e1, sT _ _ e2 LamX.codeO_ne⟩
/-- a lambda is made -/
theorem lam_new {c P : Addr} {params : Arguments} {body : Expr} {scope : Scope} {pos : Pos} {E : Value → Shared → Prop} {Q : Value → Shared → Prop} (I : Inv X pins σ H s) (TB : LamX.TabB X.base X.mg c P) (hcode : X.env.code = .ref c)
    (hm : (P, X.env.qual ++ "<lambda>") ∈ Tn.ns) (hu : ∀ p ∈ Tn.ns, p.1 = P → p.2 = X.env.qual ++ "<lambda>") (hT : AllT H) (hdef : defaultsOf params X.env = ([], [])) (hfree : ∀ y ∈ scope.names, y.2 = .free → ∃ c, X.env.cells.lookup y.1 = some c)
    (h : ∀ (f c' : Addr) (pm ctv : Value) (H1 : Hp) (s' : Shared), Inv X pins σ H1 s' → SameT H H1 → AllT H1 →
      s'.heap.get? f = some (PySem.W.kla_obj "<lambda>" (X.env.qual ++ "<lambda>") params body scope (cloFrom X.env.cells scope.names []) pm c' ctv) → H1 f = none → f ∉ frs X.stack → H1 c' = some (LamX.CodeO c' (X.env.qual ++ "<lambda>")) → Q (.ref f) s') :
    wpAny (model X.prog X.w) X.A (eval (.Lambda params body scope pos) X.env) Q E s := by
  have hTm := hT _ hm
  obtain ⟨ps, hP, ht, ha⟩ := hTm
  have bP : s.heap.BuiltinsAt X.mg P := TB.bm.keeps I.bk
  have oP : s.heap.get? P = some { cls := .none, data := .fields ps } := I.hok P _ hP
  have gN : s.heap.Ns mainGlobals X.mg := I.mod.glob.keeps I.bk
  have nofr : ∀ f, s.heap.objs.size ≤ f → f ∉ frs X.stack := fun f hf z => by
    rcases List.mem_cons.mp (I.stkSub _ z) with e | e
    · have h1 := I.lt
      rw [← e] at h1
      exact absurd (Nat.lt_of_lt_of_le h1 hf) (Nat.lt_irrefl _)
    · exact I.nofs hf e
  refine PySem.W.kla_eval hdef ?_
  cases hc : codeAmong pos ps.toList with
  | some cv =>
    obtain ⟨c', e, hco⟩ := ha pos cv hc
    subst e
    exact PySem.W.kla_makeFunctionHit (mg := X.mg) (c := c) (P := P) (ps := ps) (closure_ok hfree) I.ok.glob gN hcode (TB.code.keeps I.bk) oP ht hc bP fun ctv h' tk hx hsz =>
      h h'.objs.size c' ((X.mg "__name__").getD .none) ctv H _ (I.kept fun b o e => Heap.get?_push_of_some _ (hx b o e)) (Same.t (Same.refl H)) hT (Heap.get?_push_size _ rfl) (I.hok.fresh hsz) (nofr _ hsz) hco
  | none =>
    refine PySem.W.kla_makeFunction (mg := X.mg) (c := c) (P := P) (ps := ps) (closure_ok hfree) I.ok.glob gN hcode (TB.code.keeps I.bk) oP ht hc TB.gP bP fun c' ctv h' tk hx hge hlt hrec htb => ?_
    obtain ⟨c2, oc, vs, t, e2, hoc, hd, hv⟩ := hrec
    cases e2
    have hsz : s.heap.objs.size ≤ h'.objs.size := by omega
    have nC : H c' = none := I.hok.fresh hge
    refine h h'.objs.size c' ((X.mg "__name__").getD .none) ctv _ _ (LamX.inv_table (t' := tk) (more := #[rawInt pos.line, rawInt pos.col, .ref c']) (h' := h'.push _) I hP (fun b o hb e => Heap.get?_push_of_some _ (hx b o hb e)) (Heap.get?_push_of_some _ htb) hge ⟨oc, vs, t, Heap.get?_push_of_some _ hoc, hd, hv⟩)
      (sameT_tab hP nC) (allT_tab hm hu hT hP nC) (Heap.get?_push_size _ rfl) ?_ (nofr _ hsz) upd_same
    have n1 : h'.objs.size ≠ c' := by omega
    have n2 : h'.objs.size ≠ P := Nat.ne_of_gt (Nat.lt_of_lt_of_le (Heap.lt_size oP) hsz)
    rw [upd_ne n1, upd_ne n2]
    exact I.hok.fresh hsz
end
/-- the context of a lambda's body, its exceptions bare of a context -/
abbrev lamN (X : Cx) (A : Around) (outer : List Env) (s : Shared) (H : Hp) (E : XK) (scope : Scope) (f c' : Addr) : Cx :=
  (LamX.lamCx X A outer s H E scope f c').tr [] (fun e s' => wpAny (model X.prog X.w) (A.deeper (LamX.lamEnv X scope s.heap.objs.size f c')) (leaving (LamX.lamEnv X scope s.heap.objs.size f c') e) (fun _ s'' => L2N.CX X.prog X.w outer H s E e s'') (fun e' s'' => L2N.CX X.prog X.w outer H s E e' s'') s')
theorem passLam {X : Cx} {A : Around} {outer : List Env} {s : Shared} {H : Hp} {E : XK} {scope : Scope} {f c' : Addr} : Passes (L2N.CX X.prog X.w) (lamN X A outer s H E scope f c') E :=
  L2N.passes_call (X := lamN X A outer s H E scope f c') (L2N.takes_of (X := lamN X A outer s H E scope f c') rfl rfl rfl rfl) fun _ _ _ _ h => h
section
variable {X : Cx} {pins : List (Addr × Obj)} {σ : St} {H : Hp} {s : Shared}
/-- x(), x the lambda, in the def that got it -/
theorem pe_actN {CXg : CXT} {Eg : XK} {Ng : List Str} {qg : Str} {sg : Scope} {g f c' : Addr} {cdg pm ctv : Value} {params : Arguments} {body : Expr} {scope : Scope} {k i : Nat} {a : Str} {pn : List (Addr × Obj)} {xe : Value → Shared → Prop} {W : WX} {E : XK} {tb : TE} {p1 p2 : Pos}
    (I : Inv X pins σ H s) (L : LamX.LamS X.env.scope scope) (hf : s.heap.get? f = some (PySem.W.kla_obj "<lambda>" (X.env.qual ++ "<lambda>") params body scope (cloFrom X.env.cells scope.names []) pm c' ctv)) (hfn : H f = none) (hfr : f ∉ frs X.stack)
    (hbind : bindArgs (PySem.W.kla_fn "<lambda>" (X.env.qual ++ "<lambda>") params body scope (cloFrom X.env.cells scope.names []) pm (.ref c') ctv) ⟨[], []⟩ = pure [])
    (tk : L2N.Takes ((cxOf CXg X.prog X.w X.K X.mg X.base Ng qg sg g cdg X.A X.stack s H Eg).tr pn xe) W) (hW : ∀ cls d σ' H', E cls d H' → W cls d σ' H') (hr : Room (k + 1) (X.A.deeper (envOfC qg sg s.heap.objs.size g cdg)))
    (hbody : ∀ (A : Around) (outer : List Env) (s : Shared) (H : Hp), Room k (A.deeper (LamX.lamEnv X scope s.heap.objs.size f c')) → PE (lamN X A outer s H E scope f c') body tb)
    (hN : Ng[i]? = some a) (hv : Vis sg a) (hd : (a == ("__debug__" : Str)) = false) (hcd : (a == ("__classdict__" : Str)) = false) :
    PE ((cxOf CXg X.prog X.w X.K X.mg X.base Ng qg sg g cdg X.A X.stack s H Eg).tr pn xe) (.Call (.Name a p1) [] [] p2)
      (fun σZ HZ Q => σZ[i]? = some (some (.ref f)) ∧ HZ c' = some (LamX.CodeO c' (X.env.qual ++ "<lambda>")) ∧ tb σ HZ Q) := by
  refine ⟨fun pinsZ sZ σZ HZ Q IZ ⟨hs, hc, ht⟩ => ?_⟩
  refine wpAny_Call_Name_kw (thn ((pe_var (pos := p1) (i := i) hN hv hd hcd).run pinsZ sZ σZ HZ (fun v H1 => v = .ref f ∧ H1 = HZ) IZ ⟨.ref f, hs, rfl, rfl⟩) fun u s1 ⟨v, H1, I1, r1, ev, eH⟩ => ?_)
  subst ev
  rw [eH] at I1
  obtain rfl : u = Value.ref f := r1
  have of1 := I1.base.keep f _ hf hfn hfr (fun z => nomatch (show f ∈ ([] : List Addr) from z))
  have un : Un (frs X.stack) [] H HZ s.heap s1.heap := I1.base
  obtain ⟨⟨oc, vs, t, hoc, hdc, hvc⟩, _, _⟩ := I1.hok c' _ hc
  have rc : codeAny (model X.prog X.w) (X.A.deeper (envOfC qg sg s.heap.objs.size g cdg)) (.call (.ref f) ⟨[], []⟩) (CR (L2N.CX X.prog X.w) (envOfC qg sg s.heap.objs.size g cdg :: X.stack) X.prog X.w HZ s1 Q E) s1 := by
    refine PySem.W.kla_callFunE hr.depth of1 rfl L.co L.gen rfl ⟨c', oc, vs, t, rfl, hoc, hdc, hvc⟩ ?_
    rw [hbind]
    refine wpAny_pure (wpAny_newFunctionEnv (fun y hy => (L.own y hy).2) (fun y hy => absurd hy (by simp)) (fun h₁ hns hsb => ⟨I1.nolimit.fresh _ hsb, ?_⟩) L.kind)
    have kp : ∀ b o, s1.heap.get? b = some o → h₁.get? b = some o := fun b o e => hsb.extBut b o (Nat.ne_of_lt (Heap.lt_size e)) (Heap.get?_push_of_some _ e)
    have J := LamX.lam_start2 (tk := s1.toks + ([] : List (Str × Value)).length) (E := E) (f := f) (c' := c') I L I1.env0 hr.hd un hns kp
    refine PySem.W.kla_codeExpr (wpAny_mono ((hbody _ _ s1 HZ (hr.deeper _)).run [] _ _ HZ Q (J.toTry _) ht) (fun v s' hq => ?_) fun e s' hq => hq)
    obtain ⟨w', H', J', rv, q⟩ := hq
    exact ⟨w', H', J'.os, J'.bare, J'.base, J'.hok, rv, q⟩
  refine PySem.W.callWith_F0 ⟨_, _, _, _, of1⟩ (wpAny_call (codeAny_mono rc fun r s' hq => ?_))
  cases r with
  | error e => exact L2N.passes_call tk hW pinsZ σZ HZ s1 e s' I1 hq
  | ok fl =>
    cases fl with
    | ret u => exact I1.after hq
    | next => exact False.elim hq
    | brk => exact False.elim hq
    | cont => exact False.elim hq
end
end Dy

/-! # told(lambda: ..): the deed's answer, or the word for what it raised. -/
namespace Dy
variable [Tn]
open PySem PySem.Spec PyProof.Rows L2
/-! ### expressions that may raise -/
abbrev DX := List Sl → (D → Prop) → (Addr → Prop) → Prop
def tX (K : PySem.W.Frag) (E : XK) (f : DX) : TE := fun σ H Q => ∃ (F0 B F : Hp) (ρ : List Sl) (P : D → Prop) (Z : Addr → Prop), StR K F0 B F ρ σ H ∧ f ρ P Z ∧ Fin K F H P Q ∧ ∀ c, Z c → ∀ F' H', Ext F H F' H' → E (.ref c) none H'
abbrev XD (X : Cx) (E : XK) (e : Expr) (f : DX) : Prop := PE X e (tX X.K E f)
@[simp] def dXCall (φ : Spc) (k : DA) : DX := fun ρ P Z => k ρ fun ds => φ ds P Z
section
variable {X : Cx}
theorem xd_call {x : Str} {p pos : Pos} {e : Expr} {es : List Expr} {k : DA} {φ : Spc} {j n : Nat} {CX : CXT} {E : XK} (G : DefD X.prog X.w X.K X.mg X.base CX x j φ) (hr : Room n X.A) (hx : Passes CX X E) (ha : AD X (e :: es) k) (hjn : j ≤ n := by decide) (hg : Gl X x := by rfl) (hdb : (x == ("__debug__" : Str)) = false := by decide)
    (he : starEach (e :: es) X.env = (false, eval e X.env) :: starEach es X.env := by rfl) (hpl : (backTo pos (starEach es X.env)).any (·.1) = false := by rfl) : XD X E (.Call (.Name x p) (e :: es) [] pos) (dXCall φ k) := by
  obtain ⟨f, fd, ps, F, hm, hk, hb⟩ := G.ex
  refine peImp (pe_call F (hr.mono hjn) hg hm hk hb .nil hx ha hdb he hpl) fun σ H Q ⟨F0, B, F, ρ, P, Z, S, q, fin, finx⟩ => ?_
  exact ⟨F0, B, F, ρ, _, S, q, fun ds hd vs F1 H1 E1 r1 => ⟨F1, ds, P, Z, E1.fh, E1.nt, by rw [List.append_nil]; exact r1, hd, fin.later E1, fun c z F2 H2 E2 => finx c z F2 H2 (E1.trans E2)⟩⟩
end
/-! ### defs whose exceptions bear no context -/
section
variable {P : Program} {w : World} {K : PySem.W.Frag} {mg : Str → Option Value} {base : Heap}
theorem fnN {x : Str} {st : Stmt} {f : Addr} {fd : FuncData} {N ps : List Str} {k : Nat} {φ : Spc} (F : Fun K x x st f fd) (S : FnScope N ps (defScope st)) (gm : mg x = some (.ref f)) (hb : Binds K fd ps []) (len : ∀ ds P Z, φ ds P Z → ds.length = ps.length)
    (body : ∀ (cdv : Value) (A : Around) (outer : List Env) (s : Shared) (H : Hp) (E : XK), Room k (A.deeper (envOfC x (defScope st) s.heap.objs.size f cdv)) →
      ∃ g : DS, SsD (cxOf (L2N.CX P w) P w K mg base N x (defScope st) f cdv A outer s H E) E (defBody st) g ∧ ∀ ds Q Z, φ ds Q Z → g { nx := fun _ => Q .non, rt := Q, xx := Z } (startS N ds)) : DefD P w K mg base (L2N.CX P w) x (k + 1) φ := by
  obtain ⟨oc, od, kV, doc, pm, an, cdv, ct, osl, rfl, lk, hcd⟩ := F.ex
  refine ⟨f, _, ps, fn_of lk hcd S (fun vs H Q E ⟨F', ds, P', Z, s, n, r, h, _⟩ => by rw [← r.length]; exact len ds P' Z h) (fun A outer s H vs Q E hr ⟨F', ds, P', Z, sm, n, r, h, fin, finx⟩ => ?_), gm, F.kp, hb⟩
  obtain ⟨g, hg, q⟩ := body cdv A outer s H E hr
  exact ⟨_, hg, F', H, F', _, _, stR_start N sm n r, q ds P' Z h, ⟨fun ρ' F2 σ' H' p _ S' => fin .non p .non F2 H' S'.ext .non, fun _ _ _ _ z => z.elim, fun _ _ _ _ z => z.elim, fun _ d v F2 _ H' p S' r' => fin d p v F2 H' S'.ext r', fun c F2 H' p E' => finx c p F2 H' E'⟩⟩
theorem passN {P : Program} {w : World} {K : PySem.W.Frag} {mg : Str → Option Value} {base : Heap} {N : List Str} {qual : Str} {sc : Scope} {f : Addr} {cd : Value} {A : Around} {outer : List Env} {s : Shared} {H : Hp} {E : XK} :
    Passes (L2N.CX P w) (cxOf (L2N.CX P w) P w K mg base N qual sc f cd A outer s H E) E := L2N.passes_call (L2N.takes_of rfl rfl rfl rfl) fun _ _ _ _ h => h
end
section
variable {X : Cx} {E : XK} {pos : Pos}
theorem sd_raiseN {C : Addr} {bmB : List Value} {B newId initId : String} {x m : Str} {j : Nat} {p p2 pos2 : Pos} (hc : X.calm = true) (tk : L2N.Takes X (fun cls d _ H => E cls d H)) (F : PySem.ExcBaseFacts B newId initId bmB) (q : PySem.W.excIn X.K C bmB newId = true) (gC : X.mg x = some (.ref C)) (kC : PySem.W.keepIn X.K (.ref C) = true) (r : Raises X (.ref C)) (hg : Gl X x := by rfl)
    (hdb : (x == ("__debug__" : Str)) = false := by decide) : SD X E (.Raise (some (.Call (.Name x p) [.Constant (.str m) j p2] [] pos)) none pos2) (dRaise C) :=
  psImp (L2N.ps_raise hc tk (L2N.pmk_own F q gC kC r hg hdb)) fun T σ H ⟨F0, B, F, ρ, G, S, q, k⟩ => k.xx C F H q S.ext
end
/-! ### told -/
theorem ext_tab {F H H1 : Hp} (s : Same F H) (n : NT F H) (t : SameT H H1) (a : AllT H1) : Ext F H F H1 :=
  ⟨Same.refl F, fun b o e => t.ordi (s b o e) fun ps z => n.1 b ps (by rw [e, z]), t, fun _ _ h _ _ => h, ⟨n.1, a⟩⟩
/-- a heap with new objects of its own -/
def More (H H' : Hp) : Prop := ∀ F, Same F H → NT F H → Ext F H F H'
theorem More.refl (H : Hp) : More H H := fun _ s n => Ext.refl s n
theorem More.trans {H H1 H2 : Hp} (a : More H H1) (b : More H1 H2) : More H H2 := fun F s n => (a F s n).trans (b F (a F s n).fh (a F s n).nt)
theorem More.alloc {H : Hp} {p : Addr} {o : HO} (hp : H p = none) (ho : Ordi o) : More H (upd H p o) := fun _ s n => (Ext.refl s n).allocH hp ho
theorem takesN0 {X : Cx} : L2N.Takes X (fun _ _ _ _ => False) := fun _ _ x => by
  obtain ⟨_, _, _, _, _, _, _, _, _, _, _, _, _, _, _, _, z⟩ := x
  exact z.elim
@[simp] def dTold (wd : Addr → Str → Prop) (f : DX) : DE := fun ρ P => f ρ P fun C => ∃ w, wd C w ∧ P (.str w)
abbrev NTold (a n : Str) : List Str := [a, n]
section
variable {X : Cx}
theorem ed_told {x a n er wn : Str} {st : Stmt} {g c P CW : Addr} {fdg : FuncData} {k : Nat} {params : Arguments} {body : Expr} {scope : Scope} {f : DX} {wd : Addr → Str → Prop} {p lpos pos p1 p2 p3 p4 p5 p6 p7 p8 p9 p10 : Pos}
    (Fg : Fun X.K x x st g fdg) (hb : Binds X.K fdg [a] []) (Sg : FnScope (NTold a n) [a] (defScope st))
    (hst : defBody st = [.Try [.Return (some (.Call (.Name a p1) [] [] p2)) p3] [.ExceptHandler (some (.Name er p4)) (some n) [.Return (some (.Call (.Name wn p5) [.Name n p6] [] p7)) p8] p9] [] [] p10])
    (hln : (defScope st).names.lookup n = some .local) (hla : (defScope st).names.lookup a = some .local) (hge : (defScope st).names.lookup er = some .globalImplicit) (hme : X.mg er = some (.ref CW)) (hdm : (er == ("__debug__" : Str)) = false)
    (hwm : ∀ C w, wd C w → PySem.W.exmOne X.K (.ref C) (.ref CW) = some true)
    (hword : ∀ (Z : Cx) (a1 C : Addr) (w : Str) (oe : Obj), Z.K = X.K → Z.mg = X.mg → Z.N = NTold a n → Z.env.scope = defScope st → wd C w → HotE Z a1 oe C → L2H.RoomH k Z.A → PE Z (.Call (.Name wn p5) [.Name n p6] [] p7) (fun σ H Q => σ[1]? = some (some (.ref a1)) ∧ ∀ H', More H H' → Q (.str w) H'))
    (hg : Gl X x) (hm : X.mg x = some (.ref g)) (TB : LamX.TabB X.base X.mg c P) (hcode : X.env.code = .ref c) (hmT : (P, X.env.qual ++ "<lambda>") ∈ Tn.ns) (hu : ∀ p ∈ Tn.ns, p.1 = P → p.2 = X.env.qual ++ "<lambda>") (hr : Room (k + 2) X.A) (L : LamX.LamS X.env.scope scope)
    (hbody : ∀ (A : Around) (outer : List Env) (s : Shared) (H : Hp) (E : XK) (f1 c' : Addr), Room k (A.deeper (LamX.lamEnv X scope s.heap.objs.size f1 c')) → XD (lamN X A outer s H E scope f1 c') E body f)
    (hdef : defaultsOf params X.env = ([], []) := by rfl) (hbind : ∀ (q : Str) (cl : List (Str × Addr)) (pm cv ctv : Value), bindArgs (PySem.W.kla_fn "<lambda>" q params body scope cl pm cv ctv) ⟨[], []⟩ = pure [] := by intro _ _ _ _ _; rfl)
    (hdb : (x == ("__debug__" : Str)) = false := by decide) (hd : (a == ("__debug__" : Str)) = false := by decide) (hcd : (a == ("__classdict__" : Str)) = false := by decide) :
    ED X (.Call (.Name x p) [.Lambda params body scope lpos] [] pos) (dTold wd f) := by
  refine ⟨fun pins s σ H Q I h => ?_⟩
  obtain ⟨F0, B, F, ρ, P0, S, h, fin⟩ := h
  refine wpAny_Call_Name_kw (ld_glob I hg hm ?_ hdb)
  refine PySem.W.callWith_K (h₀ := X.base) I.ok.mod.kin Fg.kp ?_ (by rfl) (by rfl)
  show wpAny _ _ (spliced ((false, eval (.Lambda params body scope lpos) X.env) :: backTo pos (starEach [] X.env))) _ _ s
  refine Calls.spliced_cons (lam_new I TB hcode hmT hu S.nt.2 hdef (L.has I.ok) fun f1 c' pm' ctv H1 s' I1 sT aT hf hfn hfr hco => ?_)
  refine Calls.spliced_nil ⟨I1.kIn, ?_⟩
  have E1 := ext_tab S.fh S.nt sT aT
  obtain ⟨oc, od, kV, doc, pm, an, cdv, ct, osl, rfl, lk, hcg⟩ := Fg.ex
  have rc : codeAny (model X.prog X.w) X.A (.call (.ref g) ⟨[.ref f1], []⟩) (CR CX0 X.stack X.prog X.w H1 s' Q E0) s' := by
    refine LamX.run_ofS (k := k + 1) (N := NTold a n) (ps := [a]) (us := [.ref f1]) (vs := [.ref f1]) lk hcg Sg hr I1.env0 (hb s' [.ref f1] I1.kIn rfl) (.cons rfl .nil) rfl fun hr' => ?_
    rw [hst]
    have hge' : Gl (cxOf CX0 X.prog X.w X.K X.mg X.base (NTold a n) x (defScope st) g cdv X.A X.stack s' H1 E0).nox er := hge
    refine ⟨_, PSs.nox (pss_one (L2N.ps_try_as (X := (cxOf CX0 X.prog X.w X.K X.mg X.base (NTold a n) x (defScope st) g cdv X.A X.stack s' H1 E0).nox) (c := .ref CW) (i := 1)
      (tb := fun W D σ2 H2 => ∃ Ech : XK, (∀ cls d σ' H', Ech cls d H' → W cls d σ' H') ∧ σ2[0]? = some (some (.ref f1)) ∧ H2 c' = some (LamX.CodeO c' (X.env.qual ++ "<lambda>")) ∧ tX X.K Ech f σ H2 D.rt)
      (ts := fun a1 cls d D σ2 H2 => ∃ C w, cls = .ref C ∧ d = none ∧ wd C w ∧ (∃ σ' : St, σ2 = σ'.set 1 (some (.ref a1))) ∧ ∀ H', More H2 H' → D.rt (.str w) H')
      rfl rfl Sg.nd rfl hln ⟨hge', hdm, .inl hme⟩ takesN0 (fun W pn xe tk _ => ⟨fun pins2 s2 σ2 H2 D I2 h2 => ?_⟩) (fun a1 oe cls d pn hz hfl => ⟨fun pins2 s2 σ2 H2 D I2 h2 => ?_⟩))), ?_⟩
    · obtain ⟨Ech, hW, h1, h2, h3⟩ := h2
      have hp := pe_actN (CXg := CX0) (Eg := E0) (i := 0) (tb := tX X.K Ech f) I1 L hf hfn hfr (hbind _ _ _ _ _) tk hW hr' (fun A outer s H hr2 => hbody A outer s H Ech f1 c' hr2) (p1 := p1) (p2 := p2) (Ng := NTold a n) (a := a) rfl (.inl hla) hd hcd
      exact (pss_one (ps_ret (pos := p3) hp)).run pins2 s2 σ2 H2 D I2 ⟨h1, h2, h3⟩
    · obtain ⟨C, w, rfl, rfl, hw, ⟨σ', h1⟩, h2⟩ := h2
      have hl2 : σ2.length = 2 := I2.len
      have h1 : σ2[1]? = some (some (.ref a1)) := by
        rw [h1, List.length_set] at hl2
        rw [h1, List.getElem?_set_self (by omega)]
      have hp := hword ((cxOf CX0 X.prog X.w X.K X.mg X.base (NTold a n) x (defScope st) g cdv X.A X.stack s' H1 E0).nox.suite a1 ((a1, oe) :: pn)) a1 C w oe rfl rfl rfl rfl hw ⟨rfl, List.mem_cons_self, hz, hfl⟩ ⟨((L2H.roomH_of hr').mono (Nat.le_succ k)).dp, ((L2H.roomH_of hr').mono (Nat.le_succ k)).un⟩
      exact (pss_one (ps_ret (pos := p8) hp)).run pins2 s2 σ2 H2 D I2 ⟨h1, h2⟩
    · refine ⟨fun cls d H' => ∃ C w, cls = .ref C ∧ d = none ∧ wd C w ∧ ∀ H'', More H' H'' → Q (.str w) H'', fun cls d σ' H' ⟨C, w, e1, e2, hw, q⟩ => ?_, rfl, hco, F0, B, F, ρ, P0, _, S.step E1, h, fin.later E1, fun C ⟨w, hw, p⟩ F2 H2 E2 => ⟨C, w, rfl, rfl, hw, fun H3 m => fin _ p (.str w) F2 H3 ((E1.trans E2).trans (m F2 E2.fh E2.nt)) (.str w)⟩⟩
      subst e1 e2
      exact ⟨true, hwm C w hw, fun _ a1 na => ⟨C, w, rfl, rfl, hw, ⟨σ', rfl⟩, q⟩, fun z => nomatch z⟩
  refine wpAny_call (codeAny_mono rc fun r s2 hq => ?_)
  cases r with
  | error e => exact (show False from hq).elim
  | ok fl =>
    cases fl with
    | ret u => exact I1.after hq
    | next => exact False.elim hq
    | brk => exact False.elim hq
    | cont => exact False.elim hq
end
end Dy

/-! # The data layer: lists of lists of one's own; list(x); calls that raise nothing. -/
namespace Dy
variable [Tn]
open PySem PySem.Spec PyProof.Rows L2
theorem passE {X : Cx} : Passes (L2N.CX X.prog X.w) X E0 := fun _ _ _ _ _ _ _ h => by
  obtain ⟨_, _, _, _, _, _, _, _, _, _, _, _, z⟩ := h
  exact z.elim
theorem paired_snoc {α β : Type} {R : α → β → Prop} : ∀ {l : List α} {m : List β} {a : α} {b : β}, Paired R l m → R a b → Paired R (l ++ [a]) (m ++ [b])
  | _, _, _, _, .nil, h => .cons h .nil
  | _, _, _, _, .cons h t, k => .cons h (paired_snoc t k)
theorem paired_len {α β : Type} {R : α → β → Prop} : ∀ {l : List α} {m : List β}, Paired R l m → l.length = m.length
  | _, _, .nil => rfl
  | _, _, .cons _ t => by simp [paired_len t]
theorem paired_at {α β : Type} {R : α → β → Prop} : ∀ {l : List α} {m : List β} {i : Nat} {a : α}, Paired R l m → l[i]? = some a → ∃ b, m[i]? = some b ∧ R a b
  | _, _, _, _, .nil, e => by simp at e
  | _, _, 0, _, .cons h _, e => by simp at e; subst e; exact ⟨_, rfl, h⟩
  | _, _, i + 1, _, .cons _ t, e => by
    obtain ⟨b, h1, h2⟩ := paired_at (i := i) t (by simpa using e)
    exact ⟨b, by simpa using h1, h2⟩
/-- list(x): a new one -/
@[simp] def dCopy (f : DE) : DA := fun ρ P => f ρ fun d => ∃ l, (d = .lst l ∨ d = .tup l) ∧ P l
/-- the turns of a comprehension of new lists -/
def lcRI (g : DG) (tt : DT) (te : DA) (ρ : List Sl) (items : List D) (P : List (List D) → Prop) : Prop :=
  ∃ I : List D → List (List D) → Prop, I items [] ∧ (∀ x xs acc, I (x :: xs) acc → g x ρ fun ρ2 => tt ρ2 fun b => if b = true then te ρ2 fun y => I xs (acc ++ [y]) else I xs acc) ∧ ∀ acc, I [] acc → P acc
section
variable {X : Cx} {E : XK} {pos : Pos} {e : Expr} {f : DE}
theorem ld_copy {p : Pos} (hm : X.mg "list" = none) (he : ED X e f) (hg : Gl X "list" := by rfl) (hs : starEach [e] X.env = (false, eval e X.env) :: starEach [] X.env := by rfl) (hpl : (backTo pos (starEach [] X.env)).any (·.1) = false := by rfl) :
    LD X (.Call (.Name "list" p) [e] [] pos) (dCopy f) :=
  peImp (pe_callTy call_list_of hg hm (by decide +kernel) (pa_cons he pa_nil hs) (by decide) (by decide) hs hpl) fun σ H Q ⟨F0, B, F, ρ, P, S, q, fin⟩ =>
    ⟨F0, B, F, ρ, _, S, q, fun d ⟨l, ed, hp⟩ v F1 H1 E1 r1 => by
      rcases ed with rfl | rfl
      · cases r1 with
        | @lst a xs _ h1 q1 => exact ⟨a, xs, rfl, .inl (SqL.of (E1.fh _ _ h1)), fun p hp' => fin l hp xs F1 _ p (E1.allocH hp' trivial) upd_same (E1.fh.free hp') (E1.bh.none hp') q1⟩
      · cases r1 with
        | @tup a xs _ h1 q1 => exact ⟨a, xs, rfl, .inr (Same.sqT E1.fh h1), fun p hp' => fin l hp xs F1 _ p (E1.allocH hp' trivial) upd_same (E1.fh.free hp') (E1.bh.none hp') q1⟩⟩
/-- y = [list(..) for ..], the lists one's own -/
@[simp] def dSetR (i : Nat) (it : DA) (g : DG) (tt : DT) (te : DA) (vs : List Nat) : DS := fun G ρ => it ρ fun items => items.length ≤ 1000000 ∧ lcRI g tt te (wipeS ρ vs) items fun ls => G.nx (ρ.set i (.own (.rows ls)))
theorem sd_setRc (i : Nat) {x : Str} {py : Pos} {elt tg iter : Expr} {ifs : List Expr} {scope : Scope} {own : List (Str × Nat)} {spos : Pos} {it : DA} {gg : DG} {tt : DT} {te : DA} (hc : X.calm = true) (hN : X.N.Nodup) (hyl : X.env.scope.names.lookup x = some .local)
    (hsw : swapsWith (.ListComp elt [⟨tg, iter, ifs, 0⟩] scope pos) (some (.Name x py)) spos.line X.env = pure true) (hi : ID X tg iter it) (ok : BlkOk X.N X.env.scope scope own)
    (hg : ∀ (s : Shared) (H : Hp) (C : Addr) (cl : List (Str × Addr)) (fp : List Addr), GD (X.blk s H scope (compEnvC scope cl C X.env) fp) tg (own.map (·.2)) gg)
    (ht : ∀ (s : Shared) (H : Hp) (C : Addr) (cl : List (Str × Addr)) (fp : List Addr), PTs (X.blk s H scope (compEnvC scope cl C X.env) fp) ifs (tT X.K tt))
    (he : ∀ (s : Shared) (H : Hp) (C : Addr) (cl : List (Str × Addr)) (fp : List Addr), LD (X.blk s H scope (compEnvC scope cl C X.env) fp) elt te) (hy : X.N[i]? = some x := by rfl) (hs : ∀ x, foldedSetIterable iter X.env x = pure x := by intro _; rfl) :
    SD X E (.Assign [.Name x py] (.ListComp elt [⟨tg, iter, ifs, 0⟩] scope pos) spos) (dSetR i it gg tt te (own.map (·.2))) :=
  psImp (ps_setLc (wi := tI X.K it) (g := tG X.K (own.map (·.2)) gg) (tt := tT X.K tt) (te := tLf X.K te) hc hN hy hyl hsw hi ok hg ht he hs) fun T σ H ⟨F0, B, F, ρ, G, S, q, k⟩ =>
    ⟨F0, B, F, ρ, _, S, q, fun items ⟨hl, I, q0, qs, qd⟩ F1 H1 E1 J ok Dd hD => by
      have S1 := S.step E1
      refine ⟨fun i m H => m = items.length - i ∧ i ≤ items.length ∧ ∃ (F' : Hp) (ls : List (List D)) (ps : List Addr), Ext F1 H1 F' H ∧ H Dd = some (.lst (ps.map V.ref)) ∧ F' Dd = none ∧ Paired (ListAt X.K F' H) ls ps ∧ (Dd :: ps).Nodup ∧ (∀ b ∈ ps, F' b = none ∧ H1 b = none) ∧ ls.length ≤ i ∧ I (items.drop i) ls,
        ⟨items.length, by simp, Nat.zero_le _, F1, [], [], S1.selfExt.allocH hD trivial, upd_same, S1.fh.free hD, .nil, by simp, (fun b hb => by cases hb), Nat.le_refl _, by simpa using q0⟩, ?_⟩
      rintro i m H ⟨rfl, hi, F', ls, ps, E, hx, hF, r, nd, nf, hls, w⟩
      by_cases hlt : i < items.length
      · refine .inr ⟨ok.go i H hlt (E.ff.trans E.fh), fun H2 => ∃ (F' : Hp) (ls : List (List D)) (ps : List Addr), Ext F1 H1 F' H2 ∧ H2 Dd = some (.lst (ps.map V.ref)) ∧ F' Dd = none ∧ Paired (ListAt X.K F' H2) ls ps ∧ (Dd :: ps).Nodup ∧ (∀ b ∈ ps, F' b = none ∧ H1 b = none) ∧ ls.length ≤ i + 1 ∧ I (items.drop (i + 1)) ls,
          fun H' h' => ⟨items.length - (i + 1), by omega, rfl, hlt, h'⟩, fun x H' hy => ?_⟩
        obtain ⟨d, hd, up⟩ := ok.yld i H x H' hlt (E.ff.trans E.fh) hy
        obtain ⟨F2, E2, r2⟩ := up F' E.ff E.fh E.nt
        have hdrop : items.drop i = d :: items.drop (i + 1) := by
          have h3 := List.drop_eq_getElem_cons hlt
          rw [List.getElem?_eq_getElem hlt] at hd
          cases hd
          exact h3
        rw [hdrop] at w
        have S2 : StR X.K F0 B F2 ρ σ H' := (S1.step E).step E2
        -- what stands stays through an evaluation
        have stay : ∀ {F3 H3 F4 H4 : Hp}, Ext F3 H3 F4 H4 → H3 Dd = some (.lst (ps.map V.ref)) → F3 Dd = none → Paired (ListAt X.K F3 H3) ls ps → (∀ b ∈ ps, F3 b = none ∧ H1 b = none) → H4 Dd = some (.lst (ps.map V.ref)) ∧ F4 Dd = none ∧ Paired (ListAt X.K F4 H4) ls ps ∧ ∀ b ∈ ps, F4 b = none ∧ H1 b = none := fun {F3 H3 F4 H4} EE h1 h2 h3 h4 => by
          refine ⟨EE.bh.ordi h1 (fun _ z => nomatch z), EE.fr _ _ h2 h1 (fun _ z => nomatch z), paired_imp h3 fun l q hq ⟨xs, e1, e2⟩ => ⟨xs, EE.bh.ordi e1 (fun _ z => nomatch z), e2.mono EE.ff⟩, fun b hb => ⟨?_, (h4 b hb).2⟩⟩
          obtain ⟨l, _, xs, e1, _⟩ := paired_mem h3 b hb
          exact EE.fr b _ (h4 b hb).1 e1 (fun _ z => nomatch z)
        obtain ⟨a1, a2, a3, a4⟩ := stay E2 hx hF r nf
        refine ⟨F0, B, F2, wipeS ρ _, d, _, S2.wipe _, r2, qs _ _ _ w, fun ρ2 q2 σ2 S3 on => ⟨on.wipe, F0, B, F2, ρ2, _, S3, q2, fun b hb F3 H3 E3 => ?_⟩⟩
        obtain ⟨b1, b2, b3, b4⟩ := stay E3 a1 a2 a3 a4
        cases b with
        | true =>
          refine iteT ⟨F0, B, F3, ρ2, _, S3.step E3, hb, fun y hy vs F4 H4 p E4 hp hpF hpH r4 => ?_⟩
          obtain ⟨c1, c2, c3, c4⟩ := stay E4 b1 b2 b3 b4
          have hpD : p ≠ Dd := fun z => by rw [z, b1] at hpH; cases hpH
          have hpps : p ∉ ps := fun z => by
            obtain ⟨l, _, xs, e1, _⟩ := paired_mem b3 p z
            rw [e1] at hpH
            cases hpH
          have EE := E.trans (E2.trans (E3.trans E4))
          have hp1 : H1 p = none := (E.trans (E2.trans E3)).bh.none hpH
          have ndD : Dd ∉ ps := (List.nodup_cons.mp nd).1
          refine ⟨ps.map V.ref, c1, smallM (by rw [List.length_map, ← paired_len c3]; omega), F4, ls ++ [y], ps ++ [p], EE.own c1 trivial trivial c2 hD, by rw [upd_same, List.map_append]; rfl, c2, paired_snoc (paired_imp c3 fun l q hq ⟨xs, e1, e2⟩ => ⟨xs, by rw [upd_ne (fun z : q = Dd => ndD (by rw [← z]; exact hq))]; exact e1, e2⟩) ⟨vs, by rw [upd_ne hpD]; exact hp, r4⟩, ?_, ?_, ?_, hy⟩
          · rw [List.nodup_cons, List.nodup_append]
            refine ⟨by simp [ndD, Ne.symm hpD], (List.nodup_cons.mp nd).2, by simp, fun a ha b hb z => ?_⟩
            rw [List.mem_singleton.mp hb] at z
            exact hpps (z ▸ ha)
          · intro b hb
            rcases List.mem_append.mp hb with z | z
            · exact c4 b z
            · rw [List.mem_singleton.mp z]
              exact ⟨hpF, hp1⟩
          · simp
            exact hls
        | false => exact iteF ⟨F3, ls, ps, E.trans (E2.trans E3), b1, b2, b3, nd, b4, by omega, hb⟩
      · have e : i = items.length := by omega
        subst e
        rw [List.drop_length] at w
        have EE := E1.trans E
        exact .inl ⟨ok.stop _ H rfl (E.ff.trans E.fh), k.nx _ F' _ H (qd ls w) EE.ff (S.setNew _ EE (show ORep X.K F' H (.rows ls) Dd (Dd :: ps) from ⟨ps, rfl, nd, hx, r⟩) fun b hb => by
          rcases List.mem_cons.mp hb with rfl | hb
          · exact ⟨hF, E1.bh.none hD⟩
          · exact ⟨(nf b hb).1, E1.bh.none (nf b hb).2⟩)⟩⟩
theorem StR.rowsAt {K : PySem.W.Frag} {F0 B F H : Hp} {ρ : List Sl} {σ : St} (S : StR K F0 B F ρ σ H) {i : Nat} {ls : List (List D)} (q : ρ[i]? = some (.own (.rows ls))) :
    ∃ a ps, σ[i]? = some (some (.ref a)) ∧ H a = some (.lst (ps.map V.ref)) ∧ Paired (ListAt K F H) ls ps ∧ ∀ (m : Nat) (l' : List D) (xs' : List V) (p : Addr) (l : List D), ls[m]? = some l → ps[m]? = some p → RepL K F l' xs' → StR K F0 B F (ρ.set i (.own (.rows (ls.set m l')))) σ (upd H p (.lst xs')) := by
  obtain ⟨a, fp, e, ⟨ps, rfl, nd, h1, r⟩, n, ch⟩ := S.change q
  refine ⟨a, ps, e, h1, r, fun m l' xs' p l hl hp r' => ?_⟩
  have hmem : p ∈ ps := List.mem_of_getElem? hp
  obtain ⟨l0, hl0, xs0, e0, _⟩ := paired_mem r p hmem
  have hap : a ≠ p := fun z => (List.nodup_cons.mp nd).1 (z ▸ hmem)
  refine ch _ _ (a :: ps) (S.ext.own e0 trivial trivial (n p (by simp [hmem])).1 (n p (by simp [hmem])).2) (fun b hb o eb => by rw [upd_ne (fun z => hb (by simp [z, hmem]))]; exact eb) ⟨ps, rfl, nd, by rw [upd_ne hap]; exact h1, ?_⟩ fun b hb => .inl hb
  have nd2 := (List.nodup_cons.mp nd).2
  clear ch n h1 hap e nd hmem hl e0 hl0 S q
  induction r generalizing m with
  | nil => simp at hp
  | @cons l1 p1 ls ps h t ih =>
    have nd3 := List.nodup_cons.mp nd2
    cases m with
    | zero =>
      have : p1 = p := by simpa using hp
      subst this
      exact .cons ⟨xs', upd_same, r'⟩ (paired_imp t fun l q hq ⟨xs, e1, e2⟩ => ⟨xs, by rw [upd_ne (fun z : q = p1 => nd3.1 (by rw [← z]; exact hq))]; exact e1, e2⟩)
    | succ m =>
      have hp' : ps[m]? = some p := by simpa using hp
      obtain ⟨xs, e1, e2⟩ := h
      exact .cons ⟨xs, by rw [upd_ne (fun z : p1 = p => nd3.1 (by rw [z]; exact List.mem_of_getElem? hp'))]; exact e1, e2⟩ (ih m hp' nd3.2)
/-- x[i][j] of one's own rows -/
@[simp] def dIxR (i : Nat) (f g : DE) : DE := fun ρ P => ∃ ls, ρ[i]? = some (.own (.rows ls)) ∧ f ρ fun j => ∃ z l, j = .int z ∧ atI ls z = some l ∧ g ρ fun j => ∃ z d, j = .int z ∧ atI l z = some d ∧ P d
theorem pat_atI {α β : Type} {R : α → β → Prop} {l : List α} {m : List β} {z : Int} {a : α} (p : Paired R l m) (h : L2.atI l z = some a) : ∃ j b, ixN l.length z = some j ∧ l[j]? = some a ∧ m[j]? = some b ∧ L2.atI m z = some b ∧ R a b := by
  unfold L2.atI at h ⊢
  rw [← paired_len p]
  cases e : ixN l.length z with
  | none => rw [e] at h; cases h
  | some j =>
    rw [e] at h
    obtain ⟨b, h1, h2⟩ := paired_at (i := j) (a := a) p h
    exact ⟨j, b, rfl, h, h1, h1, h2⟩
theorem ed_ixR (i : Nat) {x : Str} {p p2 : Pos} {a b : Expr} {g : DE} (ha : ED X a f) (hb : ED X b g) (hi : X.N[i]? = some x := by rfl) (hv : Vis X.env.scope x := by first | exact Or.inl rfl | exact Or.inr (Or.inl rfl) | exact Or.inr (Or.inr rfl)) (hd : (x == ("__debug__" : Str)) = false := by decide)
    (hcd : (x == ("__classdict__" : Str)) = false := by decide) (hs : PlainIx a := by exact fun _ _ => rfl) (hs2 : PlainIx b := by exact fun _ _ => rfl) : ED X (.Subscript (.Subscript (.Name x p) a p2) b pos) (dIxR i f g) :=
  peImp (pe_ix ix_list (pe_ix ix_list (pe_var hi hv hd hcd) ha hs) hb hs2) fun σ H Q ⟨F0, B, F, ρ, P, S, ⟨ls, ql, w⟩, fin⟩ => by
    obtain ⟨a, ps, h1, h2, h3, _⟩ := S.rowsAt ql
    refine ⟨.ref a, h1, F0, B, F, ρ, _, S, w, fun j ⟨z, l, e, hz, w2⟩ v F1 H1 E1 r => ?_⟩
    subst e
    cases r
    have S1 := S.step E1
    obtain ⟨a', ps', h1', h2', h3', _⟩ := S1.rowsAt ql
    rw [h1] at h1'
    cases h1'
    obtain ⟨m, q, _, _, hq, hq2, xs, e1, e2⟩ := pat_atI h3' hz
    refine ⟨a, ps'.map V.ref, z, .ref q, rfl, rfl, SqL.of h2', ?_, F0, B, F1, ρ, _, S1, w2, fun j ⟨z2, d, e, hz2, hp⟩ v F2 H2 E2 r => ?_⟩
    · unfold L2.atI at hq2 ⊢
      rw [List.length_map]
      cases e : ixN ps'.length z with
      | none => rw [e] at hq2; cases hq2
      | some k =>
        rw [e] at hq2
        have hq2 : ps'[k]? = some q := hq2
        show (ps'.map V.ref)[k]? = _
        rw [List.getElem?_map, hq2]
        rfl
    · subst e
      cases r
      obtain ⟨u, hu, ru⟩ := (e2.mono E2.ff).atI hz2
      exact ⟨q, xs, z2, u, rfl, rfl, SqL.of (E2.bh.ordi e1 fun _ z => nomatch z), hu, ((fin.later E1).later E2).at E2.fh E2.nt hp ru⟩
/-- x[i][j] = e -/
@[simp] def dPutR (i : Nat) (fa fb f : DE) : DS := fun G ρ => f ρ fun d => ∃ ls, ρ[i]? = some (.own (.rows ls)) ∧ fa ρ fun j => ∃ z m l, j = .int z ∧ ixN ls.length z = some m ∧ ls[m]? = some l ∧ fb ρ fun j => ∃ z n, j = .int z ∧ ixN l.length z = some n ∧ G.nx (ρ.set i (.own (.rows (ls.set m (l.set n d)))))
theorem sd_putR (i : Nat) {x : Str} {p1 p2 p3 : Pos} {a b : Expr} {fa fb : DE} (ha : ED X a fa) (hb : ED X b fb) (he : ED X e f) (hi : X.N[i]? = some x := by rfl) (hv : Vis X.env.scope x := by first | exact Or.inl rfl | exact Or.inr (Or.inl rfl) | exact Or.inr (Or.inr rfl)) (hd : (x == ("__debug__" : Str)) = false := by decide)
    (hcd : (x == ("__classdict__" : Str)) = false := by decide) (hpx : PlainIx a := by exact fun _ _ => rfl)
    (has : ∀ v, assign (.Subscript (.Subscript (.Name x p1) a p3) b p2) X.env v = (do
      let ov ← holding [v] (eval (.Subscript (.Name x p1) a p3) X.env)
      let iv ← holding [v, ov] (eval b X.env)
      standAt p2
      holding [v, ov, iv] (setItem ov iv v)
      release [v, ov, iv] []) := by intro _; rfl)
    (hs : swapsWithSole [.Subscript (.Subscript (.Name x p1) a p3) b p2] e pos.line X.env = pure false := by rfl) (hw : swappedStores [.Subscript (.Subscript (.Name x p1) a p3) b p2] e X.env = pure none := by rfl)
    (h1 : (assignEach [.Subscript (.Subscript (.Name x p1) a p3) b p2] X.env).map (·.2) = [assign (.Subscript (.Subscript (.Name x p1) a p3) b p2) X.env] := by rfl) :
    SD X E (.Assign [.Subscript (.Subscript (.Name x p1) a p3) b p2] e pos) (dPutR i fa fb f) :=
  psImp (ps_asg he (pg_sub (pe_ix ix_list (pe_var hi hv hd hcd) ha hpx) hb set_list has) hs hw h1) fun T σ H ⟨F0, B, F, ρ, G, S, q, k⟩ =>
    ⟨F0, B, F, ρ, _, S, q, fun d hd v F' H' E' r => by
      have S' := S.step E'
      obtain ⟨ls, ql, w⟩ := hd
      obtain ⟨a, ps, h1, h2, h3, _⟩ := S'.rowsAt ql
      refine ⟨.ref a, h1, F0, B, F', ρ, _, S', w, fun j hj vj F2 H2 E2 rj => ?_⟩
      obtain ⟨z, m, l, ej, hm, hl, w2⟩ := hj
      subst ej
      cases rj
      have S2 := S'.step E2
      obtain ⟨a', ps', h1', h2', h3', _⟩ := S2.rowsAt ql
      rw [h1] at h1'
      cases h1'
      obtain ⟨q, hq, xs, e1, e2⟩ := paired_at h3' hl
      have hlen := paired_len h3'
      refine ⟨a, ps'.map V.ref, z, .ref q, rfl, rfl, SqL.of h2', ?_, F0, B, F2, ρ, _, S2, w2, fun j ⟨z2, n, e, hn, hnx⟩ v F3 H3 E3 r3 => ?_⟩
      · unfold L2.atI
        rw [List.length_map, ← hlen, hm]
        show (ps'.map V.ref)[m]? = _
        rw [List.getElem?_map, hq]
        rfl
      · subst e
        cases r3
        have S3 := S2.step E3
        obtain ⟨a3, ps3, g1, g2, g3, ch⟩ := S3.rowsAt ql
        rw [h1] at g1
        cases g1
        have ep : ps3 = ps' := by
          have this := E3.bh.ordi h2' fun _ z => nomatch z
          rw [g2] at this
          have this : ps3.map V.ref = ps'.map V.ref := by injection this with this; injection this
          have hinj : ∀ {a b : List Addr}, a.map V.ref = b.map V.ref → a = b := fun {a b} h => by
            have := congrArg (List.map fun v => match v with | .ref x => x | _ => 0) h
            simpa [List.map_map, Function.comp_def] using this
          exact hinj this
        subst ep
        obtain ⟨q', hq', xs', e1', e2'⟩ := paired_at g3 hl
        rw [hq] at hq'
        cases hq'
        refine ⟨q, xs', z2, n, rfl, rfl, e1', by rw [← e2'.length]; exact hn, k.nx _ F3 _ _ hnx ((E'.ff.trans E2.ff).trans E3.ff) (ch m (l.set n d) _ q l hl hq (RepL.set ((r.mono E2.ff).mono E3.ff) n e2'))⟩⟩
end
end Dy

/-! # Two wares on lines: the plain mathematics. -/
namespace M40
/-- A line, or a ware: its first place, its second, its room (or how much). -/
abbrev Ln := Int × Int × Int
@[simp] def ind (p : Bool) : Rat := if p then 1 else 0
/-- What a row of amounts brings into the ways at a place. -/
def gain : List Ln → List Rat → Int → Rat
  | l :: ls, x :: xs, v => x * (ind (l.1 == v) - ind (l.2.1 == v)) + gain ls xs v
  | _, _, _ => 0
def sumS (f : Int → Rat) : List Int → Rat
  | [] => 0
  | v :: S => f v + sumS f S
theorem sumS_add (f g : Int → Rat) : ∀ S, sumS (fun v => f v + g v) S = sumS f S + sumS g S
  | [] => by simp [sumS]; grind
  | v :: S => by simp only [sumS, sumS_add f g S]; grind
theorem sumS_mul (c : Rat) (f : Int → Rat) : ∀ S, sumS (fun v => c * f v) S = c * sumS f S
  | [] => by simp [sumS]
  | v :: S => by simp only [sumS, sumS_mul c f S]; grind
theorem sumS_sub (f g : Int → Rat) : ∀ S, sumS (fun v => f v - g v) S = sumS f S - sumS g S
  | [] => by simp [sumS]; grind
  | v :: S => by simp only [sumS, sumS_sub f g S]; grind
theorem sumS_ind (a : Int) : ∀ S : List Int, S.Nodup → sumS (fun v => ind (a == v)) S = ind (S.contains a)
  | [], _ => by simp [sumS]
  | v :: S, h => by
    have hn := List.nodup_cons.mp h
    simp only [sumS, sumS_ind a S hn.2]
    by_cases e : a = v
    · subst e
      have : S.contains a = false := by simpa using hn.1
      simp [this]
      grind
    · simp [e]
      grind
/-- The gains over a set of places: what the parted lines carry out of it. -/
def carry : List Ln → List Rat → List Int → Rat
  | l :: ls, x :: xs, S => x * (ind (S.contains l.1) - ind (S.contains l.2.1)) + carry ls xs S
  | _, _, _ => 0
theorem sumS_gain : ∀ (ls : List Ln) (xs : List Rat) (S : List Int), S.Nodup → sumS (gain ls xs) S = carry ls xs S
  | l :: ls, x :: xs, S, h => by
    have e : sumS (gain (l :: ls) (x :: xs)) S = sumS (fun v => x * (ind (l.1 == v) - ind (l.2.1 == v)) + gain ls xs v) S := rfl
    rw [e, sumS_add, sumS_mul, sumS_sub, sumS_ind _ S h, sumS_ind _ S h, sumS_gain ls xs S h]
    rfl
  | [], xs, S, h => by
    have : ∀ S : List Int, sumS (gain [] xs) S = 0 := by intro S; induction S with
      | nil => rfl
      | cons v S ih => simp only [sumS, ih]; cases xs <;> simp [gain] <;> grind
    rw [this]; cases xs <;> rfl
  | l :: ls, [], S, h => by
    have : ∀ S : List Int, sumS (gain (l :: ls) []) S = 0 := by intro S; induction S with
      | nil => rfl
      | cons v S ih => simp only [sumS, ih]; simp [gain]; grind
    rw [this]; rfl
/-- The room of the parted lines. -/
def roomP (S : List Int) : List Ln → Rat
  | [] => 0
  | l :: ls => (if S.contains l.1 != S.contains l.2.1 then (l.2.2 : Rat) else 0) + roomP S ls
/-- Both rows keep within every line's room, one's amount beside the other's. -/
inductive Within : List Ln → List Rat → List Rat → Prop
  | nil : Within [] [] []
  | cons {l : Ln} {x y : Rat} {ls : List Ln} {xs ys : List Rat} (h1 : x + y ≤ l.2.2) (h2 : x - y ≤ l.2.2) (h3 : y - x ≤ l.2.2) (h4 : - x - y ≤ l.2.2) (r : Within ls xs ys) : Within (l :: ls) (x :: xs) (y :: ys)
theorem carry_le {S : List Int} {ls : List Ln} {xs ys : List Rat} (h : Within ls xs ys) :
    carry ls xs S + carry ls ys S ≤ roomP S ls ∧ carry ls xs S - carry ls ys S ≤ roomP S ls ∧ carry ls ys S - carry ls xs S ≤ roomP S ls ∧ - carry ls xs S - carry ls ys S ≤ roomP S ls := by
  induction h with
  | nil => simp [carry, roomP]; grind
  | @cons l x y ls xs ys h1 h2 h3 h4 r ih =>
    simp only [carry, roomP]
    generalize carry ls xs S = A at *
    generalize carry ls ys S = B at *
    generalize roomP S ls = R at *
    cases S.contains l.1 <;> cases S.contains l.2.1 <;> simp only [ind] <;> simp <;> grind
/-- How much of the ware a set of places parts. -/
def partW (S : List Int) (w : Ln) : Rat := if S.contains w.1 != S.contains w.2.1 then (w.2.2 : Rat) else 0
def due (w : Ln) (v : Int) : Rat := (w.2.2 : Rat) * (ind (v == w.1) - ind (v == w.2.1))
theorem sumS_due (w : Ln) (S : List Int) (h : S.Nodup) : sumS (due w) S = (w.2.2 : Rat) * (ind (S.contains w.1) - ind (S.contains w.2.1)) := by
  have e : due w = fun v => (w.2.2 : Rat) * (ind (w.1 == v) - ind (w.2.1 == v)) := by
    funext v
    simp only [due, Bool.beq_comm (a := v)]
  rw [e, sumS_mul, sumS_sub, sumS_ind _ S h, sumS_ind _ S h]
theorem sumS_congr {f g : Int → Rat} : ∀ {S : List Int}, (∀ v ∈ S, f v = g v) → sumS f S = sumS g S
  | [], _ => rfl
  | v :: S, h => by
    simp only [sumS]
    rw [h v (by simp), sumS_congr fun u hu => h u (by simp [hu])]
/-- A double that goes leaves no cut that bars. -/
theorem no_bar {ls : List Ln} {xs ys : List Rat} {one other : Ln} {S : List Int} (hS : S.Nodup) (h : Within ls xs ys)
    (g1 : ∀ v ∈ S, gain ls xs v = due one v) (g2 : ∀ v ∈ S, gain ls ys v = due other v) :
    partW S one + partW S other ≤ roomP S ls := by
  have a1 := sumS_congr g1
  have a2 := sumS_congr g2
  rw [sumS_gain _ _ _ hS, sumS_due _ _ hS] at a1 a2
  have := carry_le (S := S) h
  rw [a1, a2] at this
  simp only [partW]
  revert this
  cases S.contains one.1 <;> cases S.contains one.2.1 <;> cases S.contains other.1 <;> cases S.contains other.2.1 <;> simp <;> grind
end M40

/-! # Ways with room left: what a push does. -/
namespace M40
section
variable {α : Type} [DecidableEq α]
abbrev Lf (α : Type) := α → α → Int
def upd (L : Lf α) (u v : α) (x : Int) : Lf α := fun a b => if a = u ∧ b = v then x else L a b
def out (L : Lf α) (w : α) : List (α × α) → Int
  | [] => 0
  | p :: ks => (if p.1 = w then L p.1 p.2 else 0) + out L w ks
theorem out_congr {L M : Lf α} {w : α} : ∀ {ks : List (α × α)}, (∀ p ∈ ks, L p.1 p.2 = M p.1 p.2) → out L w ks = out M w ks
  | [], _ => rfl
  | p :: ks, h => by
    simp only [out]
    rw [h p (by simp), out_congr fun q hq => h q (by simp [hq])]
theorem out_upd {L : Lf α} {u v w : α} {x : Int} : ∀ {ks : List (α × α)}, ks.Nodup → (u, v) ∈ ks →
    out (upd L u v x) w ks = out L w ks + (if u = w then x - L u v else 0)
  | p :: ks, hn, hm => by
    have hn' := List.nodup_cons.mp hn
    simp only [out]
    by_cases e : p = (u, v)
    · subst e
      have : out (upd L u v x) w ks = out L w ks := by
        refine out_congr fun q hq => ?_
        have : ¬ (q.1 = u ∧ q.2 = v) := by
          rintro ⟨rfl, rfl⟩
          exact hn'.1 hq
        simp [upd, this]
      rw [this]
      simp only [upd]
      by_cases e2 : u = w <;> simp [e2]
      omega
    · have hm' : (u, v) ∈ ks := by
        rcases List.mem_cons.mp hm with h | h
        · exact absurd h.symm e
        · exact h
      rw [out_upd hn'.2 hm']
      have : ¬ (p.1 = u ∧ p.2 = v) := by
        rintro ⟨h1, h2⟩
        exact e (by rw [← h1, ← h2])
      simp [upd, this]
      omega
/-- One pair of the row: `m` less there, `m` more back. -/
def step (m : Int) (L : Lf α) (p : α × α) : Lf α :=
  let M := upd L p.1 p.2 (L p.1 p.2 - m)
  upd M p.2 p.1 (M p.2 p.1 + m)
theorem out_step {m : Int} {L : Lf α} {p : α × α} {w : α} {ks : List (α × α)} (hn : ks.Nodup) (h1 : p ∈ ks) (h2 : (p.2, p.1) ∈ ks) :
    out (step m L p) w ks = out L w ks - (if p.1 = w then m else 0) + (if p.2 = w then m else 0) := by
  simp only [step]
  rw [out_upd hn h2, out_upd hn (show (p.1, p.2) ∈ ks from h1)]
  by_cases e1 : p.1 = w <;> by_cases e2 : p.2 = w <;> simp [e1, e2] <;> omega
theorem step_sum {m : Int} {L : Lf α} {p : α × α} (hp : p.1 ≠ p.2) (a b : α) : step m L p a b + step m L p b a = L a b + L b a := by
  simp only [step, upd]
  have hp' : p.2 ≠ p.1 := fun h => hp h.symm
  by_cases h1 : a = p.1 <;> by_cases h2 : b = p.2 <;> by_cases h3 : a = p.2 <;> by_cases h4 : b = p.1 <;> simp_all <;> omega
/-- The pairs of a row of places. -/
def pairs : List α → List (α × α)
  | u :: v :: r => (u, v) :: pairs (v :: r)
  | _ => []
def pushL (m : Int) (L : Lf α) (ps : List (α × α)) : Lf α := ps.foldl (step m) L
def lastD : α → List α → α
  | u, [] => u
  | _, v :: r => lastD v r
theorem out_push {m : Int} {w : α} {ks : List (α × α)} (hn : ks.Nodup) (hs : ∀ p ∈ ks, (p.2, p.1) ∈ ks) (r : List α) :
    ∀ (u : α) (L : Lf α), (∀ p ∈ pairs (u :: r), p ∈ ks) →
      out (pushL m L (pairs (u :: r))) w ks = out L w ks - (if u = w then m else 0) + (if lastD u r = w then m else 0) := by
  induction r with
  | nil =>
    intro u L _
    simp only [pairs, pushL, List.foldl_nil, lastD]
    by_cases e : u = w <;> simp [e]
  | cons v r ih =>
    intro u L h
    have hp : (u, v) ∈ ks := h _ (by simp [pairs])
    have ih := ih v (step m L (u, v)) (fun p q => h p (by simp only [pairs, List.mem_cons]; exact Or.inr q))
    simp only [pairs, pushL, List.foldl_cons, lastD] at ih ⊢
    rw [ih, out_step hn hp (hs _ hp)]
    by_cases e1 : u = w <;> by_cases e2 : v = w <;> by_cases e3 : lastD v r = w <;> simp [e1, e2, e3] <;> omega
theorem push_sum {m : Int} : ∀ {ps : List (α × α)} {L : Lf α}, (∀ p ∈ ps, p.1 ≠ p.2) → ∀ a b, pushL m L ps a b + pushL m L ps b a = L a b + L b a
  | [], L, _, a, b => rfl
  | p :: ps, L, h, a, b => by
    have := push_sum (m := m) (ps := ps) (L := step m L p) (fun q hq => h q (by simp [hq])) a b
    simp only [pushL, List.foldl_cons] at this ⊢
    rw [this, step_sum (h p (by simp))]
/-- A pair of which neither it nor its back stands in the row keeps its room; one of the row loses `m`; one whose back stands there wins. -/
theorem push_ge {m : Int} (hm : 0 ≤ m) : ∀ {ps : List (α × α)} {L : Lf α} (a b : α), (a, b) ∉ ps → L a b ≤ pushL m L ps a b
  | [], L, a, b, _ => Int.le_refl _
  | p :: ps, L, a, b, h => by
    have h1 : (a, b) ≠ p := fun e => h (by simp [e])
    have ih := push_ge hm (ps := ps) (L := step m L p) a b (fun e => h (by simp [e]))
    simp only [pushL, List.foldl_cons] at ih ⊢
    refine Int.le_trans ?_ ih
    simp only [step, upd]
    have h2 : ¬ (a = p.1 ∧ b = p.2) := by
      rintro ⟨rfl, rfl⟩
      exact h1 rfl
    simp only [h2, if_false]
    by_cases h3 : a = p.2 ∧ b = p.1
    · obtain ⟨rfl, rfl⟩ := h3
      simp [h2]
      omega
    · simp [h3]
theorem push_ge' {m : Int} (hm : 0 ≤ m) : ∀ {ps : List (α × α)} {L : Lf α} (a b : α), ps.Nodup → L a b - m ≤ pushL m L ps a b
  | [], L, a, b, _ => by simp [pushL]; omega
  | p :: ps, L, a, b, h => by
    have hn := List.nodup_cons.mp h
    by_cases e : (a, b) = p
    · subst e
      have := push_ge hm (ps := ps) (L := step m L (a, b)) a b hn.1
      simp only [pushL, List.foldl_cons] at this ⊢
      refine Int.le_trans ?_ this
      simp only [step, upd]
      by_cases h3 : a = b
      · subst h3
        simp
        omega
      · simp [h3]
    · have ih := push_ge' hm (ps := ps) (L := step m L p) a b hn.2
      simp only [pushL, List.foldl_cons] at ih ⊢
      refine Int.le_trans ?_ ih
      have := push_ge hm (ps := [p]) (L := L) a b (by simpa using e)
      simp only [pushL, List.foldl_cons, List.foldl_nil] at this
      omega
end
end M40

/-! # What is reached: a tree over the ways with room left. -/
namespace M40
section
variable {α : Type} [DecidableEq α]
abbrev Fo (α : Type) := List (α × Option α)
/-- The tree that the scan builds: each place after its parent. -/
inductive Tr (L : Lf α) (ks : List (α × α)) (src : α) : Fo α → Prop
  | root : Tr L ks src [(src, none)]
  | snoc {f : Fo α} {u v : α} (t : Tr L ks src f) (hu : u ∈ f.map (·.1)) (hv : v ∉ f.map (·.1)) (hk : (u, v) ∈ ks) (hl : 0 < L u v) : Tr L ks src (f ++ [(v, some u)])
variable {L : Lf α} {ks : List (α × α)} {src : α}
theorem Tr.nodup {f : Fo α} (t : Tr L ks src f) : (f.map (·.1)).Nodup := by
  induction t with
  | root => simp
  | snoc t hu hv hk hl ih =>
    rw [List.map_append, List.nodup_append]
    refine ⟨ih, by simp, ?_⟩
    intro a ha b hb e
    simp at hb
    subst hb e
    exact hv ha
theorem Tr.src_mem {f : Fo α} (t : Tr L ks src f) : src ∈ f.map (·.1) := by
  induction t with
  | root => simp
  | snoc t hu hv hk hl ih => rw [List.map_append]; exact List.mem_append_left _ ih
theorem Tr.sub {f : Fo α} (t : Tr L ks src f) : ∀ v ∈ f.map (·.1), v ∈ src :: ks.map (·.2) := by
  induction t with
  | root => simp
  | @snoc f u v t hu hv hk hl ih =>
    intro w hw
    rw [List.map_append] at hw
    rcases List.mem_append.mp hw with h | h
    · exact ih w h
    · simp at h
      subst h
      exact List.mem_cons_of_mem _ (List.mem_map.mpr ⟨(u, w), hk, rfl⟩)
/-- Where a place stands in the tree. -/
def pos (f : Fo α) (v : α) : Nat := (f.map (·.1)).idxOf v
theorem Tr.up {f : Fo α} (t : Tr L ks src f) : ∀ v u, f.lookup v = some (some u) → (u, v) ∈ ks ∧ 0 < L u v ∧ u ∈ f.map (·.1) ∧ pos f u < pos f v := by
  induction t with
  | root =>
    intro v u h
    simp only [List.lookup_cons] at h
    split at h <;> simp at h
  | @snoc f u' v' t hu hv hk hl ih =>
    intro v u h
    rw [List.lookup_append] at h
    have hp : ∀ x ∈ f.map (·.1), pos (f ++ [(v', some u')]) x = pos f x := by
      intro x hx
      simp only [pos, List.map_append]
      rw [List.idxOf_append, if_pos hx]
    cases e : f.lookup v with
    | some r =>
      rw [e] at h
      simp at h
      subst h
      have := ih v u e
      have hvm : v ∈ f.map (·.1) := by
        have := List.lookup_eq_some_iff.mp e
        obtain ⟨l1, l2, h1, h2⟩ := this
        rw [h1]
        simp
      refine ⟨this.1, this.2.1, ?_, ?_⟩
      · rw [List.map_append]; exact List.mem_append_left _ this.2.2.1
      · rw [hp _ this.2.2.1, hp _ hvm]
        exact this.2.2.2
    | none =>
      rw [e] at h
      simp only [List.lookup_cons, List.lookup_nil, Option.none_or] at h
      split at h
      · rename_i hb
        have hb := eq_of_beq hb
        subst hb
        cases h
        refine ⟨hk, hl, ?_, ?_⟩
        · rw [List.map_append]; exact List.mem_append_left _ hu
        · rw [hp _ hu]
          simp only [pos, List.map_append]
          rw [List.idxOf_append, if_neg hv]
          have := List.idxOf_lt_length_of_mem hu
          omega
      · cases h
theorem Tr.has_up {f : Fo α} (t : Tr L ks src f) : ∀ v ∈ f.map (·.1), v ≠ src → ∃ u, f.lookup v = some (some u) := by
  induction t with
  | root => simp
  | @snoc f u' v' t hu hv hk hl ih =>
    intro v hm hne
    rw [List.lookup_append]
    by_cases h : v ∈ f.map (·.1)
    · obtain ⟨u, e⟩ := ih v h hne
      exact ⟨u, by rw [e]; rfl⟩
    · rw [List.map_append] at hm
      have : v = v' := by
        rcases List.mem_append.mp hm with h' | h'
        · exact absurd h' h
        · simpa using h'
      subst this
      have e : f.lookup v = none := by
        rw [List.lookup_eq_none_iff]
        intro p hp
        rcases hb : (v == p.1) with _ | _
        · simpa using hb
        · exact absurd (List.mem_map.mpr ⟨p, hp, (eq_of_beq hb).symm⟩) h
      exact ⟨u', by rw [e]; simp⟩
end
end M40

/-! # The search itself: one place at a time. -/
namespace M40
section
variable {α : Type} [DecidableEq α]
def scan1 (L : Lf α) (c : α) (s : Fo α × List α) (p : α × α) : Fo α × List α :=
  if p.1 = c ∧ 0 < L p.1 p.2 ∧ p.2 ∉ s.1.map (·.1) then (s.1 ++ [(p.2, some c)], s.2 ++ [p.2]) else s
def scan (L : Lf α) (c : α) (s : Fo α × List α) (ps : List (α × α)) : Fo α × List α := ps.foldl (scan1 L c) s
variable {L : Lf α} {ks : List (α × α)} {src : α}
/-- `u` is done with: whatever it leads to is found. -/
def Closed (L : Lf α) (ks : List (α × α)) (f : Fo α) (u : α) : Prop := ∀ v, (u, v) ∈ ks → 0 < L u v → v ∈ f.map (·.1)
structure BI (L : Lf α) (ks : List (α × α)) (src : α) (s : Fo α × List α) (x : Option α) : Prop where
  tr : Tr L ks src s.1
  wt : ∀ w ∈ s.2, w ∈ s.1.map (·.1)
  at_ : ∀ c, x = some c → c ∈ s.1.map (·.1)
  cl : ∀ u ∈ s.1.map (·.1), u ∉ s.2 → x ≠ some u → Closed L ks s.1 u
theorem scan_BI {c : α} : ∀ (ps dn : List (α × α)) (s : Fo α × List α), dn ++ ps = ks → BI L ks src s (some c) →
    (∀ v, (c, v) ∈ dn → 0 < L c v → v ∈ s.1.map (·.1)) →
    BI L ks src (scan L c s ps) none ∧ 2 * (scan L c s ps).1.length + s.2.length = 2 * s.1.length + (scan L c s ps).2.length + ((scan L c s ps).1.length - s.1.length) ∧ s.1.length ≤ (scan L c s ps).1.length
  | [], dn, s, e, h, hd => by
    simp at e
    subst e
    refine ⟨⟨h.tr, h.wt, (by simp), ?_⟩, by simp [scan], by simp [scan]⟩
    intro u hu hw _
    by_cases hc : c = u
    · subst hc
      exact hd
    · exact h.cl u hu hw (by simpa using hc)
  | p :: ps, dn, s, e, h, hd => by
    have step : BI L ks src (scan1 L c s p) (some c) ∧ (∀ v, (c, v) ∈ dn ++ [p] → 0 < L c v → v ∈ (scan1 L c s p).1.map (·.1)) ∧ ((scan1 L c s p).1.length + s.2.length = s.1.length + (scan1 L c s p).2.length) ∧ s.1.length ≤ (scan1 L c s p).1.length := by
      unfold scan1
      split
      · rename_i hc
        obtain ⟨h1, h2, h3⟩ := hc
        subst h1
        have hpk : (p.1, p.2) ∈ ks := by rw [← e]; simp
        refine ⟨⟨.snoc h.tr (h.at_ _ rfl) h3 hpk h2, ?_, ?_, ?_⟩, ?_, by simp; omega, by simp⟩
        · intro w hw
          simp only [List.map_append]
          rcases List.mem_append.mp hw with hw | hw
          · exact List.mem_append_left _ (h.wt w hw)
          · exact List.mem_append_right _ (by simpa using hw)
        · intro c' e'
          simp only [List.map_append]
          exact List.mem_append_left _ (h.at_ _ e')
        · intro u hu hw hx
          have hw' : u ∉ s.2 ∧ u ≠ p.2 := by simpa using hw
          have hu' : u ∈ s.1.map (·.1) := by
            simp only [List.map_append] at hu
            rcases List.mem_append.mp hu with hu | hu
            · exact hu
            · exact absurd (by simpa using hu) hw'.2
          intro v hv hl
          simp only [List.map_append]
          exact List.mem_append_left _ (h.cl u hu' hw'.1 hx v hv hl)
        · intro v hv hl
          simp only [List.map_append]
          rcases List.mem_append.mp hv with hv | hv
          · exact List.mem_append_left _ (hd v hv hl)
          · have : (p.1, v) = p := by simpa using hv
            have : v = p.2 := by rw [← this]
            exact List.mem_append_right _ (by simp [this])
      · rename_i hc
        refine ⟨h, ?_, rfl, Nat.le_refl _⟩
        intro v hv hl
        rcases List.mem_append.mp hv with hv | hv
        · exact hd v hv hl
        · have hp : (c, v) = p := by simpa using hv
          subst hp
          by_cases hm : v ∈ s.1.map (·.1)
          · exact hm
          · exact absurd ⟨rfl, hl, hm⟩ hc
    have := scan_BI ps (dn ++ [p]) (scan1 L c s p) (by rw [← e]; simp) step.1 step.2.1
    have e2 : scan L c s (p :: ps) = scan L c (scan1 L c s p) ps := rfl
    rw [e2]
    refine ⟨this.1, ?_, ?_⟩
    · have h1 := this.2.1
      have h2 := this.2.2
      have h3 := step.2.2.1
      have h4 := step.2.2.2
      omega
    · exact Nat.le_trans step.2.2.2 this.2.2
theorem nodup_len : ∀ {l m : List α}, l.Nodup → (∀ x ∈ l, x ∈ m) → l.length ≤ m.length
  | [], _, _, _ => Nat.zero_le _
  | x :: l, m, hn, hs => by
    have hn' := List.nodup_cons.mp hn
    have hx : x ∈ m := hs x (by simp)
    have := nodup_len (l := l) (m := m.erase x) hn'.2 (fun y hy => (List.mem_erase_of_ne (by rintro rfl; exact hn'.1 hy)).mpr (hs y (by simp [hy])))
    rw [List.length_erase_of_mem hx] at this
    have := List.length_pos_of_mem hx
    simp only [List.length_cons]
    omega
theorem BI.len {s : Fo α × List α} {x : Option α} (h : BI L ks src s x) : s.1.length ≤ ks.length + 1 := by
  have h1 := h.tr.nodup
  have h2 := h.tr.sub
  have := nodup_len h1 h2
  simpa using this
end
end M40

/-! # What is left says what was sent. -/
namespace M40
section
variable {α : Type} [DecidableEq α]
def lk (pl : Int → α) : List Ln → List (α × α)
  | [] => []
  | l :: ls => (pl l.1, pl l.2.1) :: (pl l.2.1, pl l.1) :: lk pl ls
/-- What a line carries, from its first place to its second. -/
def fl (pl : Int → α) (L : Lf α) (l : Ln) : Int := l.2.2 - L (pl l.1) (pl l.2.1)
def gainZ (pl : Int → α) (L : Lf α) (v : Int) : List Ln → Int
  | [] => 0
  | l :: ls => fl pl L l * ((if l.1 = v then 1 else 0) - (if l.2.1 = v then 1 else 0)) + gainZ pl L v ls
def base (v : Int) : List Ln → Int
  | [] => 0
  | l :: ls => l.2.2 * ((if l.1 = v then 1 else 0) + (if l.2.1 = v then 1 else 0)) + base v ls
variable {pl : Int → α} (hpl : ∀ a b, pl a = pl b → a = b)
include hpl
theorem out_lk {L : Lf α} {v : Int} : ∀ {ls : List Ln}, (∀ l ∈ ls, L (pl l.1) (pl l.2.1) + L (pl l.2.1) (pl l.1) = 2 * l.2.2) →
    out L (pl v) (lk pl ls) = base v ls - gainZ pl L v ls
  | [], _ => by simp [lk, out, base, gainZ]
  | l :: ls, h => by
    have h0 := h l (by simp)
    have ih := out_lk (v := v) (ls := ls) fun q hq => h q (by simp [hq])
    simp only [lk, out, base, gainZ, fl, ih]
    have e : ∀ a, (pl a = pl v) = (a = v) := fun a => propext ⟨hpl a v, fun e => by rw [e]⟩
    simp only [e]
    by_cases e1 : l.1 = v <;> by_cases e2 : l.2.1 = v <;> simp [e1, e2] <;> simp [e1, e2] at h0 <;> omega
omit hpl
/-- The ways at either end of the row, each once. -/
structure Ends (pl : Int → α) (src snk : α) (ek : List (α × α)) (L L0 : Lf α) (cs ct : Int → Int) : Prop where
  o : ∀ v, out L (pl v) ek = L (pl v) src + L (pl v) snk
  o0 : ∀ v, out L0 (pl v) ek = ct v
  s : ∀ v, L src (pl v) + L (pl v) src = cs v
  t : ∀ v, L (pl v) snk + L snk (pl v) = ct v
theorem gain_is {src snk : α} {ek : List (α × α)} {L L0 : Lf α} {cs ct : Int → Int} (hpl : ∀ a b, pl a = pl b → a = b)
    (E : Ends pl src snk ek L L0 cs ct) {ls : List Ln} (hr : ∀ l ∈ ls, L (pl l.1) (pl l.2.1) + L (pl l.2.1) (pl l.1) = 2 * l.2.2)
    (hr0 : ∀ l ∈ ls, L0 (pl l.1) (pl l.2.1) = l.2.2 ∧ L0 (pl l.2.1) (pl l.1) = l.2.2) (v : Int)
    (ho : out L (pl v) (lk pl ls ++ ek) = out L0 (pl v) (lk pl ls ++ ek)) :
    gainZ pl L v ls = cs v - L src (pl v) - L snk (pl v) := by
  have ha : ∀ (M : Lf α) (w : α) (xs ys : List (α × α)), out M w (xs ++ ys) = out M w xs + out M w ys := by
    intro M w xs ys
    induction xs with
    | nil => simp [out]
    | cons p xs ih => simp only [List.cons_append, out, ih]; omega
  rw [ha, ha, out_lk hpl hr, out_lk hpl (fun l hl => by have := hr0 l hl; omega), E.o, E.o0] at ho
  have g0 : ∀ ls : List Ln, (∀ l ∈ ls, L0 (pl l.1) (pl l.2.1) = l.2.2) → gainZ pl L0 v ls = 0 := by
    intro ls
    induction ls with
    | nil => intro _; rfl
    | cons l ls ih =>
      intro h
      simp only [gainZ, fl, h l (by simp), ih fun q hq => h q (by simp [hq])]
      simp
  rw [g0 ls fun l hl => (hr0 l hl).1] at ho
  have := E.s v
  have := E.t v
  omega
end
end M40

/-! # All sent, or a cut. -/
namespace M40
def cap2 (a1 m1 a2 m2 v : Int) : Int := (if a1 = v then m1 else 0) + (if a2 = v then m2 else 0)
def two (a1 a2 : Int) (g : Int → Int) : Int := if a1 = a2 then g a1 else g a1 + g a2
/-- Nothing left at the start: nothing missing at the end. -/
theorem full {s1 t1 m1 s2 t2 m2 : Int} {p q : Int → Int} (hp : ∀ v, 0 ≤ p v ∧ p v ≤ cap2 s1 m1 s2 m2 v) (hq : ∀ v, 0 ≤ q v ∧ q v ≤ cap2 t1 m1 t2 m2 v)
    (hs : two s1 s2 p + two t1 t2 q = m1 + m2) (h1 : p s1 = 0) (h2 : p s2 = 0) (v : Int) : p v = 0 ∧ q v = cap2 t1 m1 t2 m2 v := by
  have a1 := hp v
  have a2 := hq v
  have b1 := hq t1
  have b2 := hq t2
  have hs' : two t1 t2 q = m1 + m2 := by
    simp only [two, h1, h2] at hs
    simp at hs
    exact hs
  clear hs
  have hs := hs'
  clear hs'
  simp only [two, cap2] at *
  constructor
  · by_cases e1 : s1 = v
    · rw [← e1]; exact h1
    · by_cases e2 : s2 = v
      · rw [← e2]; exact h2
      · simp [e1, e2] at a1
        omega
  · by_cases e : t1 = t2
    · subst e
      clear a1 hp
      simp at b1 b2 hs
      by_cases e1 : t1 = v
      · subst e1
        simp
        omega
      · simp [e1] at a2 ⊢
        omega
    · have e' : ¬ t2 = t1 := fun h => e h.symm
      clear a1 hp
      simp [e, e'] at b1 b2 hs
      by_cases e1 : t1 = v
      · subst e1
        simp [e']
        omega
      · by_cases e2 : t2 = v
        · subst e2
          simp [e1]
          omega
        · simp [e1, e2] at a2 ⊢
          omega
end M40

/-! # A cut that bars. -/
namespace M40
section
variable {α : Type} [DecidableEq α] {pl : Int → α} {L : Lf α}
def row (pl : Int → α) (L : Lf α) (ls : List Ln) : List Rat := ls.map fun l => ((fl pl L l : Int) : Rat)
theorem gain_row (v : Int) : ∀ ls : List Ln, gain ls (row pl L ls) v = ((gainZ pl L v ls : Int) : Rat)
  | [] => by simp [row, gain, gainZ]
  | l :: ls => by
    have := gain_row v ls
    simp only [row, List.map_cons, gain, gainZ] at this ⊢
    rw [this]
    by_cases h1 : l.1 = v <;> by_cases h2 : l.2.1 = v <;> simp [h1, h2, Rat.intCast_add, Rat.intCast_neg] <;> grind
theorem carry_cut {S : List Int} : ∀ {ls : List Ln}, (∀ l ∈ ls, L (pl l.1) (pl l.2.1) + L (pl l.2.1) (pl l.1) = 2 * l.2.2) →
    (∀ l ∈ ls, (l.1 ∈ S → l.2.1 ∉ S → L (pl l.1) (pl l.2.1) = 0) ∧ (l.2.1 ∈ S → l.1 ∉ S → L (pl l.2.1) (pl l.1) = 0)) → carry ls (row pl L ls) S = roomP S ls
  | [], _, _ => rfl
  | l :: ls, hr, hc => by
    have ih := carry_cut (ls := ls) (fun q hq => hr q (by simp [hq])) (fun q hq => hc q (by simp [hq]))
    have h1 := hr l (by simp)
    have h2 := hc l (by simp)
    simp only [row, List.map_cons, carry, roomP] at ih ⊢
    rw [ih]
    by_cases a : l.1 ∈ S <;> by_cases b : l.2.1 ∈ S <;> simp [a, b] at h2 ⊢
    · grind
    · rw [fl, h2]; simp; grind
    · rw [fl, show L (pl l.1) (pl l.2.1) = 2 * l.2.2 by omega, show l.2.2 - 2 * l.2.2 = - l.2.2 by omega, Rat.intCast_neg]
      grind
    · grind
theorem sumS_nonneg {f : Int → Rat} : ∀ {S : List Int}, (∀ v ∈ S, 0 ≤ f v) → 0 ≤ sumS f S
  | [], _ => by simp [sumS]
  | v :: S, h => by
    have := h v (by simp)
    have := sumS_nonneg (S := S) fun u hu => h u (by simp [hu])
    simp only [sumS]
    grind
theorem sumS_pos {f : Int → Rat} : ∀ {S : List Int}, (∀ v ∈ S, 0 ≤ f v) → (∃ v ∈ S, 0 < f v) → 0 < sumS f S
  | [], _, ⟨v, h, _⟩ => by simp at h
  | v :: S, h, ⟨u, hu, hp⟩ => by
    have h1 := h v (by simp)
    have h2 := sumS_nonneg (S := S) fun u hu => h u (by simp [hu])
    simp only [sumS]
    rcases List.mem_cons.mp hu with e | e
    · subst e; grind
    · have := sumS_pos (S := S) (fun u hu => h u (by simp [hu])) ⟨u, e, hp⟩
      grind
theorem sumS_cap (a1 m1 a2 m2 : Int) (S : List Int) (h : S.Nodup) : sumS (fun v => ((cap2 a1 m1 a2 m2 v : Int) : Rat)) S = (m1 : Rat) * ind (S.contains a1) + (m2 : Rat) * ind (S.contains a2) := by
  have e : (fun v => ((cap2 a1 m1 a2 m2 v : Int) : Rat)) = fun v => (m1 : Rat) * ind (a1 == v) + (m2 : Rat) * ind (a2 == v) := by
    funext v
    by_cases h1 : a1 = v <;> by_cases h2 : a2 = v <;> simp [cap2, h1, h2, Rat.intCast_add] <;> grind
  rw [e, sumS_add, sumS_mul, sumS_mul, sumS_ind _ S h, sumS_ind _ S h]
/-- What is reached bars. -/
theorem bars {S : List Int} {ls : List Ln} {s1 t1 m1 s2 t2 m2 : Int} {p q : Int → Int} (hS : S.Nodup)
    (hr : ∀ l ∈ ls, L (pl l.1) (pl l.2.1) + L (pl l.2.1) (pl l.1) = 2 * l.2.2)
    (hc : ∀ l ∈ ls, (l.1 ∈ S → l.2.1 ∉ S → L (pl l.1) (pl l.2.1) = 0) ∧ (l.2.1 ∈ S → l.1 ∉ S → L (pl l.2.1) (pl l.1) = 0))
    (hg : ∀ v, gainZ pl L v ls = cap2 s1 m1 s2 m2 v - p v - q v) (hq : ∀ v ∈ S, q v = cap2 t1 m1 t2 m2 v)
    (hp : ∀ v, 0 ≤ p v) (hx : ∃ v ∈ S, 0 < p v) (k1 : 0 ≤ m1) (k2 : 0 ≤ m2) :
    roomP S ls < partW S (s1, t1, m1) + partW S (s2, t2, m2) := by
  rw [← carry_cut hr hc, ← sumS_gain _ _ _ hS]
  have e : sumS (gain ls (row pl L ls)) S = sumS (fun v => (((cap2 s1 m1 s2 m2 v : Int) : Rat) - ((p v : Int) : Rat)) - ((cap2 t1 m1 t2 m2 v : Int) : Rat)) S := by
    refine sumS_congr fun v hv => ?_
    rw [gain_row, hg, hq v hv, Rat.intCast_sub, Rat.intCast_sub]
  rw [e, sumS_sub, sumS_sub, sumS_cap _ _ _ _ _ hS, sumS_cap _ _ _ _ _ hS]
  have h1 : 0 < sumS (fun v => ((p v : Int) : Rat)) S := by
    refine sumS_pos (fun v hv => Rat.intCast_nonneg.mpr (hp v)) ?_
    obtain ⟨v, hv, h⟩ := hx
    exact ⟨v, hv, Rat.intCast_pos.mpr h⟩
  have j1 : (0 : Rat) ≤ m1 := Rat.intCast_nonneg.mpr k1
  have j2 : (0 : Rat) ≤ m2 := Rat.intCast_nonneg.mpr k2
  simp only [partW]
  generalize sumS (fun v => ((p v : Int) : Rat)) S = P at *
  cases S.contains s1 <;> cases S.contains t1 <;> cases S.contains s2 <;> cases S.contains t2 <;> simp <;> grind
end
end M40

/-! # The half sum and the half difference. -/
namespace M40
inductive Lim : List Ln → List Int → List Int → Prop
  | nil : Lim [] [] []
  | cons {l : Ln} {x y : Int} {ls : List Ln} {xs ys : List Int} (h1 : x ≤ l.2.2) (h2 : - x ≤ l.2.2) (h3 : y ≤ l.2.2) (h4 : - y ≤ l.2.2) (r : Lim ls xs ys) : Lim (l :: ls) (x :: xs) (y :: ys)
def halfs (σ : Int) : List Int → List Int → List Rat
  | x :: xs, y :: ys => ((x + σ * y : Int) : Rat) / 2 :: halfs σ xs ys
  | _, _ => []
theorem within_half {ls : List Ln} {xs ys : List Int} (h : Lim ls xs ys) : Within ls (halfs 1 xs ys) (halfs (-1) xs ys) := by
  induction h with
  | nil => exact .nil
  | @cons l x y ls xs ys h1 h2 h3 h4 r ih =>
    have k1 : (x : Rat) ≤ l.2.2 := Rat.intCast_le_intCast.mpr h1
    have k2 : - (x : Rat) ≤ l.2.2 := by rw [← Rat.intCast_neg]; exact Rat.intCast_le_intCast.mpr h2
    have k3 : (y : Rat) ≤ l.2.2 := Rat.intCast_le_intCast.mpr h3
    have k4 : - (y : Rat) ≤ l.2.2 := by rw [← Rat.intCast_neg]; exact Rat.intCast_le_intCast.mpr h4
    have e1 : ((x + 1 * y : Int) : Rat) = x + y := by rw [Int.one_mul, Rat.intCast_add]
    have e2 : ((x + -1 * y : Int) : Rat) = x - y := by rw [show x + -1 * y = x - y by omega, Rat.intCast_sub]
    simp only [halfs, e1, e2]
    exact .cons (by grind) (by grind) (by grind) (by grind) ih
theorem gain_half {ls : List Ln} {xs ys : List Int} (h : Lim ls xs ys) (v : Int) :
    gain ls (halfs 1 xs ys) v = (gain ls (xs.map fun x : Int => (x : Rat)) v + gain ls (ys.map fun x : Int => (x : Rat)) v) / 2 ∧
    gain ls (halfs (-1) xs ys) v = (gain ls (xs.map fun x : Int => (x : Rat)) v - gain ls (ys.map fun x : Int => (x : Rat)) v) / 2 := by
  induction h with
  | nil => simp [gain, halfs]; grind
  | @cons l x y ls xs ys h1 h2 h3 h4 r ih =>
    have e1 : ((x + 1 * y : Int) : Rat) = x + y := by rw [Int.one_mul, Rat.intCast_add]
    have e2 : ((x + -1 * y : Int) : Rat) = x - y := by rw [show x + -1 * y = x - y by omega, Rat.intCast_sub]
    simp only [halfs, gain, List.map_cons, e1, e2, ih.1, ih.2]
    grind
theorem lim_of {α : Type} [DecidableEq α] {pl : Int → α} {L M : Lf α} : ∀ {ls : List Ln},
    (∀ l ∈ ls, L (pl l.1) (pl l.2.1) + L (pl l.2.1) (pl l.1) = 2 * l.2.2 ∧ 0 ≤ L (pl l.1) (pl l.2.1) ∧ 0 ≤ L (pl l.2.1) (pl l.1)) →
    (∀ l ∈ ls, M (pl l.1) (pl l.2.1) + M (pl l.2.1) (pl l.1) = 2 * l.2.2 ∧ 0 ≤ M (pl l.1) (pl l.2.1) ∧ 0 ≤ M (pl l.2.1) (pl l.1)) →
    Lim ls (ls.map (fl pl L)) (ls.map (fl pl M))
  | [], _, _ => .nil
  | l :: ls, h, k => by
    have a := h l (by simp)
    have b := k l (by simp)
    refine .cons ?_ ?_ ?_ ?_ (lim_of (fun q hq => h q (by simp [hq])) (fun q hq => k q (by simp [hq]))) <;> simp only [fl] <;> omega
/-- Both rows, one ware's and the other's. -/
theorem double_dues {α : Type} [DecidableEq α] {pl : Int → α} {L M : Lf α} {ls : List Ln} {one other : Ln} (hl : Lim ls (ls.map (fl pl L)) (ls.map (fl pl M)))
    (g1 : ∀ v, gainZ pl L v ls = cap2 one.1 one.2.2 other.1 other.2.2 v - cap2 one.2.1 one.2.2 other.2.1 other.2.2 v)
    (g2 : ∀ v, gainZ pl M v ls = cap2 one.1 one.2.2 other.2.1 other.2.2 v - cap2 one.2.1 one.2.2 other.1 other.2.2 v) (v : Int) :
    gain ls (halfs 1 (ls.map (fl pl L)) (ls.map (fl pl M))) v = due one v ∧ gain ls (halfs (-1) (ls.map (fl pl L)) (ls.map (fl pl M))) v = due other v := by
  have e := gain_half hl v
  have a := gain_row (pl := pl) (L := L) v ls
  have b := gain_row (pl := pl) (L := M) v ls
  simp only [row] at a b
  simp only [List.map_map, Function.comp_def] at e
  rw [a, b, g1, g2] at e
  rw [e.1, e.2]
  have c : ∀ a : Int, (v == a) = decide (a = v) := fun a => by by_cases h : a = v <;> simp [h] <;> omega
  simp only [due, cap2, ind, c]
  by_cases c1 : one.1 = v <;> by_cases c2 : one.2.1 = v <;> by_cases c3 : other.1 = v <;> by_cases c4 : other.2.1 = v <;> simp [c1, c2, c3, c4, Rat.intCast_add, Rat.intCast_sub, Rat.intCast_neg] <;> grind
end M40

/-! # A push keeps the balance. -/
namespace M40
section
variable {α : Type} [DecidableEq α]
theorem pairs_fst : ∀ r : List α, ((pairs r).map (·.1)).Sublist r
  | [] => .slnil
  | [u] => by simp [pairs]
  | u :: v :: r => by
    simp only [pairs, List.map_cons]
    exact .cons_cons _ (pairs_fst (v :: r))
theorem nodup_of_map {β : Type} (f : α → β) : ∀ {l : List α}, (l.map f).Nodup → l.Nodup
  | [], _ => .nil
  | x :: l, h => by
    have := List.nodup_cons.mp h
    exact List.nodup_cons.mpr ⟨fun hx => this.1 (List.mem_map_of_mem hx), nodup_of_map f this.2⟩
theorem pairs_nodup {r : List α} (h : r.Nodup) : (pairs r).Nodup := by
  have := (pairs_fst r).nodup h
  exact nodup_of_map _ this
structure FI (ks : List (α × α)) (src snk : α) (L0 L : Lf α) : Prop where
  pos : ∀ u v, 0 ≤ L u v
  sum : ∀ u v, L u v + L v u = L0 u v + L0 v u
  o : ∀ v, v ≠ src → v ≠ snk → out L v ks = out L0 v ks
  so : out L src ks + out L snk ks = out L0 src ks + out L0 snk ks
theorem FI.push {ks : List (α × α)} {src snk : α} {L0 L : Lf α} (h : FI ks src snk L0 L) (hn : ks.Nodup) (hs : ∀ p ∈ ks, (p.2, p.1) ∈ ks) (hd : ∀ p ∈ ks, p.1 ≠ p.2)
    (hne : src ≠ snk) {r : List α} {m : Int} (hr : (src :: r).Nodup) (hl : lastD src r = snk) (hk : ∀ p ∈ pairs (src :: r), p ∈ ks) (hm0 : 0 ≤ m) (hm : ∀ p ∈ pairs (src :: r), m ≤ L p.1 p.2) :
    FI ks src snk L0 (pushL m L (pairs (src :: r))) ∧ out (pushL m L (pairs (src :: r))) src ks = out L src ks - m := by
  have ho := fun w => out_push (m := m) (w := w) hn hs r src L hk
  rw [hl] at ho
  have hp := pairs_nodup hr
  refine ⟨⟨?_, ?_, ?_, ?_⟩, ?_⟩
  · intro u v
    by_cases hu : (u, v) ∈ pairs (src :: r)
    · have := push_ge' hm0 (L := L) u v hp
      have := hm _ hu
      dsimp only at this
      omega
    · exact Int.le_trans (h.pos u v) (push_ge hm0 u v hu)
  · intro u v
    rw [push_sum fun p q => hd p (hk p q), h.sum]
  · intro v h1 h2
    rw [ho, h.o v h1 h2]
    simp [h1.symm, h2.symm]
  · rw [ho, ho]
    have := h.so
    simp [hne, hne.symm]
    omega
  · rw [ho]
    simp [hne.symm]
end
end M40

/-! # The list of all sets of places. -/
namespace M40
def cuts : Nat → List (List Int)
  | 0 => [[]]
  | n + 1 => cuts n ++ (cuts n).map (· ++ [(n : Int)])
theorem cuts_ok : ∀ {n : Nat} {c : List Int}, c ∈ cuts n → c.Pairwise (· < ·) ∧ ∀ v ∈ c, 0 ≤ v ∧ v < n
  | 0, c, h => by
    simp [cuts] at h
    subst h
    simp
  | n + 1, c, h => by
    simp only [cuts, List.mem_append, List.mem_map] at h
    rcases h with h | ⟨d, h, rfl⟩
    · have := cuts_ok h
      exact ⟨this.1, fun v hv => by have := this.2 v hv; omega⟩
    · have := cuts_ok h
      refine ⟨?_, ?_⟩
      · rw [List.pairwise_append]
        exact ⟨this.1, by simp, fun a ha b hb => by simp at hb; subst hb; exact (this.2 a ha).2⟩
      · intro v hv
        rcases List.mem_append.mp hv with hv | hv
        · have := this.2 v hv; omega
        · simp at hv; omega
theorem cuts_nodup {n : Nat} {c : List Int} (h : c ∈ cuts n) : c.Nodup :=
  (cuts_ok h).1.imp fun h => by omega
def rangeI (n : Nat) : List Int := (List.range n).map fun k : Nat => (k : Int)
theorem rangeI_succ (n : Nat) : rangeI (n + 1) = rangeI n ++ [(n : Int)] := by simp [rangeI, List.range_succ]
theorem filter_cuts (p : Int → Bool) : ∀ n : Nat, (rangeI n).filter p ∈ cuts n
  | 0 => by simp [rangeI, cuts]
  | n + 1 => by
    rw [rangeI_succ, List.filter_append]
    simp only [cuts, List.mem_append, List.mem_map]
    cases hp : p n with
    | true => exact Or.inr ⟨_, filter_cuts p n, by simp [hp]⟩
    | false => exact Or.inl (by simp [hp]; exact filter_cuts p n)
theorem cuts_len (n : Nat) : (cuts n).length = 2 ^ n := by
  induction n with
  | zero => rfl
  | succ n ih => simp only [cuts, List.length_append, List.length_map, ih]; rw [Nat.pow_succ]; omega
end M40

/-! # How the rooms stand at the start. -/
namespace M40
section
variable {α : Type} [DecidableEq α]
def addK (ks : List (α × α)) (u v : α) : List (α × α) := if (u, v) ∈ ks then ks else ks ++ [(u, v)]
theorem mem_addK {ks : List (α × α)} {u v : α} {p : α × α} : p ∈ addK ks u v ↔ p ∈ ks ∨ p = (u, v) := by
  unfold addK
  split
  · rename_i h
    constructor
    · exact .inl
    · rintro (h' | rfl)
      · exact h'
      · exact h
  · simp
theorem nodup_addK {ks : List (α × α)} {u v : α} (h : ks.Nodup) : (addK ks u v).Nodup := by
  unfold addK
  split
  · exact h
  · rename_i hn
    rw [List.nodup_append]
    refine ⟨h, by simp, fun a ha b hb e => hn ?_⟩
    rw [List.mem_singleton.mp hb] at e
    rw [← e]
    exact ha
theorem addK_of {ks : List (α × α)} {u v : α} (h : (u, v) ∈ ks) : addK ks u v = ks := if_pos h
theorem addK_not {ks : List (α × α)} {u v : α} (h : (u, v) ∉ ks) : addK ks u v = ks ++ [(u, v)] := if_neg h
theorem addK_len (ks : List (α × α)) (u v : α) : (addK ks u v).length ≤ ks.length + 1 := by
  unfold addK
  split <;> simp
def add2 (ks : List (α × α)) (u v : α) : List (α × α) := addK (addK ks u v) v u
def lnK (pl : Int → α) (ks : List (α × α)) (ls : List Ln) : List (α × α) := ls.foldl (fun ks l => add2 ks (pl l.1) (pl l.2.1)) ks
def lnF (pl : Int → α) (L : Lf α) (ls : List Ln) : Lf α := ls.foldl (fun L l => upd (upd L (pl l.1) (pl l.2.1) l.2.2) (pl l.2.1) (pl l.1) l.2.2) L
abbrev En (α : Type) := α × α × Int
def enK (ks : List (α × α)) (es : List (En α)) : List (α × α) := es.foldl (fun ks e => add2 ks e.1 e.2.1) ks
def enF (L : Lf α) (es : List (En α)) : Lf α := es.foldl (fun L e => upd L e.1 e.2.1 (L e.1 e.2.1 + e.2.2)) L
/-- the keys go both ways, each once -/
structure KOk (ks : List (α × α)) : Prop where
  nd : ks.Nodup
  sy : ∀ p ∈ ks, (p.2, p.1) ∈ ks
  ir : ∀ p ∈ ks, p.1 ≠ p.2
theorem KOk.add2 {ks : List (α × α)} (h : KOk ks) {u v : α} (n : u ≠ v) : KOk (add2 ks u v) := by
  refine ⟨nodup_addK (nodup_addK h.nd), fun p hp => ?_, fun p hp => ?_⟩
  · simp only [M40.add2, mem_addK] at hp ⊢
    rcases hp with (hp | rfl) | rfl
    · exact .inl (.inl (h.sy p hp))
    · exact .inr rfl
    · exact .inl (.inr rfl)
  · simp only [M40.add2, mem_addK] at hp
    rcases hp with (hp | rfl) | rfl
    · exact h.ir p hp
    · exact n
    · exact n.symm
variable {pl : Int → α} {src snk : α}
/-- the lines, sound -/
structure LOk (ls : List Ln) : Prop where
  lt : ∀ l ∈ ls, l.1 < l.2.1
  ds : ls.Pairwise fun l l' => ¬ (l.1 = l'.1 ∧ l.2.1 = l'.2.1)
  r1 : ∀ l ∈ ls, 1 ≤ l.2.2
theorem mem_lk {p : α × α} : ∀ {ls : List Ln}, p ∈ lk pl ls ↔ ∃ l ∈ ls, p = (pl l.1, pl l.2.1) ∨ p = (pl l.2.1, pl l.1)
  | [] => by simp [lk]
  | l :: ls => by
    simp only [lk, List.mem_cons, mem_lk (ls := ls)]
    constructor
    · rintro (h | h | ⟨l', hl, h⟩)
      · exact ⟨l, .inl rfl, .inl h⟩
      · exact ⟨l, .inl rfl, .inr h⟩
      · exact ⟨l', .inr hl, h⟩
    · rintro ⟨l', rfl | hl, h⟩
      · rcases h with h | h
        · exact .inl h
        · exact .inr (.inl h)
      · exact .inr (.inr ⟨l', hl, h⟩)
theorem lnK_eq (hpl : ∀ a b, pl a = pl b → a = b) : ∀ (ls : List Ln) (acc : List (α × α)), LOk ls → (∀ l ∈ ls, (pl l.1, pl l.2.1) ∉ acc ∧ (pl l.2.1, pl l.1) ∉ acc) → lnK pl acc ls = acc ++ lk pl ls
  | [], acc, _, _ => by simp [lnK, lk]
  | l :: ls, acc, h, hn => by
    have h0 := hn l (by simp)
    have hlt := h.lt l (by simp)
    have hds := List.pairwise_cons.mp h.ds
    have e : add2 acc (pl l.1) (pl l.2.1) = acc ++ [(pl l.1, pl l.2.1), (pl l.2.1, pl l.1)] := by
      unfold add2
      rw [addK_not h0.1, addK_not]
      · simp
      · intro z
        rcases List.mem_append.mp z with z | z
        · exact h0.2 z
        · have := List.mem_singleton.mp z
          have := hpl _ _ (congrArg Prod.fst this)
          omega
    have ih := lnK_eq hpl ls (acc ++ [(pl l.1, pl l.2.1), (pl l.2.1, pl l.1)]) ⟨fun q hq => h.lt q (by simp [hq]), hds.2, fun q hq => h.r1 q (by simp [hq])⟩ fun q hq => by
      have q0 := hn q (by simp [hq])
      have qlt := h.lt q (by simp [hq])
      have qd := hds.1 q hq
      refine ⟨fun z => ?_, fun z => ?_⟩
      · rcases List.mem_append.mp z with z | z
        · exact q0.1 z
        · simp only [List.mem_cons, List.not_mem_nil, or_false, Prod.mk.injEq] at z
          rcases z with ⟨z1, z2⟩ | ⟨z1, z2⟩
          · exact qd ⟨(hpl _ _ z1).symm, (hpl _ _ z2).symm⟩
          · have := hpl _ _ z1
            have := hpl _ _ z2
            omega
      · rcases List.mem_append.mp z with z | z
        · exact q0.2 z
        · simp only [List.mem_cons, List.not_mem_nil, or_false, Prod.mk.injEq] at z
          rcases z with ⟨z1, z2⟩ | ⟨z1, z2⟩
          · have := hpl _ _ z1
            have := hpl _ _ z2
            omega
          · exact qd ⟨(hpl _ _ z2).symm, (hpl _ _ z1).symm⟩
    show lnK pl (add2 acc (pl l.1) (pl l.2.1)) ls = _
    rw [e, ih]
    simp [lk]
theorem lnF_out {u v : α} : ∀ (ls : List Ln) (L : Lf α), (∀ l ∈ ls, ¬ (u = pl l.1 ∧ v = pl l.2.1) ∧ ¬ (u = pl l.2.1 ∧ v = pl l.1)) → lnF pl L ls u v = L u v
  | [], L, _ => rfl
  | l :: ls, L, h => by
    have h0 := h l (by simp)
    show lnF pl (upd (upd L (pl l.1) (pl l.2.1) l.2.2) (pl l.2.1) (pl l.1) l.2.2) ls u v = _
    rw [lnF_out ls _ fun q hq => h q (by simp [hq])]
    simp [upd, h0.1, h0.2]
theorem lnF_in (hpl : ∀ a b, pl a = pl b → a = b) : ∀ (ls : List Ln) (L : Lf α), LOk ls → ∀ l ∈ ls, lnF pl L ls (pl l.1) (pl l.2.1) = l.2.2 ∧ lnF pl L ls (pl l.2.1) (pl l.1) = l.2.2
  | l :: ls, L, h, q, hq => by
    have hds := List.pairwise_cons.mp h.ds
    have hlt := h.lt l (by simp)
    have ok : LOk ls := ⟨fun q hq => h.lt q (by simp [hq]), hds.2, fun q hq => h.r1 q (by simp [hq])⟩
    show lnF pl (upd (upd L (pl l.1) (pl l.2.1) l.2.2) (pl l.2.1) (pl l.1) l.2.2) ls _ _ = _ ∧ lnF pl (upd (upd L (pl l.1) (pl l.2.1) l.2.2) (pl l.2.1) (pl l.1) l.2.2) ls _ _ = _
    rcases List.mem_cons.mp hq with rfl | hq
    · have nx : ∀ q' ∈ ls, ¬ (pl q.1 = pl q'.1 ∧ pl q.2.1 = pl q'.2.1) ∧ ¬ (pl q.1 = pl q'.2.1 ∧ pl q.2.1 = pl q'.1) ∧ ¬ (pl q.2.1 = pl q'.1 ∧ pl q.1 = pl q'.2.1) ∧ ¬ (pl q.2.1 = pl q'.2.1 ∧ pl q.1 = pl q'.1) := fun q' hq' => by
        have d := hds.1 q' hq'
        have lt' := ok.lt q' hq'
        refine ⟨fun ⟨z1, z2⟩ => d ⟨hpl _ _ z1, hpl _ _ z2⟩, fun ⟨z1, z2⟩ => ?_, fun ⟨z1, z2⟩ => ?_, fun ⟨z1, z2⟩ => d ⟨hpl _ _ z2, hpl _ _ z1⟩⟩
        · have := hpl _ _ z1
          have := hpl _ _ z2
          omega
        · have := hpl _ _ z1
          have := hpl _ _ z2
          omega
      rw [lnF_out ls _ fun q' hq' => ⟨(nx q' hq').1, (nx q' hq').2.1⟩, lnF_out ls _ fun q' hq' => ⟨(nx q' hq').2.2.1, (nx q' hq').2.2.2⟩]
      have n1 : pl q.1 ≠ pl q.2.1 := fun z => by
        have := hpl _ _ z
        omega
      simp [upd, n1, n1.symm]
    · exact lnF_in hpl ls _ ok q hq
/-- the four ends -/
def es4 (pl : Int → α) (src snk : α) (s1 t1 m1 s2 t2 m2 : Int) : List (En α) := [(src, pl s1, m1), (pl t1, snk, m1), (src, pl s2, m2), (pl t2, snk, m2)]
def ek4 (pl : Int → α) (src snk : α) (s1 t1 s2 t2 : Int) : List (α × α) :=
  [(src, pl s1), (pl s1, src), (pl t1, snk), (snk, pl t1)] ++ ((if s2 = s1 then [] else [(src, pl s2), (pl s2, src)]) ++ (if t2 = t1 then [] else [(pl t2, snk), (snk, pl t2)]))
/-- names apart -/
structure Ap (pl : Int → α) (src snk : α) : Prop where
  inj : ∀ a b, pl a = pl b → a = b
  s : ∀ v, src ≠ pl v
  t : ∀ v, snk ≠ pl v
  st : src ≠ snk
theorem enK_eq (A : Ap pl src snk) {ls : List Ln} {s1 t1 m1 s2 t2 m2 : Int} : enK (lk pl ls) (es4 pl src snk s1 t1 m1 s2 t2 m2) = lk pl ls ++ ek4 pl src snk s1 t1 s2 t2 := by
  have notlk : ∀ {u v : α}, (∀ a b, ¬ (u = pl a ∧ v = pl b)) → (u, v) ∉ lk pl ls := fun {u v} h z => by
    obtain ⟨l, _, z⟩ := mem_lk.mp z
    rcases z with z | z
    · exact h l.1 l.2.1 ⟨congrArg Prod.fst z, congrArg Prod.snd z⟩
    · exact h l.2.1 l.1 ⟨congrArg Prod.fst z, congrArg Prod.snd z⟩
  have S := A.s
  have S' : ∀ v, pl v ≠ src := fun v z => S v z.symm
  have T := A.t
  have T' : ∀ v, pl v ≠ snk := fun v z => T v z.symm
  have inj : ∀ a b, (pl a = pl b) = (a = b) := fun a b => propext ⟨A.inj a b, fun e => by rw [e]⟩
  have n1 : ∀ v, (src, pl v) ∉ lk pl ls := fun v => notlk fun a b z => S a z.1
  have n2 : ∀ v, (pl v, src) ∉ lk pl ls := fun v => notlk fun a b z => S b z.2
  have n3 : ∀ v, (pl v, snk) ∉ lk pl ls := fun v => notlk fun a b z => T b z.2
  have n4 : ∀ v, (snk, pl v) ∉ lk pl ls := fun v => notlk fun a b z => T a z.1
  have st := A.st
  simp only [enK, es4, List.foldl_cons, List.foldl_nil, add2]
  rw [addK_not (n1 s1), addK_not (u := pl s1) (v := src) (by simp [n2, S']), addK_not (u := pl t1) (v := snk) (by simp [n3, S', T', st.symm]), addK_not (u := snk) (v := pl t1) (by simp [n4, T, st.symm])]
  by_cases e1 : s2 = s1
  · subst e1
    rw [addK_of (u := src) (by simp), addK_of (u := pl s2) (v := src) (by simp)]
    by_cases e2 : t2 = t1
    · subst e2
      rw [addK_of (u := pl t2) (by simp), addK_of (u := snk) (by simp)]
      simp [ek4]
    · rw [addK_not (u := pl t2) (v := snk) (by simp [n3, S', T', st.symm, inj, e2]), addK_not (u := snk) (v := pl t2) (by simp [n4, T, T', st.symm, inj, e2])]
      simp [ek4, e2]
  · rw [addK_not (u := src) (v := pl s2) (by simp [n1, S, S', T', st, inj, e1]), addK_not (u := pl s2) (v := src) (by simp [n2, S, S', T', st, inj, e1])]
    by_cases e2 : t2 = t1
    · subst e2
      rw [addK_of (u := pl t2) (by simp), addK_of (u := snk) (by simp)]
      simp [ek4, e1]
    · rw [addK_not (u := pl t2) (v := snk) (by simp [n3, S', T', st.symm, inj, e2]), addK_not (u := snk) (v := pl t2) (by simp [n4, T, T', st.symm, inj, e2])]
      simp [ek4, e1, e2]

section
variable {pl : Int → α} {src snk : α} {ls : List Ln} {s1 t1 m1 s2 t2 m2 : Int}
def L04 (pl : Int → α) (src snk : α) (ls : List Ln) (s1 t1 m1 s2 t2 m2 : Int) : Lf α := enF (lnF pl (fun _ _ => 0) ls) (es4 pl src snk s1 t1 m1 s2 t2 m2)
def ks4 (pl : Int → α) (src snk : α) (ls : List Ln) (s1 t1 s2 t2 : Int) : List (α × α) := lk pl ls ++ ek4 pl src snk s1 t1 s2 t2
theorem mem_ek4 {p : α × α} : p ∈ ek4 pl src snk s1 t1 s2 t2 ↔ (∃ v, (v = s1 ∨ v = s2) ∧ (p = (src, pl v) ∨ p = (pl v, src))) ∨ ∃ v, (v = t1 ∨ v = t2) ∧ (p = (pl v, snk) ∨ p = (snk, pl v)) := by
  unfold ek4
  by_cases e1 : s2 = s1 <;> by_cases e2 : t2 = t1 <;> simp [e1, e2] <;> grind
theorem L04_in (A : Ap pl src snk) (u v : Int) : L04 pl src snk ls s1 t1 m1 s2 t2 m2 (pl u) (pl v) = lnF pl (fun _ _ => 0) ls (pl u) (pl v) := by
  have S' : ∀ v, pl v ≠ src := fun v z => A.s v z.symm
  have T' : ∀ v, pl v ≠ snk := fun v z => A.t v z.symm
  simp [L04, enF, es4, upd, A.s, A.t, S', T']
theorem L04_out (A : Ap pl src snk) : (∀ v, L04 pl src snk ls s1 t1 m1 s2 t2 m2 src (pl v) = cap2 s1 m1 s2 m2 v) ∧ (∀ v, L04 pl src snk ls s1 t1 m1 s2 t2 m2 (pl v) src = 0) ∧ (∀ v, L04 pl src snk ls s1 t1 m1 s2 t2 m2 (pl v) snk = cap2 t1 m1 t2 m2 v) ∧ (∀ v, L04 pl src snk ls s1 t1 m1 s2 t2 m2 snk (pl v) = 0) ∧
    L04 pl src snk ls s1 t1 m1 s2 t2 m2 src snk = 0 ∧ L04 pl src snk ls s1 t1 m1 s2 t2 m2 snk src = 0 ∧ L04 pl src snk ls s1 t1 m1 s2 t2 m2 src src = 0 ∧ L04 pl src snk ls s1 t1 m1 s2 t2 m2 snk snk = 0 := by
  have S := A.s
  have T := A.t
  have S' : ∀ v, pl v ≠ src := fun v z => A.s v z.symm
  have T' : ∀ v, pl v ≠ snk := fun v z => A.t v z.symm
  have st := A.st
  have st' := A.st.symm
  have inj : ∀ a b, (pl a = pl b) = (a = b) := fun a b => propext ⟨A.inj a b, fun e => by rw [e]⟩
  have o1 : ∀ w, lnF pl (fun _ _ => 0) ls src w = 0 := fun w => lnF_out ls _ fun l _ => ⟨fun z => S _ z.1, fun z => S _ z.1⟩
  have o2 : ∀ w, lnF pl (fun _ _ => 0) ls w src = 0 := fun w => lnF_out ls _ fun l _ => ⟨fun z => S _ z.2, fun z => S _ z.2⟩
  have o3 : ∀ w, lnF pl (fun _ _ => 0) ls snk w = 0 := fun w => lnF_out ls _ fun l _ => ⟨fun z => T _ z.1, fun z => T _ z.1⟩
  have o4 : ∀ w, lnF pl (fun _ _ => 0) ls w snk = 0 := fun w => lnF_out ls _ fun l _ => ⟨fun z => T _ z.2, fun z => T _ z.2⟩
  refine ⟨fun v => ?_, fun v => ?_, fun v => ?_, fun v => ?_, ?_, ?_, ?_, ?_⟩
  · have e1 : ∀ a, (v = a) = (a = v) := fun a => propext ⟨Eq.symm, Eq.symm⟩
    by_cases h1 : s1 = v <;> by_cases h2 : s2 = v <;> simp [L04, enF, es4, upd, S, S', T, T', st, st', inj, o1, o2, o3, o4, cap2, e1, h1, h2] <;> grind
  · simp [L04, enF, es4, upd, S, S', T, T', st, st', inj, o1, o2, o3, o4]
  · have e1 : ∀ a, (v = a) = (a = v) := fun a => propext ⟨Eq.symm, Eq.symm⟩
    by_cases h1 : t1 = v <;> by_cases h2 : t2 = v <;> simp [L04, enF, es4, upd, S, S', T, T', st, st', inj, o1, o2, o3, o4, cap2, e1, h1, h2] <;> grind
  · simp [L04, enF, es4, upd, S, S', T, T', st, st', inj, o1, o2, o3, o4]
  · simp [L04, enF, es4, upd, S, S', T, T', st, st', inj, o1, o2, o3, o4]
  · simp [L04, enF, es4, upd, S, S', T, T', st, st', inj, o1, o2, o3, o4]
  · simp [L04, enF, es4, upd, S, S', T, T', st, st', inj, o1, o2, o3, o4]
  · simp [L04, enF, es4, upd, S, S', T, T', st, st', inj, o1, o2, o3, o4]
/-- the start, sound -/
structure St4 (pl : Int → α) (src snk : α) (ls : List Ln) (s1 t1 m1 s2 t2 m2 : Int) : Prop where
  ap : Ap pl src snk
  lo : LOk ls
  k1 : 0 ≤ m1
  k2 : 0 ≤ m2
variable (W : St4 pl src snk ls s1 t1 m1 s2 t2 m2)
include W
theorem kok4 : KOk (ks4 pl src snk ls s1 t1 s2 t2) := by
  have A := W.ap
  have e : ks4 pl src snk ls s1 t1 s2 t2 = enK (lnK pl [] ls) (es4 pl src snk s1 t1 m1 s2 t2 m2) := by
    rw [lnK_eq A.inj ls [] W.lo (by simp), List.nil_append, enK_eq A]
    rfl
  rw [e]
  have h1 : ∀ (qs : List Ln) (acc : List (α × α)), (∀ l ∈ qs, l.1 < l.2.1) → KOk acc → KOk (lnK pl acc qs) := by
    intro qs
    induction qs with
    | nil => intro acc _ h; exact h
    | cons l qs ih => intro acc hl h; exact ih _ (fun q hq => hl q (by simp [hq])) (h.add2 fun z => by have := A.inj _ _ z; have := hl l (by simp); omega)
  have h0 : KOk (lnK pl [] ls) := h1 ls [] W.lo.lt ⟨.nil, by simp, by simp⟩
  simp only [enK, es4, List.foldl_cons, List.foldl_nil]
  exact (((h0.add2 (A.s s1)).add2 (A.t t1).symm).add2 (A.s s2)).add2 (A.t t2).symm
theorem L04_pos (u v : α) : 0 ≤ L04 pl src snk ls s1 t1 m1 s2 t2 m2 u v := by
  have h1 : ∀ (qs : List Ln) (L : Lf α), (∀ l ∈ qs, 1 ≤ l.2.2) → (∀ u v, 0 ≤ L u v) → ∀ u v, 0 ≤ lnF pl L qs u v := by
    intro qs
    induction qs with
    | nil => intro L _ h; exact h
    | cons l qs ih =>
      intro L hl h
      refine ih _ (fun q hq => hl q (by simp [hq])) fun u v => ?_
      have := hl l (by simp)
      have := h u v
      simp only [upd]
      split
      · omega
      · split <;> omega
  have h0 : ∀ u v, 0 ≤ lnF pl (fun _ _ => 0) ls u v := h1 ls _ W.lo.r1 (by simp)
  have h2 : ∀ (L : Lf α) (a b : α) (m : Int), 0 ≤ m → (∀ u v, 0 ≤ L u v) → ∀ u v, 0 ≤ upd L a b (L a b + m) u v := fun L a b m hm h u v => by
    have := h a b
    have := h u v
    simp only [upd]
    split <;> omega
  simp only [L04, enF, es4, List.foldl_cons, List.foldl_nil]
  exact h2 _ _ _ _ W.k2 (h2 _ _ _ _ W.k2 (h2 _ _ _ _ W.k1 (h2 _ _ _ _ W.k1 h0))) u v
theorem FI0 : FI (ks4 pl src snk ls s1 t1 s2 t2) src snk (L04 pl src snk ls s1 t1 m1 s2 t2 m2) (L04 pl src snk ls s1 t1 m1 s2 t2 m2) := ⟨L04_pos W, fun _ _ => rfl, fun _ _ _ => rfl, rfl⟩
variable {L : Lf α} (I : FI (ks4 pl src snk ls s1 t1 s2 t2) src snk (L04 pl src snk ls s1 t1 m1 s2 t2 m2) L)
include I
theorem lines4 : ∀ l ∈ ls, L (pl l.1) (pl l.2.1) + L (pl l.2.1) (pl l.1) = 2 * l.2.2 ∧ 0 ≤ L (pl l.1) (pl l.2.1) ∧ 0 ≤ L (pl l.2.1) (pl l.1) := fun l hl => by
  have := I.sum (pl l.1) (pl l.2.1)
  rw [L04_in W.ap, L04_in W.ap, (lnF_in W.ap.inj ls _ W.lo l hl).1, (lnF_in W.ap.inj ls _ W.lo l hl).2] at this
  exact ⟨by omega, I.pos _ _, I.pos _ _⟩
theorem src4 (v : Int) : L src (pl v) + L (pl v) src = cap2 s1 m1 s2 m2 v := by
  have := I.sum src (pl v)
  rw [(L04_out W.ap).1, (L04_out W.ap).2.1] at this
  omega
theorem snk4 (v : Int) : L (pl v) snk + L snk (pl v) = cap2 t1 m1 t2 m2 v := by
  have := I.sum (pl v) snk
  rw [(L04_out W.ap).2.2.1, (L04_out W.ap).2.2.2.1] at this
  omega
omit I in
theorem out_ek {M : Lf α} (hs : ∀ v, v ≠ s1 → v ≠ s2 → M (pl v) src = 0) (ht : ∀ v, v ≠ t1 → v ≠ t2 → M (pl v) snk = 0) (v : Int) : out M (pl v) (ek4 pl src snk s1 t1 s2 t2) = M (pl v) src + M (pl v) snk := by
  have A := W.ap
  have inj : ∀ a b, (pl a = pl b) = (a = b) := fun a b => propext ⟨A.inj a b, fun e => by rw [e]⟩
  have a1 := hs v
  have a2 := ht v
  by_cases e1 : s2 = s1 <;> by_cases e2 : t2 = t1 <;> by_cases h1 : s1 = v <;> by_cases h2 : s2 = v <;> by_cases h3 : t1 = v <;> by_cases h4 : t2 = v <;> simp_all [ek4, out, inj, A.s, A.t] <;> grind
theorem ends4 : Ends pl src snk (ek4 pl src snk s1 t1 s2 t2) L (L04 pl src snk ls s1 t1 m1 s2 t2 m2) (cap2 s1 m1 s2 m2) (cap2 t1 m1 t2 m2) where
  o := out_ek W (fun v h1 h2 => by
    have := src4 W I v
    have := I.pos src (pl v)
    have := I.pos (pl v) src
    simp [cap2, h1.symm, h2.symm] at *
    omega) (fun v h1 h2 => by
    have := snk4 W I v
    have := I.pos snk (pl v)
    have := I.pos (pl v) snk
    simp [cap2, h1.symm, h2.symm] at *
    omega)
  o0 := fun v => by
    have q := L04_out (ls := ls) (s1 := s1) (t1 := t1) (m1 := m1) (s2 := s2) (t2 := t2) (m2 := m2) W.ap
    rw [out_ek W (fun v _ _ => q.2.1 v) (fun v h1 h2 => by rw [q.2.2.1]; simp [cap2, h1.symm, h2.symm]), q.2.1, q.2.2.1]
    omega
  s := src4 W I
  t := snk4 W I
theorem gain4 (v : Int) : gainZ pl L v ls = cap2 s1 m1 s2 m2 v - L src (pl v) - L snk (pl v) :=
  gain_is W.ap.inj (ends4 W I) (fun l hl => (lines4 W I l hl).1) (fun l hl => by rw [L04_in W.ap, L04_in W.ap]; exact lnF_in W.ap.inj ls _ W.lo l hl) v (I.o (pl v) (W.ap.s v).symm (W.ap.t v).symm)
omit W I in
theorem out_lk0 {M : Lf α} {w : α} (h : ∀ v, pl v ≠ w) : ∀ ls : List Ln, out M w (lk pl ls) = 0
  | [] => rfl
  | l :: ls => by simp [lk, out, h, out_lk0 h ls]
omit W I in
theorem out_app {M : Lf α} {w : α} : ∀ xs ys : List (α × α), out M w (xs ++ ys) = out M w xs + out M w ys
  | [], ys => by simp [out]
  | p :: xs, ys => by simp only [List.cons_append, out, out_app xs ys]; omega
omit I in
theorem out_src (M : Lf α) : out M src (ks4 pl src snk ls s1 t1 s2 t2) = two s1 s2 fun v => M src (pl v) := by
  have A := W.ap
  have S' : ∀ v, pl v ≠ src := fun v z => A.s v z.symm
  have st' := A.st.symm
  rw [ks4, out_app, out_lk0 S']
  by_cases e1 : s2 = s1 <;> by_cases e2 : t2 = t1
  · simp [ek4, out, two, e1, e2, S', st']
  · simp [ek4, out, two, e1, e2, S', st']
  · have e3 : s1 ≠ s2 := Ne.symm e1
    simp [ek4, out, two, e1, e2, e3, S', st']
  · have e3 : s1 ≠ s2 := Ne.symm e1
    simp [ek4, out, two, e1, e2, e3, S', st']
omit I in
theorem out_snk (M : Lf α) : out M snk (ks4 pl src snk ls s1 t1 s2 t2) = two t1 t2 fun v => M snk (pl v) := by
  have A := W.ap
  have S' : ∀ v, pl v ≠ snk := fun v z => A.t v z.symm
  have st' := A.st
  rw [ks4, out_app, out_lk0 S']
  by_cases e1 : s2 = s1 <;> by_cases e2 : t2 = t1
  · simp [ek4, out, two, e1, e2, S', st']
  · have e3 : t1 ≠ t2 := Ne.symm e2
    simp [ek4, out, two, e1, e2, e3, S', st']
  · simp [ek4, out, two, e1, e2, S', st']
  · have e3 : t1 ≠ t2 := Ne.symm e2
    simp [ek4, out, two, e1, e2, e3, S', st']
/-- all sent: the gains are the dues -/
theorem sent4 (h1 : L src (pl s1) = 0) (h2 : L src (pl s2) = 0) (v : Int) : gainZ pl L v ls = cap2 s1 m1 s2 m2 v - cap2 t1 m1 t2 m2 v := by
  have q := L04_out (ls := ls) (s1 := s1) (t1 := t1) (m1 := m1) (s2 := s2) (t2 := t2) (m2 := m2) W.ap
  have so := I.so
  rw [out_src W, out_snk W, out_src W, out_snk W] at so
  have e0 : two s1 s2 (fun v => L04 pl src snk ls s1 t1 m1 s2 t2 m2 src (pl v)) = m1 + m2 := by
    simp only [two, q.1, cap2]
    by_cases e : s1 = s2
    · simp [e]
    · have e' : ¬ s2 = s1 := fun z => e z.symm
      simp [e, e']
  have e1 : two t1 t2 (fun v => L04 pl src snk ls s1 t1 m1 s2 t2 m2 snk (pl v)) = 0 := by
    simp only [two, q.2.2.2.1]
    split <;> rfl
  rw [e0, e1, Int.add_zero] at so
  have f := full (s1 := s1) (t1 := t1) (m1 := m1) (s2 := s2) (t2 := t2) (m2 := m2) (p := fun v => L src (pl v)) (q := fun v => L snk (pl v)) (fun v => ⟨I.pos _ _, by have := src4 W I v; have := I.pos (pl v) src; omega⟩) (fun v => ⟨I.pos _ _, by have := snk4 W I v; have := I.pos (pl v) snk; omega⟩) so h1 h2 v
  rw [gain4 W I v]
  have := f.1
  have := f.2
  skip
  omega
omit W I in
/-- the places come to -/
def come (pl : Int → α) (f : Fo α) (n : Nat) : List Int := (rangeI n).filter fun v => decide (pl v ∈ f.map (·.1))
omit W I in
theorem mem_come {f : Fo α} {n : Nat} (v : Int) : v ∈ come pl f n ↔ (0 ≤ v ∧ v < n) ∧ pl v ∈ f.map (·.1) := by
  rw [come, List.mem_filter, decide_eq_true_eq]
  refine and_congr ?_ Iff.rfl
  simp only [rangeI, List.mem_map, List.mem_range]
  constructor
  · rintro ⟨k, hk, rfl⟩
    omega
  · rintro ⟨h1, h2⟩
    exact ⟨v.toNat, by omega, by omega⟩
omit W I in
theorem come_ok (f : Fo α) (n : Nat) : (come pl f n).Pairwise (· < ·) ∧ ∀ v ∈ come pl f n, 0 ≤ v ∧ v < n := cuts_ok (filter_cuts _ n)
omit W I in
theorem come_fm {β : Type} (g : Int → β) (f : Fo α) (n : Nat) : (List.range n).filterMap (fun k : Nat => if (k : Int) ∈ come pl f n then some (g k) else none) = (come pl f n).map g := by
  have h : ∀ (q : Int → Bool) (l : List Nat), l.filterMap (fun k : Nat => if q k = true then some (g k) else none) = ((l.map fun k : Nat => (k : Int)).filter q).map g := by
    intro q l
    induction l with
    | nil => rfl
    | cons k l ih =>
      simp only [List.filterMap_cons, List.map_cons, List.filter_cons]
      cases q k
      · simpa using ih
      · simpa using ih
  have e : come pl f n = ((List.range n).map fun k : Nat => (k : Int)).filter fun v => decide (v ∈ come pl f n) := by
    have e0 : come pl f n = (rangeI n).filter fun v => decide (pl v ∈ f.map (·.1)) := rfl
    conv => lhs; rw [e0]
    refine List.filter_congr fun v hv => ?_
    rw [decide_eq_decide]
    constructor
    · intro z
      rw [e0, List.mem_filter]
      exact ⟨hv, by simpa using z⟩
    · intro z
      exact ((mem_come v).mp z).2
  conv => rhs; rw [e]
  rw [← h]
  congr 1
  funext k
  simp
/-- what is come to bars -/
theorem cut4 {f : Fo α} {n : Nat} (hr : ∀ l ∈ ls, (0 ≤ l.1 ∧ l.1 < n) ∧ 0 ≤ l.2.1 ∧ l.2.1 < n) (hw : (0 ≤ s1 ∧ s1 < n) ∧ 0 ≤ s2 ∧ s2 < n) (hs : src ∈ f.map (·.1)) (ht : snk ∉ f.map (·.1)) (hc : ∀ u ∈ f.map (·.1), Closed L (ks4 pl src snk ls s1 t1 s2 t2) f u)
    (hx : 0 < L src (pl s1) ∨ 0 < L src (pl s2)) : roomP (come pl f n) ls < partW (come pl f n) (s1, t1, m1) + partW (come pl f n) (s2, t2, m2) := by
  have mem : ∀ v : Int, v ∈ come pl f n ↔ (0 ≤ v ∧ v < n) ∧ pl v ∈ f.map (·.1) := mem_come
  have kl : ∀ l ∈ ls, (pl l.1, pl l.2.1) ∈ ks4 pl src snk ls s1 t1 s2 t2 ∧ (pl l.2.1, pl l.1) ∈ ks4 pl src snk ls s1 t1 s2 t2 := fun l hl =>
    ⟨List.mem_append_left _ (mem_lk.mpr ⟨l, hl, .inl rfl⟩), List.mem_append_left _ (mem_lk.mpr ⟨l, hl, .inr rfl⟩)⟩
  refine bars (pl := pl) (L := L) (p := fun v => L src (pl v)) (q := fun v => L snk (pl v)) (cuts_nodup (filter_cuts _ n)) (fun l hl => (lines4 W I l hl).1) (fun l hl => ⟨fun h1 h2 => ?_, fun h1 h2 => ?_⟩) (gain4 W I) (fun v hv => ?_) (fun v => I.pos _ _) ?_ W.k1 W.k2
  · have h1 := (mem _).mp h1
    have z : ¬ 0 < L (pl l.1) (pl l.2.1) := fun z => h2 ((mem _).mpr ⟨(hr l hl).2, hc _ h1.2 _ (kl l hl).1 z⟩)
    have := I.pos (pl l.1) (pl l.2.1)
    omega
  · have h1 := (mem _).mp h1
    have z : ¬ 0 < L (pl l.2.1) (pl l.1) := fun z => h2 ((mem _).mpr ⟨(hr l hl).1, hc _ h1.2 _ (kl l hl).2 z⟩)
    have := I.pos (pl l.2.1) (pl l.1)
    omega
  · have hv := (mem _).mp hv
    have e := snk4 W I v
    have z : ¬ 0 < L (pl v) snk := fun z => ht (hc _ hv.2 _ (List.mem_append_right _ (mem_ek4.mpr (.inr ⟨v, ?_, .inl rfl⟩))) z)
    · have := I.pos (pl v) snk
      have := I.pos snk (pl v)
      skip
      omega
    · by_cases h1 : v = t1
      · exact .inl h1
      · by_cases h2 : v = t2
        · exact .inr h2
        · have := I.pos snk (pl v)
          simp [cap2, Ne.symm h1, Ne.symm h2] at e
          omega
  · rcases hx with h | h
    · exact ⟨s1, (mem _).mpr ⟨hw.1, hc _ hs _ (List.mem_append_right _ (mem_ek4.mpr (.inl ⟨s1, .inl rfl, .inl rfl⟩))) h⟩, h⟩
    · exact ⟨s2, (mem _).mpr ⟨hw.2, hc _ hs _ (List.mem_append_right _ (mem_ek4.mpr (.inl ⟨s2, .inr rfl, .inl rfl⟩))) h⟩, h⟩
end
end
end M40

/-! # The row of places that leads to the goal. -/
namespace M40
section
variable {α : Type} [DecidableEq α] {L : Lf α} {ks : List (α × α)} {src snk : α} {f : Fo α}
structure RowOk (L : Lf α) (ks : List (α × α)) (f : Fo α) (snk : α) (x : α) (r : List α) : Prop where
  m : ∀ y ∈ x :: r, y ∈ f.map (·.1)
  k : ∀ p ∈ pairs (x :: r), p ∈ ks ∧ 0 < L p.1 p.2
  o : (x :: r).Pairwise fun a b => pos f a < pos f b
  l : lastD x r = snk
theorem RowOk.start (h : snk ∈ f.map (·.1)) : RowOk L ks f snk snk [] := ⟨by simpa using h, by simp [pairs], by simp, rfl⟩
theorem RowOk.step (t : Tr L ks src f) {x : α} {r : List α} (h : RowOk L ks f snk x r) (n : x ≠ src) : ∃ u, f.lookup x = some (some u) ∧ RowOk L ks f snk u (x :: r) ∧ pos f u < pos f x := by
  obtain ⟨u, e⟩ := t.has_up x (h.m x (by simp)) n
  obtain ⟨h1, h2, h3, h4⟩ := t.up x u e
  refine ⟨u, e, ⟨fun y hy => ?_, fun p hp => ?_, ?_, h.l⟩, h4⟩
  · rcases List.mem_cons.mp hy with rfl | hy
    · exact h3
    · exact h.m y hy
  · simp only [pairs, List.mem_cons] at hp
    rcases hp with rfl | hp
    · exact ⟨h1, h2⟩
    · exact h.k p hp
  · refine List.pairwise_cons.mpr ⟨fun b hb => ?_, h.o⟩
    rcases List.mem_cons.mp hb with rfl | hb
    · exact h4
    · have := (List.pairwise_cons.mp h.o).1 b hb
      omega
theorem RowOk.nodup {x : α} {r : List α} (h : RowOk L ks f snk x r) : (x :: r).Nodup := h.o.imp fun hlt e => by rw [e] at hlt; omega
theorem RowOk.len {x : α} {r : List α} (h : RowOk L ks f snk x r) : (x :: r).length ≤ f.length := by
  have := nodup_len h.nodup h.m
  simpa using this
theorem pairs_zip : ∀ (x : α) (r : List α), pairs (x :: r) = List.zip (x :: r) r
  | x, [] => by simp [pairs]
  | x, y :: r => by
    rw [pairs, pairs_zip y r]
    rfl
end
end M40

/-! # Fractions: what the defs compute. -/
namespace Dy
variable [Tn]
open PySem PySem.Spec PyProof.Rows L2
/-! ### readings with truths -/
@[simp] def onBl : D → (Bool → Prop) → Prop
  | .bl b, P => P b
  | _, _ => False
theorem ex_bl (x : D) (P : Bool → Prop) : (∃ k, x = .bl k ∧ P k) = onBl x P := by
  cases x <;> simp
@[simp] theorem dTest_eq (f : DE) (ρ : List Sl) (P : Bool → Prop) : dTest f ρ P = f ρ fun x => onBl x P := by
  unfold dTest
  exact congrArg (f ρ) (funext fun x => ex_bl x P)
@[simp] theorem dAnd_eq (f g : DE) (ρ : List Sl) (P : D → Prop) : dAnd f g ρ P = f ρ fun x => onBl x fun c => if c = true then g ρ P else P (.bl false) := by
  unfold dAnd
  exact congrArg (f ρ) (funext fun x => ex_bl x _)
@[simp] theorem dOr_eq (f g : DE) (ρ : List Sl) (P : D → Prop) : dOr f g ρ P = f ρ fun x => onBl x fun c => if c = true then P (.bl true) else g ρ P := by
  unfold dOr
  exact congrArg (f ρ) (funext fun x => ex_bl x _)
@[simp] theorem dNot_eq (f : DE) (ρ : List Sl) (P : D → Prop) : dNot f ρ P = f ρ fun x => onBl x fun c => P (.bl (!c)) := by
  unfold dNot
  exact congrArg (f ρ) (funext fun x => ex_bl x _)
@[simp] theorem dChain_eq (h h' : D → D → (D → Prop) → Prop) (f g k : DE) (ρ : List Sl) (P : D → Prop) : dChain h h' f g k ρ P = f ρ fun x => g ρ fun y => h x y fun z => onBl z fun c => if c = true then k ρ fun w' => h' y w' P else P (.bl false) := by
  unfold dChain
  exact congrArg (f ρ) (funext fun x => congrArg (g ρ) (funext fun y => congrArg (h x y) (funext fun z => ex_bl z _)))
/-- a fraction as data -/
def fr (q : Rat) : D := .tup [.int q.num, .int q.den]
@[irreducible] def bD : Nat := 2 ^ 4000
@[irreducible] def bN : Nat := 2 ^ 100000
theorem bD_eq : bD = 2 ^ 4000 := by unfold bD; rfl
theorem bN_eq : bN = 2 ^ 100000 := by unfold bN; rfl
/-- small enough to be reckoned with -/
structure Sz (q : Rat) : Prop where
  den : q.den < bD
  num : q.num.natAbs < bN
@[simp] theorem fr_inj (p q : Rat) : fr p = fr q ↔ p = q := by
  constructor
  · intro h
    unfold fr at h
    have h1 := D.tup.inj h
    have h2 : D.int p.num = D.int q.num := (List.cons.inj h1).1
    have h3 : D.int p.den = D.int q.den := (List.cons.inj (List.cons.inj h1).2).1
    exact Rat.ext (D.int.inj h2) (Int.ofNat.inj (D.int.inj h3))
  · intro h; rw [h]
theorem natAbs_lt_pow (a : Nat) : ((a : Int)).natAbs = a := by simp
theorem mulOk {i j : Int} (hi : i.natAbs < bN) (hj : j.natAbs < bN) : IntMulOk i j := by
  rw [bN_eq] at hi hj
  exact (wide_mul hi hj (by decide) (by decide) (by decide)).ok
theorem bD_le_bN : bD ≤ bN := by
  rw [bD_eq, bN_eq]
  exact Nat.pow_le_pow_right (by decide) (by decide)
theorem Sz.denN {q : Rat} (h : Sz q) : ((q.den : Nat) : Int).natAbs < bN := by
  have := h.den
  have := bD_le_bN
  simp
  omega
@[simp] theorem atI0 {α : Type} (a : α) (l : List α) : atI (a :: l) 0 = some a := atI_nat (j := 0) rfl
@[simp] theorem atI1 {α : Type} (a b : α) (l : List α) : atI (a :: b :: l) 1 = some b := atI_nat (j := 1) rfl
@[simp] theorem atI2 {α : Type} (a b c : α) (l : List α) : atI (a :: b :: c :: l) 2 = some c := atI_nat (j := 2) rfl
/-! ### common -/
def sp_common : Spc := fun ds Q _ => ∃ a b : Nat, ds = [.int a, .int b] ∧ Q (.int (Nat.gcd a b : Nat))
theorem len_common : ∀ ds Q Z, sp_common ds Q Z → ds.length = 2 := fun ds Q Z ⟨a, b, e, _⟩ => by rw [e]; rfl
def g_common : DS := (dSeq2 (dWhile (dTest (dOp (cmpD fun i j => decide (j < i)) (dVar 1) (dC (.int 0))))
    (dPar 0 1 (dCons (dVar 1) (dCons (dOp modD (dVar 0) (dVar 1)) dNil))))
    (dRet (dVar 0)))
theorem pure_common : ∀ ds Q Z, sp_common ds Q Z → g_common { nx := fun _ => Q .non, rt := Q } (startS ["one", "other"] ds) := by
  rintro ds Q Z ⟨a, b, rfl, h⟩
  simp only [g_common, dSeq2, dWhile]
  refine ⟨fun n ρ => ∃ x y : Nat, ρ = [.d (.int x), .d (.int y)] ∧ Nat.gcd x y = Nat.gcd a b ∧ y = n, ⟨b, a, b, rfl, rfl, rfl⟩, ?_⟩
  rintro n ρ ⟨x, y, rfl, e, rfl⟩
  by_cases hy : 0 < y
  · simp [hy, and_assoc]
    refine ⟨x % y, Nat.mod_lt _ hy, y, rfl, by simp, ?_⟩
    rw [Nat.gcd_comm, ← Nat.gcd_rec, Nat.gcd_comm]
    exact e
  · have hz : y = 0 := by omega
    subst hz
    have e2 : x = Nat.gcd a b := by simpa using e
    simpa [e2] using h
/-! ### fraction -/
def sp_fraction : Spc := fun ds Q _ => ∃ (n : Int) (d : Nat), ds = [.int n, .int d] ∧ 0 < d ∧ d < 2 ^ 9000 ∧ Q (fr (mkRat n d))
theorem len_fraction : ∀ ds Q Z, sp_fraction ds Q Z → ds.length = 2 := fun ds Q Z ⟨a, b, e, _⟩ => by rw [e]; rfl
def g_fraction : DS := (dSeq2 (dSet 2 (dCall sp_common (dCons (dCB absD (dCons (dVar 0) dNil)) (dCons (dVar 1) dNil))))
    (dRet (dTup (dCons (dOp fdivD (dVar 0) (dVar 2)) (dCons (dOp fdivD (dVar 1) (dVar 2)) dNil)))))
@[simp] theorem sp_common_at (a b : Nat) (Q : D → Prop) (Z : Addr → Prop) : sp_common [.int a, .int b] Q Z ↔ Q (.int (Nat.gcd a b : Nat)) := by
  constructor
  · rintro ⟨x, y, e, h⟩
    have e1 : (a : Int) = x ∧ (b : Int) = y := by simpa using e
    rw [show a = x by omega, show b = y by omega]
    exact h
  · intro h
    exact ⟨a, b, rfl, h⟩
theorem divOk {i : Int} {g d : Nat} (hg : 0 < g) (h : g ≤ d) (hd : d < 2 ^ 9000) : CDivW i (g : Int) := wide_div (by omega) (b := 9000) (by simp; omega) (by decide) (by decide)
theorem fr_mkRat (n : Int) (d : Nat) (hd : 0 < d) : fr (mkRat n d) = .tup [.int (n / (Nat.gcd n.natAbs d : Nat)), .int ((d : Int) / (Nat.gcd n.natAbs d : Nat))] := by
  unfold fr
  have h : d ≠ 0 := by omega
  rw [Rat.num_mkRat, Rat.den_mkRat, if_neg h, if_neg h, Nat.gcd_comm]
  simp
theorem pure_fraction : ∀ ds Q Z, sp_fraction ds Q Z → g_fraction { nx := fun _ => Q .non, rt := Q } (startS ["top", "under", "part"] ds) := by
  rintro ds Q Z ⟨n, d, rfl, hd, hs, h⟩
  have hg : 0 < Nat.gcd n.natAbs d := Nat.gcd_pos_of_pos_right _ hd
  have hl : Nat.gcd n.natAbs d ≤ d := Nat.gcd_le_right _ hd
  rw [fr_mkRat n d hd] at h
  simp [g_fraction]
  exact ⟨divOk hg hl hs, divOk hg hl hs, h⟩
@[simp] theorem sp_fraction_at (n : Int) (d : Nat) (Q : D → Prop) (Z : Addr → Prop) : sp_fraction [.int n, .int d] Q Z ↔ 0 < d ∧ d < 2 ^ 9000 ∧ Q (fr (mkRat n d)) := by
  constructor
  · rintro ⟨x, y, e, h⟩
    have e1 : n = x ∧ (d : Int) = y := by simpa using e
    rw [e1.1, show d = y by omega]
    exact h
  · intro h
    exact ⟨n, d, rfl, h⟩
theorem den_prod {p q : Rat} (hp : p.den < bD) (hq : q.den < bD) : p.den * q.den < 2 ^ 9000 := by
  rw [bD_eq] at hp hq
  have h1 : p.den * q.den < 2 ^ 4000 * 2 ^ 4000 := Nat.mul_lt_mul'' hp hq
  rw [← Nat.pow_add] at h1
  exact Nat.lt_of_lt_of_le h1 (Nat.pow_le_pow_right (by decide) (by decide))
theorem den_pos2 (p q : Rat) : 0 < p.den * q.den := Nat.mul_pos p.den_pos q.den_pos
/-! ### plus, minus, times, is_less -/
def sp_plus : Spc := fun ds Q _ => ∃ p q : Rat, ds = [fr p, fr q] ∧ Sz p ∧ Sz q ∧ Q (fr (p + q))
def sp_minus : Spc := fun ds Q _ => ∃ p q : Rat, ds = [fr p, fr q] ∧ Sz p ∧ Sz q ∧ Q (fr (p - q))
def sp_times : Spc := fun ds Q _ => ∃ p q : Rat, ds = [fr p, fr q] ∧ Sz p ∧ Sz q ∧ Q (fr (p * q))
def sp_is_less : Spc := fun ds Q _ => ∃ p q : Rat, ds = [fr p, fr q] ∧ Sz p ∧ Sz q ∧ Q (.bl (decide (p < q)))
theorem len1 {φ : Spc} (h : ∀ ds Q Z, φ ds Q Z → ∃ x, ds = [x]) : ∀ ds Q Z, φ ds Q Z → ds.length = 1 := fun ds Q Z q => by
  obtain ⟨x, e⟩ := h ds Q Z q
  rw [e]; rfl
theorem len2 {φ : Spc} (h : ∀ ds Q Z, φ ds Q Z → ∃ x y, ds = [x, y]) : ∀ ds Q Z, φ ds Q Z → ds.length = 2 := fun ds Q Z q => by
  obtain ⟨x, y, e⟩ := h ds Q Z q
  rw [e]; rfl
theorem len3 {φ : Spc} (h : ∀ ds Q Z, φ ds Q Z → ∃ x y z, ds = [x, y, z]) : ∀ ds Q Z, φ ds Q Z → ds.length = 3 := fun ds Q Z q => by
  obtain ⟨x, y, z, e⟩ := h ds Q Z q
  rw [e]; rfl
theorem len4 {φ : Spc} (h : ∀ ds Q Z, φ ds Q Z → ∃ x y z u, ds = [x, y, z, u]) : ∀ ds Q Z, φ ds Q Z → ds.length = 4 := fun ds Q Z q => by
  obtain ⟨x, y, z, u, e⟩ := h ds Q Z q
  rw [e]; rfl
theorem len_plus : ∀ ds Q Z, sp_plus ds Q Z → ds.length = 2 := len2 (fun ds Q Z ⟨p, q, e, _⟩ => ⟨_, _, e⟩)
theorem len_minus : ∀ ds Q Z, sp_minus ds Q Z → ds.length = 2 := len2 (fun ds Q Z ⟨p, q, e, _⟩ => ⟨_, _, e⟩)
theorem len_times : ∀ ds Q Z, sp_times ds Q Z → ds.length = 2 := len2 (fun ds Q Z ⟨p, q, e, _⟩ => ⟨_, _, e⟩)
theorem len_is_less : ∀ ds Q Z, sp_is_less ds Q Z → ds.length = 2 := len2 (fun ds Q Z ⟨p, q, e, _⟩ => ⟨_, _, e⟩)
section
variable (p q : Rat) (Q : D → Prop) (Z : Addr → Prop)
@[simp] theorem sp_plus_at : sp_plus [fr p, fr q] Q Z ↔ Sz p ∧ Sz q ∧ Q (fr (p + q)) :=
  ⟨fun ⟨x, y, e, h⟩ => by
    have e1 : p = x ∧ q = y := by simpa using e
    rw [e1.1, e1.2]; exact h, fun h => ⟨p, q, rfl, h⟩⟩
@[simp] theorem sp_minus_at : sp_minus [fr p, fr q] Q Z ↔ Sz p ∧ Sz q ∧ Q (fr (p - q)) :=
  ⟨fun ⟨x, y, e, h⟩ => by
    have e1 : p = x ∧ q = y := by simpa using e
    rw [e1.1, e1.2]; exact h, fun h => ⟨p, q, rfl, h⟩⟩
@[simp] theorem sp_times_at : sp_times [fr p, fr q] Q Z ↔ Sz p ∧ Sz q ∧ Q (fr (p * q)) :=
  ⟨fun ⟨x, y, e, h⟩ => by
    have e1 : p = x ∧ q = y := by simpa using e
    rw [e1.1, e1.2]; exact h, fun h => ⟨p, q, rfl, h⟩⟩
@[simp] theorem sp_is_less_at : sp_is_less [fr p, fr q] Q Z ↔ Sz p ∧ Sz q ∧ Q (.bl (decide (p < q))) :=
  ⟨fun ⟨x, y, e, h⟩ => by
    have e1 : p = x ∧ q = y := by simpa using e
    rw [e1.1, e1.2]; exact h, fun h => ⟨p, q, rfl, h⟩⟩
end
def g_plus : DS := (dRet (dCall sp_fraction (dCons (dOp addD (dOp mulD (dOp ixD (dVar 0) (dC (.int 0))) (dOp ixD (dVar 1) (dC (.int 1)))) (dOp mulD (dOp ixD (dVar 1) (dC (.int 0))) (dOp ixD (dVar 0) (dC (.int 1))))) (dCons (dOp mulD (dOp ixD (dVar 0) (dC (.int 1))) (dOp ixD (dVar 1) (dC (.int 1)))) dNil))))
def g_minus : DS := (dRet (dCall sp_fraction (dCons (dOp subD (dOp mulD (dOp ixD (dVar 0) (dC (.int 0))) (dOp ixD (dVar 1) (dC (.int 1)))) (dOp mulD (dOp ixD (dVar 1) (dC (.int 0))) (dOp ixD (dVar 0) (dC (.int 1))))) (dCons (dOp mulD (dOp ixD (dVar 0) (dC (.int 1))) (dOp ixD (dVar 1) (dC (.int 1)))) dNil))))
def g_times : DS := (dRet (dCall sp_fraction (dCons (dOp mulD (dOp ixD (dVar 0) (dC (.int 0))) (dOp ixD (dVar 1) (dC (.int 0)))) (dCons (dOp mulD (dOp ixD (dVar 0) (dC (.int 1))) (dOp ixD (dVar 1) (dC (.int 1)))) dNil))))
def g_is_less : DS := (dRet (dOp ltD (dOp mulD (dOp ixD (dVar 0) (dC (.int 0))) (dOp ixD (dVar 1) (dC (.int 1)))) (dOp mulD (dOp ixD (dVar 1) (dC (.int 0))) (dOp ixD (dVar 0) (dC (.int 1))))))
theorem cast2 (a b : Nat) : ((a : Int) * (b : Int)) = ((a * b : Nat) : Int) := by simp
theorem pure_plus : ∀ ds Q Z, sp_plus ds Q Z → g_plus { nx := fun _ => Q .non, rt := Q } (startS ["one", "other"] ds) := by
  rintro ds Q Z ⟨p, q, rfl, hp, hq, h⟩
  rw [Rat.add_def'] at h
  simp [g_plus, fr, cast2, -Int.natCast_mul, mulOk hp.num hq.denN, mulOk hq.num hp.denN, mulOk hp.denN hq.denN, den_pos2, den_prod hp.den hq.den]
  exact h
theorem pure_minus : ∀ ds Q Z, sp_minus ds Q Z → g_minus { nx := fun _ => Q .non, rt := Q } (startS ["one", "other"] ds) := by
  rintro ds Q Z ⟨p, q, rfl, hp, hq, h⟩
  rw [Rat.sub_def'] at h
  simp [g_minus, fr, cast2, -Int.natCast_mul, mulOk hp.num hq.denN, mulOk hq.num hp.denN, mulOk hp.denN hq.denN, den_pos2, den_prod hp.den hq.den]
  exact h
theorem pure_times : ∀ ds Q Z, sp_times ds Q Z → g_times { nx := fun _ => Q .non, rt := Q } (startS ["one", "other"] ds) := by
  rintro ds Q Z ⟨p, q, rfl, hp, hq, h⟩
  rw [Rat.mul_def'] at h
  simp [g_times, fr, cast2, -Int.natCast_mul, mulOk hp.num hq.num, mulOk hp.denN hq.denN, den_pos2, den_prod hp.den hq.den]
  exact h
theorem pure_is_less : ∀ ds Q Z, sp_is_less ds Q Z → g_is_less { nx := fun _ => Q .non, rt := Q } (startS ["one", "other"] ds) := by
  rintro ds Q Z ⟨p, q, rfl, hp, hq, h⟩
  simp only [Rat.lt_iff] at h
  simp [g_is_less, fr, mulOk hp.num hq.denN, mulOk hq.num hp.denN]
  exact h
end Dy

/-! # Tools for reading readings. -/
namespace Dy
variable [Tn]
open PySem PySem.Spec PyProof.Rows L2
@[simp] theorem free_lst (l : List D) : (OB.lst l).free := trivial
@[simp] theorem free_dic (ks : List Key) (l : List D) : (OB.dic ks l).free := trivial
/-! ### equality -/
@[simp] theorem eqv_int (i j : Int) : eqv (.int i) (.int j) = decide (i = j) := by
  simp [eqv, toPy, PyData.eqv, Bool.beq_eq_decide_eq]
@[simp] theorem eqv_str (x y : Str) : eqv (.str x) (.str y) = (x == y) := by simp [eqv, toPy, PyData.eqv]
@[simp] theorem eqv_bl (a b : Bool) : eqv (.bl a) (.bl b) = (a == b) := by simp [eqv, toPy, PyData.eqv]
@[simp] theorem eqv_bl_str (a : Bool) (y : Str) : eqv (.bl a) (.str y) = false := by simp [eqv, toPy, PyData.eqv]
@[simp] theorem eqv_lst_str (a : List D) (y : Str) : eqv (.lst a) (.str y) = false := by simp [eqv, toPy, PyData.eqv]
@[simp] theorem eqv_str_lst (a : List D) (y : Str) : eqv (.str y) (.lst a) = false := by simp [eqv, toPy, PyData.eqv]
@[simp] theorem eqv_non_str (y : Str) : eqv .non (.str y) = false := by simp [eqv, toPy, PyData.eqv]
theorem eqv_self {d : D} (h : lay 60 d = true) : eqv d d = true := PySem.SeqAt.eqv_refl _ (lay_ok 60 d h).1
theorem eqvL_len : ∀ (a b : List D), PyData.eqvAll (toPyL a) (toPyL b) = (decide (a.length = b.length) && (List.zip a b).all fun p => eqv p.1 p.2)
  | [], [] => by simp [toPyL, PyData.eqvAll]
  | [], _ :: _ => by simp [toPyL, PyData.eqvAll]
  | _ :: _, [] => by simp [toPyL, PyData.eqvAll]
  | x :: a, y :: b => by
    rw [toPyL, toPyL, PyData.eqvAll, eqvL_len a b, List.zip_cons_cons, List.all_cons]
    simp only [eqv, List.length_cons, Nat.add_right_cancel_iff]
    cases decide (a.length = b.length) <;> simp
theorem eqv_lst (a b : List D) : eqv (.lst a) (.lst b) = (decide (a.length = b.length) && (List.zip a b).all fun p => eqv p.1 p.2) := by
  rw [← eqvL_len]; simp [eqv, toPy, PyData.eqv]
theorem eqv_tup (a b : List D) : eqv (.tup a) (.tup b) = (decide (a.length = b.length) && (List.zip a b).all fun p => eqv p.1 p.2) := by
  rw [← eqvL_len]; simp [eqv, toPy, PyData.eqv]
@[simp] theorem eqv_lst_nil (a : List D) : eqv (.lst a) (.lst []) = a.isEmpty := by
  rw [eqv_lst]; cases a <;> simp
@[simp] theorem eqv_fr (p q : Rat) : eqv (fr p) (fr q) = decide (p = q) := by
  unfold fr
  rw [eqv_tup]
  simp
  rw [Bool.eq_iff_iff]
  simp
  constructor
  · rintro ⟨h1, h2⟩
    exact Rat.ext h1 (by omega)
  · rintro rfl
    exact ⟨rfl, rfl⟩
@[simp] theorem eqv_frs (p q : List Rat) : eqv (.lst (p.map fr)) (.lst (q.map fr)) = decide (p = q) := by
  rw [eqv_lst]
  induction p generalizing q with
  | nil => cases q <;> simp
  | cons a p ih =>
    cases q with
    | nil => simp
    | cons b q =>
      have e := ih q
      simp only [List.length_map] at e
      simp only [List.map_cons, List.length_cons, List.zip_cons_cons, List.all_cons, eqv_fr, List.length_map, Nat.add_right_cancel_iff]
      rw [Bool.eq_iff_iff]
      rw [Bool.eq_iff_iff] at e
      simp only [Bool.and_eq_true, decide_eq_true_eq, List.cons.injEq] at e ⊢
      grind
@[simp] theorem lay_int (n : Nat) (i : Int) : lay n (.int i) = true := by cases n <;> rfl
@[simp] theorem lay_bl (n : Nat) (b : Bool) : lay n (.bl b) = true := by cases n <;> rfl
@[simp] theorem lay_non (n : Nat) : lay n .non = true := by cases n <;> rfl
@[simp] theorem lay_str (n : Nat) (x : Str) : lay n (.str x) = PyData.strOk x := by cases n <;> rfl
@[simp] theorem lay_tup (n : Nat) (l : List D) : lay (n + 1) (.tup l) = l.all (lay n) := rfl
@[simp] theorem lay_lst (n : Nat) (l : List D) : lay (n + 1) (.lst l) = l.all (lay n) := rfl
@[simp] theorem lay_scr (n : Nat) (l : List Int) : lay (n + 1) (.scr l) = true := rfl
@[simp] theorem lay_fr (n : Nat) (q : Rat) : lay (n + 1) (fr q) = true := by simp [fr]
/-! ### parts of lists -/
theorem atI_of {α : Type} {l : List α} {n : Nat} {a : α} (h : l[n]? = some a) : atI l (n : Int) = some a := atI_nat h
@[simp] theorem cut_from1 {α : Type} (l : List α) : cutD l (some 1) none = l.drop 1 := by
  unfold cutD
  have e : HT.sIx l.length 0 (some 1) = min 1 l.length := HT.sIx_nat _ _ 1
  rw [HT.sIx_none, e]
  cases l with
  | nil => rfl
  | cons a l =>
    have e2 : min 1 (a :: l).length = 1 := by simp
    rw [e2]
    simp
theorem cut_to {α : Type} (l : List α) (k : Nat) : cutD l none (some (k : Int)) = l.take k := by
  unfold cutD
  rw [HT.sIx_nat, HT.sIx_none]
  simp only [List.drop_zero, Nat.sub_zero]
  by_cases h : k ≤ l.length
  · rw [Nat.min_eq_left h]
  · rw [Nat.min_eq_right (by omega), List.take_of_length_le (Nat.le_refl _), List.take_of_length_le (by omega)]
@[simp] theorem cut_to1 {α : Type} (l : List α) : cutD l none (some 1) = l.take 1 := cut_to l 1
@[simp] theorem cut_to2 {α : Type} (l : List α) : cutD l none (some 2) = l.take 2 := cut_to l 2
theorem notwhole2 {α : Type} {l : List α} (h : l.length = 3) : ¬ (HT.sIx l.length 0 none = 0 ∧ HT.sIx l.length l.length (some 2) = l.length) := by
  have e : HT.sIx l.length l.length (some 2) = min 2 l.length := HT.sIx_nat _ _ 2
  rw [e, h]
  decide
/-! ### comprehensions -/
theorem lc_fm {g : DG} {tt : DT} {te : DE} {ρ : List Sl} {items : List D} {P : List D → Prop} (F : D → Option D) (h : ∀ x ∈ items, ∀ (Q : Option D → Prop), Q (F x) → g x ρ fun ρ2 => tt ρ2 fun b => if b = true then te ρ2 (fun y => Q (some y)) else Q none) (p : P (items.filterMap F)) : lcI g tt te ρ items P := by
  refine ⟨fun rest acc => ∃ done, done ++ rest = items ∧ acc = done.filterMap F, ⟨[], rfl, rfl⟩, ?_, ?_⟩
  · rintro x xs acc ⟨done, e, rfl⟩
    have hx : x ∈ items := by rw [← e]; simp
    have q := h x hx (fun o => ∃ done', done' ++ xs = items ∧ (match o with | some y => done.filterMap F ++ [y] | none => done.filterMap F) = done'.filterMap F) ⟨done ++ [x], by simpa using e, by cases e : F x <;> simp [e]⟩
    exact q
  · rintro acc ⟨done, e, rfl⟩
    rw [List.append_nil] at e
    subst e
    exact p
/-- no condition -/
theorem lc_map {g : DG} {te : DE} {ρ : List Sl} {items : List D} {P : List D → Prop} (F : D → D) (h : ∀ x ∈ items, ∀ (Q : D → Prop), Q (F x) → g x ρ fun ρ2 => te ρ2 Q) (p : P (items.map F)) : lcI g dYes te ρ items P := by
  refine lc_fm (fun x => some (F x)) (fun x hx Q q => ?_) ?_
  · simp only [dYes, if_true]
    exact h x hx (fun y => Q (some y)) q
  · rw [List.filterMap_eq_map']
    exact p
/-- the items stand for things -/
theorem lc_fmE {α : Type} {g : DG} {tt : DT} {te : DE} {ρ : List Sl} {xs : List α} {e : α → D} {P : List D → Prop} (F : α → Option D) (h : ∀ a ∈ xs, ∀ (Q : Option D → Prop), Q (F a) → g (e a) ρ fun ρ2 => tt ρ2 fun b => if b = true then te ρ2 (fun y => Q (some y)) else Q none) (p : P (xs.filterMap F)) : lcI g tt te ρ (xs.map e) P := by
  refine ⟨fun rest acc => ∃ done left, done ++ left = xs ∧ rest = left.map e ∧ acc = done.filterMap F, ⟨[], xs, rfl, rfl, rfl⟩, ?_, ?_⟩
  · rintro x rest acc ⟨done, left, e1, e2, rfl⟩
    cases left with
    | nil => cases e2
    | cons a left =>
      simp only [List.map_cons, List.cons.injEq] at e2
      obtain ⟨rfl, rfl⟩ := e2
      have ha : a ∈ xs := by rw [← e1]; simp
      exact h a ha (fun o => ∃ done' left', done' ++ left' = xs ∧ left.map e = left'.map e ∧ (match o with | some y => done.filterMap F ++ [y] | none => done.filterMap F) = done'.filterMap F) ⟨done ++ [a], left, by simpa using e1, rfl, by cases e3 : F a <;> simp [e3]⟩
  · rintro acc ⟨done, left, e1, e2, rfl⟩
    cases left with
    | cons _ _ => cases e2
    | nil =>
      rw [List.append_nil] at e1
      subst e1
      exact p
theorem lc_mapE {α : Type} {g : DG} {te : DE} {ρ : List Sl} {xs : List α} {e : α → D} {P : List D → Prop} (F : α → D) (h : ∀ a ∈ xs, ∀ (Q : D → Prop), Q (F a) → g (e a) ρ fun ρ2 => te ρ2 Q) (p : P (xs.map F)) : lcI g dYes te ρ (xs.map e) P := by
  refine lc_fmE (fun x => some (F x)) (fun x hx Q q => ?_) ?_
  · simp only [dYes, if_true]
    exact h x hx (fun y => Q (some y)) q
  · rw [List.filterMap_eq_map']
    exact p
theorem zipD_map {α β : Type} (f : α → D) (g : β → D) : ∀ (l : List α) (l' : List β), zipD (l.map f) (l'.map g) = (List.zip l l').map fun x => .tup [f x.1, g x.2]
  | [], _ => by simp [zipD]
  | _ :: _, [] => by simp [zipD]
  | a :: l, b :: l' => by
    have := zipD_map f g l l'
    simp only [zipD, List.map_cons, List.zipWith_cons_cons, List.zip_cons_cons] at this ⊢
    rw [this]
/-- a for over things: I of those done and those left -/
theorem for_E {α : Type} {gg : DG} {body : DS} {G : DEnds} {xs : List α} {e : α → D} {ρ : List Sl} (I : List α → List α → List Sl → Prop) (h0 : I [] xs ρ)
    (h : ∀ (done : List α) (a : α) (left : List α) (ρ : List Sl) (N : List Sl → Prop), done ++ a :: left = xs → I done (a :: left) ρ → (∀ ρ', I (done ++ [a]) left ρ' → N ρ') → gg (e a) ρ fun ρ2 => body { G with nx := N, ct := N, bk := G.nx } ρ2) (hd : ∀ ρ, I xs [] ρ → G.nx ρ) : forI gg body G (xs.map e) ρ := by
  refine ⟨fun rest ρ => ∃ done left, done ++ left = xs ∧ rest = left.map e ∧ I done left ρ, ⟨[], xs, rfl, rfl, h0⟩, ?_, ?_⟩
  · rintro x rest ρ ⟨done, left, e1, e2, i⟩
    cases left with
    | nil => cases e2
    | cons a left =>
      simp only [List.map_cons, List.cons.injEq] at e2
      obtain ⟨rfl, rfl⟩ := e2
      exact h done a left ρ _ e1 i fun ρ' hr => ⟨done ++ [a], left, by simpa using e1, rfl, hr⟩
  · rintro ρ ⟨done, left, e1, e2, i⟩
    cases left with
    | cons _ _ => cases e2
    | nil =>
      rw [List.append_nil] at e1
      subst e1
      exact hd ρ i
/-! ### sizes: fractions on a grid -/
/-- q is k/m with |k| ≤ b -/
def Lat (m b : Nat) (q : Rat) : Prop := 0 < m ∧ ∃ k : Int, q = mkRat k m ∧ k.natAbs ≤ b
theorem Lat.sz {m b : Nat} {q : Rat} (h : Lat m b q) (hm : m < bD) (hb : b < bN) : Sz q := by
  obtain ⟨h0, k, rfl, hk⟩ := h
  have hne : m ≠ 0 := by omega
  refine ⟨?_, ?_⟩
  · rw [Rat.den_mkRat, if_neg hne]
    exact Nat.lt_of_le_of_lt (Nat.div_le_self _ _) hm
  · rw [Rat.num_mkRat, if_neg hne]
    refine Nat.lt_of_le_of_lt (Nat.le_trans (Int.natAbs_ediv_le_natAbs _ _) hk) hb
theorem Lat.add {m b c : Nat} {p q : Rat} (h : Lat m b p) (h' : Lat m c q) : Lat m (b + c) (p + q) := by
  obtain ⟨h0, k, rfl, hk⟩ := h
  obtain ⟨_, k', rfl, hk'⟩ := h'
  refine ⟨h0, k + k', ?_, by omega⟩
  rw [Rat.mkRat_add_mkRat _ _ (by omega) (by omega), ← Int.add_mul, Rat.mkRat_mul_right (by omega)]
theorem Lat.neg {m b : Nat} {p : Rat} (h : Lat m b p) : Lat m b (-p) := by
  obtain ⟨h0, k, rfl, hk⟩ := h
  exact ⟨h0, -k, by rw [Rat.neg_mkRat], by omega⟩
theorem Lat.sub {m b c : Nat} {p q : Rat} (h : Lat m b p) (h' : Lat m c q) : Lat m (b + c) (p - q) := by
  rw [Rat.sub_eq_add_neg]
  exact h.add h'.neg
theorem Lat.mono {m b c : Nat} {p : Rat} (h : Lat m b p) (hb : b ≤ c) : Lat m c p := by
  obtain ⟨h0, k, e, hk⟩ := h
  exact ⟨h0, k, e, by omega⟩
theorem Lat.zero {m : Nat} (h : 0 < m) (b : Nat) : Lat m b 0 := ⟨h, 0, by rw [Rat.zero_mkRat], by simp⟩
theorem Lat.sum {m b : Nat} (hm : 0 < m) : ∀ {l : List Rat}, (∀ q ∈ l, Lat m b q) → Lat m (l.length * b) l.sum
  | [], _ => by simpa using Lat.zero hm 0
  | q :: l, h => by
    rw [List.sum_cons, List.length_cons, Nat.add_mul, Nat.one_mul, Nat.add_comm]
    exact (h q (by simp)).add (Lat.sum hm fun x hx => h x (by simp [hx]))
end Dy

/-! # Nets and flows: what the checks say. -/
namespace Dy
variable [Tn]
open PySem PySem.Spec PyProof.Rows L2
@[simp] def c_MOST_PLACES : D := .int 6
@[simp] def c_MOST_WAYS : D := .int 10
@[simp] def c_MOST_WARES : D := .int 3
@[simp] def c_MOST : D := .int 20
@[simp] def c_NOUGHT : D := .tup [.int 0, .int 1]
/-- plain data without the script -/
def pl : Nat → D → Bool
  | _, .non => true
  | _, .bl _ => true
  | _, .int _ => true
  | n + 1, .tup l => l.all (pl n)
  | n + 1, .lst l => l.all (pl n)
  | _, _ => false
theorem pl_lay : ∀ {n : Nat} {d : D}, pl n d = true → lay n d = true
  | _, .non, _ => lay_non _
  | _, .bl _, _ => lay_bl _ _
  | _, .int _, _ => lay_int _ _
  | n + 1, .tup l, h => by
    simp only [pl, lay] at h ⊢
    exact List.all_eq_true.mpr fun x hx => pl_lay (List.all_eq_true.mp h x hx)
  | n + 1, .lst l, h => by
    simp only [pl, lay] at h ⊢
    exact List.all_eq_true.mpr fun x hx => pl_lay (List.all_eq_true.mp h x hx)
  | 0, .tup _, h => by simp [pl] at h
  | 0, .lst _, h => by simp [pl] at h
  | 0, .str _, h => by simp [pl] at h
  | _ + 1, .str _, h => by simp [pl] at h
  | 0, .scr _, h => by simp [pl] at h
  | _ + 1, .scr _, h => by simp [pl] at h
  | 0, .dic _ _, h => by simp [pl] at h
  | _ + 1, .dic _ _, h => by simp [pl] at h
  | 0, .dct _, h => by simp [pl] at h
  | _ + 1, .dct _, h => by simp [pl] at h
  | 0, .tpl _, h => by simp [pl] at h
  | _ + 1, .tpl _, h => by simp [pl] at h
  | 0, .ins _ _ _, h => by simp [pl] at h
  | _ + 1, .ins _ _ _, h => by simp [pl] at h
theorem pl_ty {n : Nat} {d : D} (h : pl n d = true) : tyN d ≠ "?" := by
  cases d with
  | ins a b c => cases n <;> simp [pl] at h
  | _ => simp
@[simp] theorem pl_int (n : Nat) (i : Int) : pl n (.int i) = true := by cases n <;> rfl
@[simp] theorem pl_bl (n : Nat) (i : Bool) : pl n (.bl i) = true := by cases n <;> rfl
@[simp] theorem pl_non (n : Nat) : pl n .non = true := by cases n <;> rfl
@[simp] theorem pl_tup (n : Nat) (l : List D) : pl (n + 1) (.tup l) = l.all (pl n) := rfl
@[simp] theorem pl_lst (n : Nat) (l : List D) : pl (n + 1) (.lst l) = l.all (pl n) := rfl
@[simp] theorem pl_fr (n : Nat) (q : Rat) : pl (n + 1) (fr q) = true := by simp [fr]
/-! ### is_count -/
def cnt (d : D) (l m : Int) : Bool := match d with
  | .int i => decide (l ≤ i ∧ i ≤ m)
  | _ => false
theorem cnt_int (i l m : Int) : cnt (.int i) l m = decide (l ≤ i ∧ i ≤ m) := rfl
theorem cnt_of {d : D} {l m : Int} (h : cnt d l m = true) : ∃ i, d = .int i ∧ l ≤ i ∧ i ≤ m := by
  cases d with
  | int i => exact ⟨i, rfl, by simpa [cnt] using h⟩
  | _ => simp [cnt] at h
def sp_is_count : Spc := fun ds Q _ => ∃ (d : D) (l m : Int), ds = [d, .int l, .int m] ∧ tyN d ≠ "?" ∧ Q (.bl (cnt d l m))
theorem len_is_count : ∀ ds Q Z, sp_is_count ds Q Z → ds.length = 3 := len3 (fun ds Q Z ⟨_, _, _, e, _⟩ => ⟨_, _, _, e⟩)
@[simp] theorem sp_is_count_at (d : D) (l m : Int) (Q : D → Prop) (Z : Addr → Prop) : sp_is_count [d, .int l, .int m] Q Z ↔ tyN d ≠ "?" ∧ Q (.bl (cnt d l m)) := by
  constructor
  · rintro ⟨d', l', m', e, h⟩
    simp at e
    obtain ⟨rfl, rfl, rfl⟩ := e
    exact h
  · intro h
    exact ⟨_, _, _, rfl, h⟩
def g_is_count : DS := (dRet (dAnd (dIsi "int" (dVar 0)) (dAnd (dNot (dIsi "bool" (dVar 0))) (dChain (cmpD fun i j => decide (i ≤ j)) (cmpD fun i j => decide (i ≤ j)) (dVar 1) (dVar 0) (dVar 2)))))
theorem pure_is_count : ∀ ds Q Z, sp_is_count ds Q Z → g_is_count { nx := fun _ => Q .non, rt := Q } (startS ["thing", "least", "most"] ds) := by
  rintro ds Q Z ⟨d, l, m, rfl, ht, h⟩
  cases d with
  | int i =>
    simp [g_is_count, and_assoc]
    rw [cnt_int] at h
    by_cases h1 : l ≤ i
    · simpa [h1] using h
    · simpa [h1] using h
  | ins a b c => exact absurd rfl ht
  | _ => simpa [g_is_count, and_assoc, cnt] using h
/-! ### is_way -/
def wayB (d : D) (n l m : Int) : Bool := match d with
  | .tup [a, b, c] => cnt a 0 (n - 1) && cnt b 0 (n - 1) && !eqv a b && cnt c l m
  | _ => false
def sp_is_way : Spc := fun ds Q _ => ∃ (d : D) (n l m : Int), ds = [d, .int n, .int l, .int m] ∧ pl 50 d = true ∧ Q (.bl (wayB d n l m))
theorem len_is_way : ∀ ds Q Z, sp_is_way ds Q Z → ds.length = 4 := len4 (fun ds Q Z ⟨_, _, _, _, e, _⟩ => ⟨_, _, _, _, e⟩)
@[simp] theorem sp_is_way_at (d : D) (n l m : Int) (Q : D → Prop) (Z : Addr → Prop) : sp_is_way [d, .int n, .int l, .int m] Q Z ↔ pl 50 d = true ∧ Q (.bl (wayB d n l m)) := by
  constructor
  · rintro ⟨d', n', l', m', e, h⟩
    simp at e
    obtain ⟨rfl, rfl, rfl, rfl⟩ := e
    exact h
  · intro h
    exact ⟨_, _, _, _, rfl, h⟩
def g_is_way : DS := (dSeq2 (dIf (dOrT (dNotT (dTest (dIsi "tuple" (dVar 0)))) (dTest (dOp neD (dCB lenD (dCons (dVar 0) dNil)) (dC (.int 3)))))
    (dRet (dC (.bl false)))
    dSkip)
    (dSeq2 (dIf (dOrT (dNotT (dTest (dCB allD (dCons (dFz (dLc (dSeq (dSl (dVar 0) dNoPart (dPart (dC (.int 2))))) (gdName 4) dYes (dCall sp_is_count (dCons (dVar 4) (dCons (dC (.int 0)) (dCons (dOp subD (dVar 1) (dC (.int 1))) dNil)))) [4])) dNil)))) (dTest (dOp eqD (dOp ixD (dVar 0) (dC (.int 0))) (dOp ixD (dVar 0) (dC (.int 1))))))
    (dRet (dC (.bl false)))
    dSkip)
    (dRet (dCall sp_is_count (dCons (dOp ixD (dVar 0) (dC (.int 2))) (dCons (dVar 2) (dCons (dVar 3) dNil)))))))
theorem pure_is_way : ∀ ds Q Z, sp_is_way ds Q Z → g_is_way { nx := fun _ => Q .non, rt := Q } (startS ["thing", "places", "least", "most", "place"] ds) := by
  rintro ds Q Z ⟨d, n, l, m, rfl, ht, h⟩
  have hty := pl_ty ht
  by_cases h3 : ∃ a b c, d = .tup [a, b, c]
  · obtain ⟨a, b, c, rfl⟩ := h3
    simp only [pl_tup, List.all_cons, List.all_nil, Bool.and_true, Bool.and_eq_true] at ht
    have ta := pl_ty ht.1
    have tb := pl_ty ht.2.1
    have tc := pl_ty ht.2.2
    have nw : HT.sIx 3 0 none = 0 → ¬ HT.sIx 3 3 (some 2) = 3 := fun h1 h2 => notwhole2 (l := [a, b, c]) rfl ⟨h1, h2⟩
    simp [g_is_way, and_assoc, notwhole2]
    refine ⟨nw, ?_⟩
    refine lc_map (fun x => .bl (cnt x 0 (n - 1))) (fun x hx Q q => ?_) ⟨[cnt a 0 (n - 1), cnt b 0 (n - 1)], by simp, ?_⟩
    · rcases List.mem_cons.mp hx with rfl | hx
      · simpa using ⟨ta, q⟩
      · rcases List.mem_cons.mp hx with rfl | hx
        · simpa using ⟨tb, q⟩
        · cases hx
    · simp only [wayB] at h
      cases ea : cnt a 0 (n - 1) with
      | false => simpa [ea] using h
      | true =>
        cases eb : cnt b 0 (n - 1) with
        | false => simpa [ea, eb] using h
        | true =>
          obtain ⟨i, rfl, _⟩ := cnt_of ea
          obtain ⟨j, rfl, _⟩ := cnt_of eb
          by_cases hij : i = j
          · simpa [ea, eb, hij] using h
          · simp [ea, eb, hij] at h ⊢
            exact ⟨tc, h⟩
  · have hf : wayB d n l m = false := by
      cases d with
      | tup xs =>
        match xs, h3 with
        | [a, b, c], h3 => exact absurd ⟨a, b, c, rfl⟩ h3
        | [], _ => rfl
        | [_], _ => rfl
        | [_, _], _ => rfl
        | _ :: _ :: _ :: _ :: _, _ => rfl
      | _ => rfl
    rw [hf] at h
    cases d with
    | tup xs =>
      have hl : ¬ (xs.length : Int) = 3 := by
        intro hl
        match xs, h3, hl with
        | [a, b, c], h3, _ => exact absurd ⟨a, b, c, rfl⟩ h3
        | [], _, hl => simp at hl
        | [_], _, hl => simp at hl
        | [_, _], _, hl => simp at hl
        | _ :: _ :: _ :: _ :: l, _, hl => simp at hl; omega
      simpa [g_is_way, and_assoc, hl] using h
    | ins a b c => exact absurd rfl hty
    | tpl l => simp [pl] at ht
    | _ => simpa [g_is_way, and_assoc] using h
/-! ### is_net, need_net -/
def keyD : D → List Int
  | .tup (.int a :: .int b :: _) => [a, b]
  | _ => []
def sortB (ways : List D) : Bool := (List.zipWith (fun x y => HT.lexLt (keyD x) (keyD y)) ways (ways.drop 1)).all id
def netB : D → Bool
  | .tup [.int n, .lst ways, .lst wares] => decide (2 ≤ n ∧ n ≤ 6) && decide (ways.length ≤ 10) && decide (1 ≤ wares.length ∧ wares.length ≤ 3) && (ways ++ wares).all (fun w => wayB w n 1 20) && sortB ways
  | _ => false
/-- a thing of a net's form -/
def NetF (d : D) : Prop := ∃ p ways wares, d = .tup [p, .lst ways, .lst wares] ∧ pl 50 p = true ∧ ways.all (pl 50) = true ∧ wares.all (pl 50) = true ∧ ways.length ≤ 1000 ∧ wares.length ≤ 1000
def sp_is_net : Spc := fun ds Q _ => ∃ d, ds = [d] ∧ NetF d ∧ Q (.bl (netB d))
theorem len_is_net : ∀ ds Q Z, sp_is_net ds Q Z → ds.length = 1 := len1 (fun ds Q Z ⟨_, e, _⟩ => ⟨_, e⟩)
@[simp] theorem sp_is_net_at (d : D) (Q : D → Prop) (Z : Addr → Prop) : sp_is_net [d] Q Z ↔ NetF d ∧ Q (.bl (netB d)) := by
  constructor
  · rintro ⟨d', e, h⟩
    simp at e
    obtain rfl := e
    exact h
  · intro h
    exact ⟨_, rfl, h⟩
theorem wayB_key {d : D} {n l m : Int} (h : wayB d n l m = true) : ∃ a b c : Int, d = .tup [.int a, .int b, .int c] ∧ 0 ≤ a ∧ a ≤ n - 1 ∧ 0 ≤ b ∧ b ≤ n - 1 ∧ a ≠ b ∧ l ≤ c ∧ c ≤ m := by
  unfold wayB at h
  split at h
  · rename_i a b c
    simp only [Bool.and_eq_true] at h
    obtain ⟨⟨⟨h1, h2⟩, h3⟩, h4⟩ := h
    obtain ⟨i, rfl, hi, hi'⟩ := cnt_of h1
    obtain ⟨j, rfl, hj, hj'⟩ := cnt_of h2
    obtain ⟨k, rfl, hk, hk'⟩ := cnt_of h4
    exact ⟨i, j, k, rfl, hi, hi', hj, hj', by simpa using h3, hk, hk'⟩
  · cases h
def g_is_net : DS := (dSeq2 (dUnp (gdTup 3 (gdCons (gdName 1) (gdCons (gdName 2) (gdCons (gdName 3) gdNil)))) (dVar 0))
    (dSeq2 (dIf (dOrT (dNotT (dTest (dCall sp_is_count (dCons (dVar 1) (dCons (dC (.int 2)) (dCons (dC c_MOST_PLACES) dNil)))))) (dOrT (dTest (dOp (cmpD fun i j => decide (j < i)) (dCB lenD (dCons (dVar 2) dNil)) (dC c_MOST_WAYS))) (dNotT (dTest (dChain (cmpD fun i j => decide (i ≤ j)) (cmpD fun i j => decide (i ≤ j)) (dC (.int 1)) (dCB lenD (dCons (dVar 3) dNil)) (dC c_MOST_WARES))))))
    (dRet (dC (.bl false)))
    dSkip)
    (dSeq2 (dIf (dNotT (dTest (dCB allD (dCons (dFz (dLc (dSeq (dOp addD (dVar 2) (dVar 3))) (gdName 4) dYes (dCall sp_is_way (dCons (dVar 4) (dCons (dVar 1) (dCons (dC (.int 1)) (dCons (dC c_MOST) dNil))))) [4])) dNil))))
    (dRet (dC (.bl false)))
    dSkip)
    (dRet (dCB allD (dCons (dFz (dLc (dZip (dCons (dVar 2) (dCons (dSl (dVar 2) (dPart (dC (.int 1))) dNoPart) dNil))) (gdTup 2 (gdCons (gdName 5) (gdCons (gdName 6) gdNil))) dYes (dOp ltD (dSl (dVar 5) dNoPart (dPart (dC (.int 2)))) (dSl (dVar 6) dNoPart (dPart (dC (.int 2))))) [5, 6])) dNil))))))
theorem map_bl_all (l : List D) (f : D → Bool) : ∃ bs : List Bool, l.map (fun x => D.bl (f x)) = bs.map .bl ∧ bs.all id = l.all f := ⟨l.map f, by simp, by simp [List.all_map]⟩
theorem zip_keys : ∀ (l l' : List D), (zipD l l').map (fun x => match x with | .tup [a, b] => D.bl (HT.lexLt (keyD a) (keyD b)) | _ => .non) = ((List.zipWith (fun x y => HT.lexLt (keyD x) (keyD y)) l l').map .bl)
  | [], _ => rfl
  | _ :: _, [] => rfl
  | x :: l, y :: l' => by
    have := zip_keys l l'
    simp only [zipD, List.zipWith_cons_cons, List.map_cons] at this ⊢
    rw [this]
theorem mem_zipD {l l' : List D} {x : D} (h : x ∈ zipD l l') : ∃ a b, x = .tup [a, b] ∧ a ∈ l ∧ b ∈ l' := by
  unfold zipD at h
  rw [List.mem_iff_getElem?] at h
  obtain ⟨i, h⟩ := h
  rw [List.getElem?_zipWith] at h
  cases e : l[i]? with
  | none => simp [e] at h
  | some a =>
    cases e' : l'[i]? with
    | none => simp [e, e'] at h
    | some b =>
      simp [e, e'] at h
      exact ⟨a, b, h.symm, List.mem_of_getElem? e, List.mem_of_getElem? e'⟩
theorem all_not {bs : List Bool} : (false ∈ bs) = (bs.all id = false) := by
  simp
theorem pure_is_net : ∀ ds Q Z, sp_is_net ds Q Z → g_is_net { nx := fun _ => Q .non, rt := Q } (startS ["net", "places", "ways", "wares", "way", "one", "other"] ds) := by
  rintro ds Q Z ⟨d, rfl, ⟨p, ways, wares, rfl, hp, hw, ha, lw, la⟩, h⟩
  have tp := pl_ty hp
  simp [g_is_net, and_assoc]
  refine ⟨tp, ?_⟩
  cases hc : cnt p 2 6 with
  | false =>
    have e : netB (.tup [p, .lst ways, .lst wares]) = false := by
      cases p <;> simp_all [netB, cnt]
      omega
    simpa [e] using h
  | true =>
    obtain ⟨n, rfl, h2, h6⟩ := cnt_of hc
    by_cases h10 : ways.length ≤ 10
    · have e10 : ¬ (10 : Int) < ways.length := by omega
      by_cases h13 : 1 ≤ wares.length ∧ wares.length ≤ 3
      · have e1 : (1 : Int) ≤ wares.length := by omega
        have e3 : (wares.length : Int) ≤ 3 := by omega
        simp [e10, e1, e3]
        refine ⟨by omega, lc_map (fun x => .bl (wayB x n 1 20)) (fun x hx Q q => ?_) ?_⟩
        · have hx' : pl 50 x = true := by
            rcases List.mem_append.mp hx with z | z
            · exact List.all_eq_true.mp hw x z
            · exact List.all_eq_true.mp ha x z
          simpa [hx'] using q
        · obtain ⟨bs, e1, e2⟩ := map_bl_all (ways ++ wares) (fun x => wayB x n 1 20)
          refine ⟨bs, e1, ?_⟩
          have en : netB (.tup [.int n, .lst ways, .lst wares]) = (bs.all id && sortB ways) := by
            rw [e2]
            simp [netB, h2, h6, h10, h13]
          rw [en] at h
          cases hb : bs.all id with
          | false => simpa [hb, all_not] using h
          | true =>
            rw [hb, Bool.true_and] at h
            have hnm : ¬ false ∈ bs := by rw [all_not, hb]; simp
            rw [if_neg hnm]
            refine ⟨by simp [zipD]; omega, lc_map (fun x => match x with | .tup [a, b] => D.bl (HT.lexLt (keyD a) (keyD b)) | _ => .non) (fun x hx Q q => ?_) ?_⟩
            · obtain ⟨x1, x2, rfl, m1, m2⟩ := mem_zipD hx
              rw [hb] at e2
              have all := List.all_eq_true.mp e2.symm
              obtain ⟨a, b, c, rfl, _⟩ := wayB_key (all x1 (by simp [m1]))
              obtain ⟨a', b', c', rfl, _⟩ := wayB_key (all x2 (by simp [List.mem_of_mem_tail m2]))
              have nw : HT.sIx 3 0 none = 0 → ¬ HT.sIx 3 3 (some 2) = 3 := fun h1 h2 => notwhole2 (l := [D.int a, D.int b, D.int c]) rfl ⟨h1, h2⟩
              simp [keyD] at q
              simp [and_assoc]
              exact ⟨nw, [a, b], rfl, [a', b'], rfl, q⟩
            · refine ⟨_, zip_keys ways ways.tail, ?_⟩
              simpa [sortB] using h
      · have e : netB (.tup [.int n, .lst ways, .lst wares]) = false := by
          simp [netB]
          omega
        rw [e] at h
        by_cases h1 : (1 : Int) ≤ wares.length
        · have h3 : ¬ (wares.length : Int) ≤ 3 := by omega
          simpa [e10, h1, h3] using h
        · simpa [e10, h1] using h
    · have e10 : (10 : Int) < ways.length := by omega
      have e : netB (.tup [.int n, .lst ways, .lst wares]) = false := by
        simp [netB]
        omega
      simpa [e10, e] using h
def sp_need_net (aN : Addr) : Spc := fun ds Q Z => ∃ d, ds = [d] ∧ NetF d ∧ if netB d = true then Q .non else Z aN
theorem len_need_net (aN : Addr) : ∀ ds Q Z, sp_need_net aN ds Q Z → ds.length = 1 := len1 (fun ds Q Z ⟨_, e, _⟩ => ⟨_, e⟩)
@[simp] theorem sp_need_net_at (aN : Addr) (d : D) (Q : D → Prop) (Z : Addr → Prop) : sp_need_net aN [d] Q Z ↔ NetF d ∧ if netB d = true then Q .non else Z aN := by
  constructor
  · rintro ⟨d', e, h⟩
    simp at e
    obtain rfl := e
    exact h
  · intro h
    exact ⟨_, rfl, h⟩
def g_need_net (a_BadNet : Addr) : DS := (dIf (dNotT (dTest (dCall sp_is_net (dCons (dVar 0) dNil))))
    (dRaise a_BadNet)
    dSkip)
theorem pure_need_net (aN : Addr) : ∀ ds Q Z, sp_need_net aN ds Q Z → g_need_net aN { nx := fun _ => Q .non, rt := Q, xx := Z } (startS ["net"] ds) := by
  rintro ds Q Z ⟨d, rfl, hd, h⟩
  simp [g_need_net, hd]
  cases e : netB d with
  | true => simpa [e] using h
  | false => simpa [e] using h
/-! ### is_fraction, are_shares -/
def fracB : D → Bool
  | .tup [.int a, .int b] => decide (0 < b) && decide (Nat.gcd a.natAbs b.natAbs = 1)
  | _ => false
def sp_is_fraction : Spc := fun ds Q _ => ∃ d, ds = [d] ∧ pl 50 d = true ∧ Q (.bl (fracB d))
theorem len_is_fraction : ∀ ds Q Z, sp_is_fraction ds Q Z → ds.length = 1 := len1 (fun ds Q Z ⟨_, e, _⟩ => ⟨_, e⟩)
@[simp] theorem sp_is_fraction_at (d : D) (Q : D → Prop) (Z : Addr → Prop) : sp_is_fraction [d] Q Z ↔ pl 50 d = true ∧ Q (.bl (fracB d)) := by
  constructor
  · rintro ⟨d', e, h⟩
    simp at e
    obtain rfl := e
    exact h
  · intro h
    exact ⟨_, rfl, h⟩
def g_is_fraction : DS := (dSeq2 (dIf (dOrT (dNotT (dTest (dIsi "tuple" (dVar 0)))) (dTest (dOp neD (dCB lenD (dCons (dVar 0) dNil)) (dC (.int 2)))))
    (dRet (dC (.bl false)))
    dSkip)
    (dSeq2 (dIf (dNotT (dTest (dCB allD (dCons (dFz (dLc (dSeq (dVar 0)) (gdName 1) dYes (dAnd (dIsi "int" (dVar 1)) (dNot (dIsi "bool" (dVar 1)))) [1])) dNil))))
    (dRet (dC (.bl false)))
    dSkip)
    (dRet (dAnd (dOp (cmpD fun i j => decide (j < i)) (dOp ixD (dVar 0) (dC (.int 1))) (dC (.int 0))) (dOp eqD (dCall sp_common (dCons (dCB absD (dCons (dOp ixD (dVar 0) (dC (.int 0))) dNil)) (dCons (dOp ixD (dVar 0) (dC (.int 1))) dNil))) (dC (.int 1)))))))
def isInt : D → Bool
  | .int _ => true
  | _ => false
theorem pure_is_fraction : ∀ ds Q Z, sp_is_fraction ds Q Z → g_is_fraction { nx := fun _ => Q .non, rt := Q } (startS ["thing", "part"] ds) := by
  rintro ds Q Z ⟨d, rfl, ht, h⟩
  have hty := pl_ty ht
  by_cases h3 : ∃ a b, d = .tup [a, b]
  · obtain ⟨a, b, rfl⟩ := h3
    simp only [pl_tup, List.all_cons, List.all_nil, Bool.and_true, Bool.and_eq_true] at ht
    have ta := pl_ty ht.1
    have tb := pl_ty ht.2
    simp [g_is_fraction, and_assoc]
    refine lc_map (fun x => .bl (isInt x)) (fun x hx Q q => ?_) ⟨[isInt a, isInt b], by simp, ?_⟩
    · have tx : tyN x ≠ "?" := by
        rcases List.mem_cons.mp hx with rfl | hx
        · exact ta
        · rcases List.mem_cons.mp hx with rfl | hx
          · exact tb
          · cases hx
      cases x with
      | ins a b c => exact absurd rfl tx
      | _ => simpa [isInt] using q
    · cases a with
      | int a =>
        cases b with
        | int b =>
          simp [isInt]
          simp only [fracB] at h
          by_cases hb : 0 < b
          · obtain ⟨n, rfl⟩ := Int.eq_ofNat_of_zero_le (Int.le_of_lt hb)
            simp [hb] at h ⊢
            have e : decide (((Nat.gcd a.natAbs n : Nat) : Int) = 1) = decide (Nat.gcd a.natAbs n = 1) := by
              rw [Bool.eq_iff_iff]
              simp
              omega
            have hb' : 0 < n := by omega
            rw [e]
            simpa [hb'] using h
          · simpa [hb] using h
        | _ => simpa [isInt, fracB] using h
      | _ => simpa [isInt, fracB] using h
  · have hf : fracB d = false := by
      cases d with
      | tup xs =>
        match xs, h3 with
        | [a, b], h3 => exact absurd ⟨a, b, rfl⟩ h3
        | [], _ => rfl
        | [_], _ => simp [fracB]
        | _ :: _ :: _ :: _, _ => simp [fracB]
      | _ => rfl
    rw [hf] at h
    cases d with
    | tup xs =>
      have hl : ¬ (xs.length : Int) = 2 := by
        intro hl
        match xs, h3, hl with
        | [a, b], h3, _ => exact absurd ⟨a, b, rfl⟩ h3
        | [], _, hl => simp at hl
        | [_], _, hl => simp at hl
        | _ :: _ :: _ :: l, _, hl => simp at hl; omega
      simpa [g_is_fraction, and_assoc, hl] using h
    | ins a b c => exact absurd rfl hty
    | tpl l => simp [pl] at ht
    | _ => simpa [g_is_fraction, and_assoc] using h
def shareB (d : D) : Bool := fracB d && (match d with
  | .tup (.int a :: _) => decide (0 ≤ a)
  | _ => false)
def sharesB (d : D) (n : Nat) : Bool := match d with
  | .lst l => decide (l.length = n) && l.all shareB
  | _ => false
def sp_are_shares : Spc := fun ds Q _ => ∃ (d : D) (n : Nat), ds = [d, .int n] ∧ pl 51 d = true ∧ (∀ l, d = .lst l → l.length ≤ 1000000) ∧ Q (.bl (sharesB d n))
theorem len_are_shares : ∀ ds Q Z, sp_are_shares ds Q Z → ds.length = 2 := len2 (fun ds Q Z ⟨_, _, e, _⟩ => ⟨_, _, e⟩)
@[simp] theorem sp_are_shares_at (d : D) (n : Nat) (Q : D → Prop) (Z : Addr → Prop) : sp_are_shares [d, .int n] Q Z ↔ pl 51 d = true ∧ (∀ l, d = .lst l → l.length ≤ 1000000) ∧ Q (.bl (sharesB d n)) := by
  constructor
  · rintro ⟨d', n', e, h⟩
    simp at e
    obtain ⟨rfl, e⟩ := e
    rw [show n = n' by omega]
    exact h
  · intro h
    exact ⟨_, _, rfl, h⟩
def g_are_shares : DS := (dSeq2 (dIf (dOrT (dNotT (dTest (dIsi "list" (dVar 0)))) (dTest (dOp neD (dCB lenD (dCons (dVar 0) dNil)) (dVar 1))))
    (dRet (dC (.bl false)))
    dSkip)
    (dRet (dCB allD (dCons (dFz (dLc (dSeq (dVar 0)) (gdName 2) dYes (dAnd (dCall sp_is_fraction (dCons (dVar 2) dNil)) (dOp (cmpD fun i j => decide (j ≤ i)) (dOp ixD (dVar 2) (dC (.int 0))) (dC (.int 0)))) [2])) dNil))))
theorem pure_are_shares : ∀ ds Q Z, sp_are_shares ds Q Z → g_are_shares { nx := fun _ => Q .non, rt := Q } (startS ["thing", "many", "one"] ds) := by
  rintro ds Q Z ⟨d, n, rfl, ht, hl, h⟩
  have hty := pl_ty ht
  cases d with
  | lst l =>
    have hl := hl l rfl
    simp only [pl_lst] at ht
    by_cases hn : l.length = n
    · subst hn
      simp [g_are_shares, and_assoc, hl]
      refine lc_map (fun x => .bl (shareB x)) (fun x hx Q q => ?_) ?_
      · simp [List.all_eq_true.mp ht x hx]
        unfold shareB at q
        cases e : fracB x with
        | false => simpa [e] using q
        | true =>
          match x, e with
          | .tup [.int a, .int b], e => simpa [e] using q
      · obtain ⟨bs, e1, e2⟩ := map_bl_all l shareB
        refine ⟨bs, e1, ?_⟩
        rw [e2]
        simpa [sharesB] using h
    · have hn' : ¬ (l.length : Int) = n := by omega
      simpa [g_are_shares, and_assoc, hn', sharesB, hn] using h
  | ins a b c => exact absurd rfl hty
  | scr ns => simp [pl] at ht
  | _ => simpa [g_are_shares, and_assoc, sharesB] using h
/-! ### is_flow, need_flow -/
def flowB (net flow : D) : Bool := match net, flow with
  | .tup [_, .lst ways, .lst wares], .lst rows => decide (rows.length = wares.length) && rows.all fun r => sharesB r ways.length
  | _, _ => false
/-- a thing that may be asked whether it is a flow -/
def FlowF (d : D) : Prop := pl 52 d = true ∧ ∀ l, d = .lst l → l.length ≤ 1000000 ∧ ∀ r ∈ l, ∀ l', r = .lst l' → l'.length ≤ 1000000
def sp_is_flow : Spc := fun ds Q _ => ∃ net flow, ds = [net, flow] ∧ NetF net ∧ FlowF flow ∧ Q (.bl (flowB net flow))
theorem len_is_flow : ∀ ds Q Z, sp_is_flow ds Q Z → ds.length = 2 := len2 (fun ds Q Z ⟨_, _, e, _⟩ => ⟨_, _, e⟩)
@[simp] theorem sp_is_flow_at (d f : D) (Q : D → Prop) (Z : Addr → Prop) : sp_is_flow [d, f] Q Z ↔ NetF d ∧ FlowF f ∧ Q (.bl (flowB d f)) := by
  constructor
  · rintro ⟨d', n', e, h⟩
    simp at e
    obtain ⟨rfl, rfl⟩ := e
    exact h
  · intro h
    exact ⟨_, _, rfl, h⟩
def g_is_flow : DS := (dSeq2 (dIf (dOrT (dNotT (dTest (dIsi "list" (dVar 1)))) (dTest (dOp neD (dCB lenD (dCons (dVar 1) dNil)) (dCB lenD (dCons (dOp ixD (dVar 0) (dC (.int 2))) dNil)))))
    (dRet (dC (.bl false)))
    dSkip)
    (dRet (dCB allD (dCons (dFz (dLc (dSeq (dVar 1)) (gdName 2) dYes (dCall sp_are_shares (dCons (dVar 2) (dCons (dCB lenD (dCons (dOp ixD (dVar 0) (dC (.int 1))) dNil)) dNil))) [2])) dNil))))
theorem pure_is_flow : ∀ ds Q Z, sp_is_flow ds Q Z → g_is_flow { nx := fun _ => Q .non, rt := Q } (startS ["net", "flow", "row"] ds) := by
  rintro ds Q Z ⟨net, flow, rfl, ⟨p, ways, wares, rfl, hp, hw, ha, lw, la⟩, ⟨hf, hl⟩, h⟩
  have hty := pl_ty hf
  cases flow with
  | lst rows =>
    obtain ⟨l1, l2⟩ := hl rows rfl
    simp only [pl_lst] at hf
    by_cases hn : rows.length = wares.length
    · simp [g_is_flow, and_assoc, hn]
      refine ⟨by omega, lc_map (fun x => .bl (sharesB x ways.length)) (fun x hx Q q => ?_) ?_⟩
      · simp [List.all_eq_true.mp hf x hx]
        exact ⟨l2 x hx, q⟩
      · obtain ⟨bs, e1, e2⟩ := map_bl_all rows (fun r => sharesB r ways.length)
        refine ⟨bs, e1, ?_⟩
        rw [e2]
        simpa [flowB, hn] using h
    · have hn' : ¬ (rows.length : Int) = wares.length := by omega
      simpa [g_is_flow, and_assoc, hn', flowB, hn] using h
  | ins a b c => exact absurd rfl hty
  | scr ns => simp [pl] at hf
  | _ => simpa [g_is_flow, and_assoc, flowB] using h
def sp_need_flow (aF aN : Addr) : Spc := fun ds Q Z => ∃ net flow, ds = [net, flow] ∧ NetF net ∧ FlowF flow ∧ if netB net = true then (if flowB net flow = true then Q .non else Z aF) else Z aN
theorem len_need_flow (aF aN : Addr) : ∀ ds Q Z, sp_need_flow aF aN ds Q Z → ds.length = 2 := len2 (fun ds Q Z ⟨_, _, e, _⟩ => ⟨_, _, e⟩)
@[simp] theorem sp_need_flow_at (aF aN : Addr) (d f : D) (Q : D → Prop) (Z : Addr → Prop) : sp_need_flow aF aN [d, f] Q Z ↔ NetF d ∧ FlowF f ∧ if netB d = true then (if flowB d f = true then Q .non else Z aF) else Z aN := by
  constructor
  · rintro ⟨d', n', e, h⟩
    simp at e
    obtain ⟨rfl, rfl⟩ := e
    exact h
  · intro h
    exact ⟨_, _, rfl, h⟩
def g_need_flow (a_BadFlow : Addr) (a_BadNet : Addr) : DS := (dSeq2 (dCallX (sp_need_net a_BadNet) (dCons (dVar 0) dNil))
    (dIf (dNotT (dTest (dCall sp_is_flow (dCons (dVar 0) (dCons (dVar 1) dNil)))))
    (dRaise a_BadFlow)
    dSkip))
theorem pure_need_flow (aF aN : Addr) : ∀ ds Q Z, sp_need_flow aF aN ds Q Z → g_need_flow aF aN { nx := fun _ => Q .non, rt := Q, xx := Z } (startS ["net", "flow"] ds) := by
  rintro ds Q Z ⟨net, flow, rfl, hd, hf, h⟩
  simp [g_need_flow, hd, hf]
  cases e : netB net with
  | true =>
    cases e2 : flowB net flow with
    | true => simpa [e, e2] using h
    | false => simpa [e, e2] using h
  | false => simpa [e] using h
end Dy

/-! # Flows: what is brought. -/
namespace Dy
variable [Tn]
open PySem PySem.Spec PyProof.Rows L2
/-! ### nets and flows as numbers -/
abbrev W3 := Int × Int × Int
@[simp] def wD (w : W3) : D := .tup [.int w.1, .int w.2.1, .int w.2.2]
def netD (n : Int) (ways wares : List W3) : D := .tup [.int n, .lst (ways.map wD), .lst (wares.map wD)]
def rowD (r : List Rat) : D := .lst (r.map fr)
def flowD (rs : List (List Rat)) : D := .lst (rs.map rowD)
/-- a sound net -/
structure Net (n : Int) (ways wares : List W3) : Prop where
  n2 : 2 ≤ n
  n6 : n ≤ 6
  lw : ways.length ≤ 10
  l1 : 1 ≤ wares.length
  l3 : wares.length ≤ 3
  w : ∀ w ∈ ways ++ wares, 0 ≤ w.1 ∧ w.1 < n ∧ 0 ≤ w.2.1 ∧ w.2.1 < n ∧ w.1 ≠ w.2.1 ∧ 1 ≤ w.2.2 ∧ w.2.2 ≤ 20
  s : sortB (ways.map wD) = true
theorem ways_of {n : Int} : ∀ {l : List D}, (∀ d ∈ l, wayB d n 1 20 = true) → ∃ ws : List W3, l = ws.map wD ∧ ∀ w ∈ ws, 0 ≤ w.1 ∧ w.1 < n ∧ 0 ≤ w.2.1 ∧ w.2.1 < n ∧ w.1 ≠ w.2.1 ∧ 1 ≤ w.2.2 ∧ w.2.2 ≤ 20
  | [], _ => ⟨[], rfl, by simp⟩
  | d :: l, h => by
    obtain ⟨a, b, c, rfl, h1, h2, h3, h4, h5, h6, h7⟩ := wayB_key (h d (by simp))
    obtain ⟨ws, e, hw⟩ := ways_of (l := l) fun x hx => h x (by simp [hx])
    refine ⟨(a, b, c) :: ws, by rw [e]; rfl, fun w hw' => ?_⟩
    rcases List.mem_cons.mp hw' with rfl | hw'
    · exact ⟨h1, by show a < n; omega, h3, by show b < n; omega, h5, h6, h7⟩
    · exact hw w hw'
theorem net_of {d : D} (h : netB d = true) : ∃ n ways wares, d = netD n ways wares ∧ Net n ways wares := by
  unfold netB at h
  split at h
  · rename_i n ways wares
    simp only [Bool.and_eq_true, decide_eq_true_eq] at h
    obtain ⟨⟨⟨⟨h1, h2⟩, h3⟩, h4⟩, h5⟩ := h
    have h4 := List.all_eq_true.mp h4
    obtain ⟨w1, rfl, q1⟩ := ways_of (l := ways) fun x hx => h4 x (by simp [hx])
    obtain ⟨w2, rfl, q2⟩ := ways_of (l := wares) fun x hx => h4 x (by simp [hx])
    refine ⟨n, w1, w2, rfl, h1.1, h1.2, by simpa using h2, by simpa using h3.1, by simpa using h3.2, fun w hw => ?_, h5⟩
    rcases List.mem_append.mp hw with z | z
    · exact q1 w z
    · exact q2 w z
  · cases h
theorem shareB_of {d : D} (h : shareB d = true) : ∃ q : Rat, d = fr q ∧ 0 ≤ q := by
  unfold shareB fracB at h
  split at h
  · rename_i a b
    simp only [Bool.and_eq_true, decide_eq_true_eq] at h
    obtain ⟨⟨h1, h2⟩, h3⟩ := h
    obtain ⟨n, rfl⟩ := Int.eq_ofNat_of_zero_le (Int.le_of_lt h1)
    have hn : n ≠ 0 := by omega
    refine ⟨⟨a, n, hn, h2⟩, rfl, ?_⟩
    rw [← Rat.num_nonneg]
    exact h3
  · simp at h
theorem row_of : ∀ {l : List D}, (∀ d ∈ l, shareB d = true) → ∃ r : List Rat, l = r.map fr ∧ ∀ q ∈ r, 0 ≤ q
  | [], _ => ⟨[], rfl, by simp⟩
  | d :: l, h => by
    obtain ⟨q, rfl, hq⟩ := shareB_of (h d (by simp))
    obtain ⟨r, rfl, hr⟩ := row_of (l := l) fun x hx => h x (by simp [hx])
    exact ⟨q :: r, rfl, fun x hx => by
      rcases List.mem_cons.mp hx with rfl | hx
      · exact hq
      · exact hr x hx⟩
theorem rows_of {k : Nat} : ∀ {l : List D}, (∀ d ∈ l, sharesB d k = true) → ∃ rs : List (List Rat), l = rs.map rowD ∧ ∀ r ∈ rs, r.length = k ∧ ∀ q ∈ r, 0 ≤ q
  | [], _ => ⟨[], rfl, by simp⟩
  | d :: l, h => by
    have hd := h d (by simp)
    obtain ⟨rs, rfl, hr⟩ := rows_of (l := l) fun x hx => h x (by simp [hx])
    unfold sharesB at hd
    split at hd
    · rename_i xs
      simp only [Bool.and_eq_true, decide_eq_true_eq] at hd
      obtain ⟨r, rfl, hq⟩ := row_of (List.all_eq_true.mp hd.2)
      refine ⟨r :: rs, rfl, fun x hx => ?_⟩
      rcases List.mem_cons.mp hx with rfl | hx
      · exact ⟨by simpa using hd.1, hq⟩
      · exact hr x hx
    · cases hd
theorem flow_of {n : Int} {ways wares : List W3} {f : D} (h : flowB (netD n ways wares) f = true) : ∃ rs, f = flowD rs ∧ rs.length = wares.length ∧ ∀ r ∈ rs, r.length = ways.length ∧ ∀ q ∈ r, 0 ≤ q := by
  unfold flowB netD at h
  split at h
  · rename_i a b c rows e
    simp only [D.tup.injEq, List.cons.injEq, D.lst.injEq, and_true] at e
    obtain ⟨_, rfl, rfl⟩ := e
    simp only [Bool.and_eq_true, decide_eq_true_eq] at h
    obtain ⟨rs, rfl, hr⟩ := rows_of (List.all_eq_true.mp h.2)
    refine ⟨rs, rfl, by simpa using h.1, fun r hr' => by simpa using hr r hr'⟩
  · cases h
/-! ### total -/
def sp_total : Spc := fun ds Q _ => ∃ (qs : List Rat) (m b : Nat), ds = [.lst (qs.map fr)] ∧ 0 < m ∧ m < bD ∧ qs.length * b < bN ∧ b < bN ∧ (∀ q ∈ qs, Lat m b q) ∧ Q (fr qs.sum)
theorem len_total : ∀ ds Q Z, sp_total ds Q Z → ds.length = 1 := len1 (fun ds Q Z ⟨_, _, _, e, _⟩ => ⟨_, e⟩)
def g_total : DS := (dSeq2 (dSet 1 (dC c_NOUGHT))
    (dSeq2 (dFor (dSeq (dVar 0)) (gdName 2)
    (dSet 1 (dCall sp_plus (dCons (dVar 1) (dCons (dVar 2) dNil)))))
    (dRet (dVar 1))))
theorem sum_snoc (l : List Rat) (q : Rat) : (l ++ [q]).sum = l.sum + q := by
  rw [List.sum_append, List.sum_cons, List.sum_nil]
  grind
theorem pure_total : ∀ ds Q Z, sp_total ds Q Z → g_total { nx := fun _ => Q .non, rt := Q } (startS ["some", "found", "one"] ds) := by
  rintro ds Q Z ⟨qs, m, b, rfl, h0, hm, hb, hb1, hl, h⟩
  simp [g_total, and_assoc]
  refine ⟨fun rest ρ => ∃ done left x, done ++ left = qs ∧ rest = left.map fr ∧ ρ = [.d (.lst (qs.map fr)), .d (fr done.sum), x], ⟨[], qs, .no, rfl, rfl, rfl⟩, ?_, ?_⟩
  · rintro x xs ρ ⟨done, left, y, e, e2, rfl⟩
    cases left with
    | nil => cases e2
    | cons q left =>
      simp only [List.map_cons, List.cons.injEq] at e2
      obtain ⟨rfl, rfl⟩ := e2
      have hq : q ∈ qs := by rw [← e]; simp
      have hd : ∀ z ∈ done, Lat m b z := fun z hz => hl z (by rw [← e]; simp [hz])
      have hlen : done.length ≤ qs.length := by rw [← e]; simp
      have s1 : Sz done.sum := (Lat.sum h0 hd).sz hm (Nat.lt_of_le_of_lt (Nat.mul_le_mul_right _ hlen) hb)
      simp [s1, (hl q hq).sz hm hb1]
      exact ⟨done ++ [q], left, by simpa using e, rfl, by rw [sum_snoc]⟩
  · rintro ρ ⟨done, left, x, e, e2, rfl⟩
    cases left with
    | cons _ _ => cases e2
    | nil =>
      rw [List.append_nil] at e
      subst e
      simpa using h
/-! ### left_at -/
def inQ (ways : List W3) (r : List Rat) (p : Int) : Rat := ((List.zip r ways).filterMap fun x => if x.2.2.1 = p then some x.1 else none).sum
def outQ (ways : List W3) (r : List Rat) (p : Int) : Rat := ((List.zip r ways).filterMap fun x => if x.2.1 = p then some x.1 else none).sum
def leftQ (ways : List W3) (r : List Rat) (p : Int) : Rat := inQ ways r p - outQ ways r p
/-- the numbers of a row are small -/
structure Sm (m b : Nat) (r : List Rat) : Prop where
  m0 : 0 < m
  m1 : m < bD
  b1 : b < bN
  len : r.length * b < bN
  lat : ∀ q ∈ r, Lat m b q
def sp_left_at : Spc := fun ds Q _ => ∃ n ways wares r p m b, ds = [netD n ways wares, rowD r, .int p] ∧ Sm m b r ∧ ways.length ≤ 1000 ∧ Q (fr (leftQ ways r p))
theorem len_left_at : ∀ ds Q Z, sp_left_at ds Q Z → ds.length = 3 := len3 (fun ds Q Z ⟨_, _, _, _, _, _, _, e, _⟩ => ⟨_, _, _, e⟩)
def g_left_at : DS := (dSeq2 (dSet 3 (dCall sp_total (dCons (dFz (dLc (dZip (dCons (dVar 1) (dCons (dOp ixD (dVar 0) (dC (.int 1))) dNil))) (gdTup 2 (gdCons (gdName 4) (gdCons (gdName 5) gdNil))) (dTest (dOp eqD (dOp ixD (dVar 5) (dC (.int 1))) (dVar 2))) (dVar 4) [4, 5])) dNil)))
    (dRet (dCall sp_minus (dCons (dVar 3) (dCons (dCall sp_total (dCons (dFz (dLc (dZip (dCons (dVar 1) (dCons (dOp ixD (dVar 0) (dC (.int 1))) dNil))) (gdTup 2 (gdCons (gdName 4) (gdCons (gdName 5) gdNil))) (dTest (dOp eqD (dOp ixD (dVar 5) (dC (.int 0))) (dVar 2))) (dVar 4) [4, 5])) dNil)) dNil)))))
theorem zip_mem {r : List Rat} {ways : List W3} {x : Rat × W3} (h : x ∈ List.zip r ways) : x.1 ∈ r := (List.of_mem_zip (a := x.1) (b := x.2) h).1
theorem fm_some {α β : Type} {c : α → Bool} {f : α → β} {g : β → D} : ∀ l : List α, l.filterMap (fun x => if c x = true then some (g (f x)) else none) = (l.filterMap fun x => if c x = true then some (f x) else none).map g
  | [] => rfl
  | x :: l => by
    simp only [List.filterMap_cons]
    cases c x
    · simpa using fm_some l
    · simpa using fm_some l
theorem Sm.part {m b : Nat} {r : List Rat} {ways : List W3} (h : Sm m b r) (c : Rat × W3 → Bool) : Sm m b ((List.zip r ways).filterMap fun x => if c x = true then some x.1 else none) := by
  have hl : ((List.zip r ways).filterMap fun x => if c x = true then some x.1 else none).length ≤ r.length := by
    refine Nat.le_trans (List.length_filterMap_le _ _) ?_
    rw [List.length_zip]
    omega
  refine ⟨h.m0, h.m1, h.b1, Nat.lt_of_le_of_lt (Nat.mul_le_mul_right _ hl) h.len, fun q hq => ?_⟩
  obtain ⟨x, hx, e⟩ := List.mem_filterMap.mp hq
  split at e
  · cases e
    exact h.lat _ (zip_mem hx)
  · cases e
theorem Sm.sum {m b : Nat} {r : List Rat} (h : Sm m b r) : Sz r.sum := (Lat.sum h.m0 h.lat).sz h.m1 h.len
theorem total_at {m b : Nat} {r : List Rat} (h : Sm m b r) {Q : D → Prop} {Z : Addr → Prop} (q : Q (fr r.sum)) : sp_total [.lst (r.map fr)] Q Z := ⟨r, m, b, rfl, h.m0, h.m1, h.len, h.b1, h.lat, q⟩
theorem pure_left_at : ∀ ds Q Z, sp_left_at ds Q Z → g_left_at { nx := fun _ => Q .non, rt := Q } (startS ["net", "row", "place", "came", "one", "way"] ds) := by
  rintro ds Q Z ⟨n, ways, wares, r, p, m, b, rfl, hs, hw, h⟩
  have hz : (List.zip r ways).length ≤ 1000000 := by
    rw [List.length_zip]
    omega
  simp [g_left_at, netD, rowD, and_assoc, zipD_map]
  refine ⟨by omega, lc_fmE (fun x => if decide (x.2.2.1 = p) = true then some (fr x.1) else none) (fun x hx Q q => ?_) ?_⟩
  · simp [and_assoc]
    by_cases hp : x.2.2.1 = p
    · simpa [hp] using q
    · simpa [hp] using q
  · rw [fm_some (f := fun x : Rat × W3 => x.1) (g := fr) (c := fun x => decide (x.2.2.1 = p))]
    refine total_at (hs.part _) ?_
    refine ⟨by omega, lc_fmE (fun x => if decide (x.2.1 = p) = true then some (fr x.1) else none) (fun x hx Q q => ?_) ?_⟩
    · simp [and_assoc]
      by_cases hp : x.2.1 = p
      · simpa [hp] using q
      · simpa [hp] using q
    · rw [fm_some (f := fun x : Rat × W3 => x.1) (g := fr) (c := fun x => decide (x.2.1 = p))]
      refine total_at (hs.part _) ?_
      rw [sp_minus_at]
      refine ⟨(hs.part _).sum, (hs.part _).sum, ?_⟩
      simpa [leftQ, inQ, outQ] using h
/-! ### does_go, goes -/
theorem fr_int (c : Int) : D.tup [.int c, .int 1] = fr (c : Rat) := by
  unfold fr
  simp
theorem num_zero (q : Rat) : (q.num = 0) = (q = 0) := by
  rw [Rat.num_eq_zero]
structure Flo (m b : Nat) (ways wares : List W3) (rs : List (List Rat)) : Prop where
  m0 : 0 < m
  m1 : m < bD
  b1 : 1000 * b < bN
  len : rs.length = wares.length
  row : ∀ r ∈ rs, r.length = ways.length
  lat : ∀ r ∈ rs, ∀ q ∈ r, Lat m b q
theorem Flo.sm {m b : Nat} {ways wares : List W3} {rs : List (List Rat)} (h : Flo m b ways wares rs) (hw : ways.length ≤ 10) {r : List Rat} (hr : r ∈ rs) : Sm m b r :=
  ⟨h.m0, h.m1, by have := h.b1; omega, by have := h.b1; have := h.row r hr; exact Nat.lt_of_le_of_lt (Nat.mul_le_mul_right b (show r.length ≤ 1000 by omega)) h.b1, h.lat r hr⟩
/-- what the rows bear on the way in place i -/
def colQ (rs : List (List Rat)) (i : Nat) : Rat := (rs.map fun r => r[i]?.getD 0).sum
theorem Flo.col {m b : Nat} {ways wares : List W3} {rs : List (List Rat)} (h : Flo m b ways wares rs) (hw : wares.length ≤ 3) (i : Nat) (hi : i < ways.length) : Sm m b (rs.map fun r => r[i]?.getD 0) := by
  refine ⟨h.m0, h.m1, by have := h.b1; omega, ?_, fun q hq => ?_⟩
  · have := h.len
    rw [List.length_map]
    exact Nat.lt_of_le_of_lt (Nat.mul_le_mul_right b (show rs.length ≤ 1000 by omega)) h.b1
  · obtain ⟨r, hr, rfl⟩ := List.mem_map.mp hq
    have := h.row r hr
    rw [List.getElem?_eq_getElem (by omega)]
    exact h.lat r hr _ (List.getElem_mem _)
def rowBad (n : Int) (ways : List W3) (x : W3 × List Rat) : Bool := ((List.range n.toNat).filterMap fun p : Nat => if (!decide ((p : Int) ∈ [x.1.1, x.1.2.1])) = true then some (!decide (leftQ ways x.2 p = 0)) else none).any id
def capBad (rs : List (List Rat)) (x : W3 × Nat) : Bool := decide ((x.1.2.2 : Rat) < colQ rs x.2)
def goB (n : Int) (ways wares : List W3) (rs : List (List Rat)) : Bool := !(List.zip wares rs).any (rowBad n ways) && !(ways.zipIdx).any (capBad rs)
def sp_does_go : Spc := fun ds Q _ => ∃ n ways wares rs m b, ds = [netD n ways wares, flowD rs] ∧ Net n ways wares ∧ Flo m b ways wares rs ∧ Q (.bl (goB n ways wares rs))
theorem len_does_go : ∀ ds Q Z, sp_does_go ds Q Z → ds.length = 2 := len2 (fun ds Q Z ⟨_, _, _, _, _, _, e, _⟩ => ⟨_, _, e⟩)
def g_does_go : DS := (dSeq2 (dFor (dZip (dCons (dOp ixD (dVar 0) (dC (.int 2))) (dCons (dVar 1) dNil))) (gdTup 2 (gdCons (gdName 2) (gdCons (gdName 3) gdNil)))
    (dIf (dTest (dCB anyD (dCons (dFz (dLc (dRng1 (dCons (dOp ixD (dVar 0) (dC (.int 0))) dNil)) (gdName 6) (dTest (dOp (inD true) (dVar 6) (dSl (dVar 2) dNoPart (dPart (dC (.int 2)))))) (dOp neD (dOp ixD (dCall sp_left_at (dCons (dVar 0) (dCons (dVar 3) (dCons (dVar 6) dNil)))) (dC (.int 0))) (dC (.int 0))) [6])) dNil)))
    (dRet (dC (.bl false)))
    dSkip))
    (dSeq2 (dFor (dEnum (dCons (dOp ixD (dVar 0) (dC (.int 1))) dNil)) (gdTup 2 (gdCons (gdName 4) (gdCons (gdName 5) gdNil)))
    (dIf (dTest (dCall sp_is_less (dCons (dTup (dCons (dOp ixD (dVar 5) (dC (.int 2))) (dCons (dC (.int 1)) dNil))) (dCons (dCall sp_total (dCons (dFz (dLc (dSeq (dVar 1)) (gdName 3) dYes (dOp ixD (dVar 3) (dVar 4)) [3])) dNil)) dNil))))
    (dRet (dC (.bl false)))
    dSkip))
    (dRet (dC (.bl true)))))
theorem enum_map {α : Type} (g : α → D) : ∀ (k : Nat) (l : List α), enumFrom k (l.map g) = (l.zipIdx k).map fun x => .tup [.int (x.2 : Nat), g x.1]
  | _, [] => rfl
  | k, a :: l => by
    rw [List.map_cons, enumFrom, enum_map g (k + 1) l, List.zipIdx_cons, List.map_cons]
theorem notwhole3 : HT.sIx 3 0 none = 0 → ¬ HT.sIx 3 3 (some 2) = 3 := by
  intro _
  decide
theorem any_mid {α : Type} {f : α → Bool} {xs done left : List α} {a : α} (e : done ++ a :: left = xs) (h : f a = true) : xs.any f = true := by
  subst e
  simp [h]
theorem Net.cap {n : Int} {ways wares : List W3} (h : Net n ways wares) {w : W3} (hw : w ∈ ways) : Sz (w.2.2 : Rat) := by
  obtain ⟨_, _, _, _, _, h1, h2⟩ := h.w w (by simp [hw])
  refine ⟨?_, ?_⟩
  · rw [Rat.den_intCast, bD_eq]
    exact Nat.one_lt_two_pow (by decide)
  · rw [Rat.num_intCast, bN_eq]
    have : 2 ^ 5 ≤ 2 ^ 100000 := Nat.pow_le_pow_right (by decide) (by decide)
    omega
theorem zipIdx_lt {α : Type} {l : List α} {x : α × Nat} (h : x ∈ l.zipIdx) : x.2 < l.length ∧ x.1 ∈ l := by
  have e := List.mem_zipIdx h
  simp at e
  obtain ⟨h1, h2⟩ := e
  refine ⟨h1, ?_⟩
  rw [h2]
  exact List.getElem_mem _
theorem mem_true {l : List Bool} : true ∈ l ↔ l.any id = true := by simp
theorem not_mem_true {l : List Bool} (h : l.any id = false) : ¬ true ∈ l := by
  rw [mem_true, h]
  simp
theorem pure_does_go : ∀ ds Q Z, sp_does_go ds Q Z → g_does_go { nx := fun _ => Q .non, rt := Q } (startS ["net", "flow", "ware", "row", "at", "way", "place"] ds) := by
  rintro ds Q Z ⟨n, ways, wares, rs, m, b, rfl, hn, hf, h⟩
  have n2 := hn.n2
  have n6 := hn.n6
  have lw := hn.lw
  have l3 := hn.l3
  simp [g_does_go, netD, flowD, and_assoc, zipD_map]
  refine for_E (fun done left ρ => done.any (rowBad n ways) = false ∧ ∃ x2 x3 x4 x5 x6, ρ = [.d (netD n ways wares), .d (flowD rs), x2, x3, x4, x5, x6]) ⟨rfl, _, _, _, _, _, rfl⟩ ?_ ?_
  · rintro done ⟨w, r⟩ left ρ N e ⟨h1, x2, x3, x4, x5, x6, rfl⟩ hN
    have hr : r ∈ rs := (List.of_mem_zip (a := w) (b := r) (by rw [← e]; simp)).2
    simp [netD, and_assoc]
    refine ⟨by omega, by omega, lc_fmE (fun p : Nat => if (!decide ((p : Int) ∈ [w.1, w.2.1])) = true then some (.bl (!decide (leftQ ways r p = 0))) else none) (fun p hp Q q => ?_) ?_⟩
    · simp [and_assoc]
      refine ⟨notwhole3, [w.1, w.2.1], rfl, ?_⟩
      by_cases hp : (p : Int) ∈ [w.1, w.2.1]
      · simpa [hp] using q
      · simp [hp] at q
        simp [hp]
        refine ⟨n, ways, wares, r, p, m, b, rfl, hf.sm lw hr, by omega, ?_⟩
        simpa [fr, num_zero] using q
    · rw [fm_some (f := fun p : Nat => !decide (leftQ ways r p = 0)) (g := D.bl) (c := fun p : Nat => !decide ((p : Int) ∈ [w.1, w.2.1]))]
      refine ⟨_, rfl, ?_⟩
      cases hb : rowBad n ways (w, r) with
      | true =>
        have hg : goB n ways wares rs = false := by
          unfold goB
          rw [any_mid e hb]
          rfl
        rw [hg] at h
        unfold rowBad at hb
        rw [if_pos (mem_true.mpr hb)]
        exact h
      | false =>
        have hb' := hb
        unfold rowBad at hb
        rw [if_neg (not_mem_true hb)]
        exact hN _ ⟨by simp [h1, hb'], _, _, _, _, _, rfl⟩
  · rintro ρ ⟨h1, x2, x3, x4, x5, x6, rfl⟩
    simp [netD, flowD, and_assoc, enum_map]
    refine for_E (fun done left ρ => done.any (capBad rs) = false ∧ ∃ x2 x3 x4 x5 x6, ρ = [.d (netD n ways wares), .d (flowD rs), x2, x3, x4, x5, x6]) ⟨rfl, _, _, _, _, _, rfl⟩ ?_ ?_
    · rintro done ⟨w, i⟩ left ρ N e ⟨h2, x2, x3, x4, x5, x6, rfl⟩ hN
      have hw := zipIdx_lt (x := (w, i)) (l := ways) (by rw [← e]; simp)
      have hlr := hf.len
      simp [flowD, and_assoc]
      refine ⟨by omega, lc_mapE (fun r => fr (r[i]?.getD 0)) (fun r hr Q q => ?_) ?_⟩
      · have := hf.row r hr
        have hi : i < r.length := by have := hw.1; omega
        simp [rowD]
        rw [atI_of (n := i) (a := fr (r[i]?.getD 0)) (by rw [List.getElem?_map, List.getElem?_eq_getElem hi]; rfl)]
        simpa using q
      · have em : rs.map (fun r => fr (r[i]?.getD 0)) = (rs.map fun r => r[i]?.getD 0).map fr := by
          rw [List.map_map]
          rfl
        rw [em]
        refine total_at (hf.col l3 i hw.1) ?_
        rw [fr_int, sp_is_less_at]
        refine ⟨hn.cap hw.2, (hf.col l3 i hw.1).sum, ?_⟩
        simp
        cases hb : capBad rs (w, i) with
        | true =>
          have hg : goB n ways wares rs = false := by
            unfold goB
            rw [any_mid e hb]
            simp
          rw [hg] at h
          have hb' : (w.2.2 : Rat) < (rs.map fun r => r[i]?.getD 0).sum := of_decide_eq_true hb
          simpa [hb'] using h
        | false =>
          have hb' : ¬ (w.2.2 : Rat) < (rs.map fun r => r[i]?.getD 0).sum := of_decide_eq_false hb
          simp [hb']
          exact hN _ ⟨by simp [h2, hb], _, _, _, _, _, rfl⟩
    · rintro ρ ⟨h2, x2, x3, x4, x5, x6, rfl⟩
      simpa [goB, h1, h2] using h
/-- what a checked def says: N, F the refusals' ends, K the end for a sound net and flow -/
def Chk (net flow : D) (N F : Prop) (K : Int → List W3 → List W3 → List (List Rat) → Prop) : Prop :=
  NetF net ∧ FlowF flow ∧ (netB net = false → N) ∧ (netB net = true → flowB net flow = false → F) ∧ (netB net = true → flowB net flow = true → ∃ n ways wares rs m b, net = netD n ways wares ∧ flow = flowD rs ∧ Net n ways wares ∧ Flo m b ways wares rs ∧ K n ways wares rs)
def sp_goes (aF aN : Addr) : Spc := fun ds Q Z => ∃ net flow, ds = [net, flow] ∧ Chk net flow (Z aN) (Z aF) fun n ways wares rs => Q (.bl (goB n ways wares rs))
theorem len_goes (aF aN : Addr) : ∀ ds Q Z, sp_goes aF aN ds Q Z → ds.length = 2 := len2 (fun ds Q Z ⟨_, _, e, _⟩ => ⟨_, _, e⟩)
def g_goes (a_BadFlow : Addr) (a_BadNet : Addr) : DS := (dSeq2 (dCallX (sp_need_flow a_BadFlow a_BadNet) (dCons (dVar 0) (dCons (dVar 1) dNil)))
    (dRet (dCall sp_does_go (dCons (dVar 0) (dCons (dVar 1) dNil)))))
theorem pure_goes (aF aN : Addr) : ∀ ds Q Z, sp_goes aF aN ds Q Z → g_goes aF aN { nx := fun _ => Q .non, rt := Q, xx := Z } (startS ["net", "flow"] ds) := by
  rintro ds Q Z ⟨net, flow, rfl, hd, hf, h1, h2, h3⟩
  simp [g_goes, hd, hf]
  cases e : netB net with
  | false => simpa using h1 e
  | true =>
    cases e2 : flowB net flow with
    | false => simpa using h2 e e2
    | true =>
      obtain ⟨n, ways, wares, rs, m, b, rfl, rfl, hn, ho, q⟩ := h3 e e2
      simp
      exact ⟨n, ways, wares, rs, m, b, rfl, hn, ho, q⟩
/-! ### brought_by, brought -/
def brL (ways wares : List W3) (rs : List (List Rat)) : List Rat := (List.zip wares rs).map fun x => leftQ ways x.2 x.1.2.1
def sp_brought_by : Spc := fun ds Q _ => ∃ n ways wares rs m b, ds = [netD n ways wares, flowD rs] ∧ Net n ways wares ∧ Flo m b ways wares rs ∧ Q (.lst ((brL ways wares rs).map fr))
theorem len_brought_by : ∀ ds Q Z, sp_brought_by ds Q Z → ds.length = 2 := len2 (fun ds Q Z ⟨_, _, _, _, _, _, e, _⟩ => ⟨_, _, e⟩)
def g_brought_by : DS := (dRet (dFz (dLc (dZip (dCons (dOp ixD (dVar 0) (dC (.int 2))) (dCons (dVar 1) dNil))) (gdTup 2 (gdCons (gdName 2) (gdCons (gdName 3) gdNil))) dYes (dCall sp_left_at (dCons (dVar 0) (dCons (dVar 3) (dCons (dOp ixD (dVar 2) (dC (.int 1))) dNil)))) [2, 3])))
theorem pure_brought_by : ∀ ds Q Z, sp_brought_by ds Q Z → g_brought_by { nx := fun _ => Q .non, rt := Q } (startS ["net", "flow", "ware", "row"] ds) := by
  rintro ds Q Z ⟨n, ways, wares, rs, m, b, rfl, hn, hf, h⟩
  have lw := hn.lw
  have l3 := hn.l3
  simp [g_brought_by, netD, flowD, and_assoc, zipD_map]
  refine ⟨by omega, lc_mapE (fun x => fr (leftQ ways x.2 x.1.2.1)) (fun x hx Q q => ?_) ?_⟩
  · have hr : x.2 ∈ rs := (List.of_mem_zip (a := x.1) (b := x.2) hx).2
    simp [and_assoc]
    exact ⟨n, ways, wares, x.2, x.1.2.1, m, b, rfl, hf.sm lw hr, by omega, q⟩
  · simpa [brL, Function.comp_def] using h
def sp_brought (aF aN : Addr) : Spc := fun ds Q Z => ∃ net flow, ds = [net, flow] ∧ Chk net flow (Z aN) (Z aF) fun n ways wares rs => Q (.lst ((brL ways wares rs).map fr))
theorem len_brought (aF aN : Addr) : ∀ ds Q Z, sp_brought aF aN ds Q Z → ds.length = 2 := len2 (fun ds Q Z ⟨_, _, e, _⟩ => ⟨_, _, e⟩)
def g_brought (a_BadFlow : Addr) (a_BadNet : Addr) : DS := (dSeq2 (dCallX (sp_need_flow a_BadFlow a_BadNet) (dCons (dVar 0) (dCons (dVar 1) dNil)))
    (dRet (dCall sp_brought_by (dCons (dVar 0) (dCons (dVar 1) dNil)))))
theorem pure_brought (aF aN : Addr) : ∀ ds Q Z, sp_brought aF aN ds Q Z → g_brought aF aN { nx := fun _ => Q .non, rt := Q, xx := Z } (startS ["net", "flow"] ds) := by
  rintro ds Q Z ⟨net, flow, rfl, hd, hf, h1, h2, h3⟩
  simp [g_brought, hd, hf]
  cases e : netB net with
  | false => simpa using h1 e
  | true =>
    cases e2 : flowB net flow with
    | false => simpa using h2 e e2
    | true =>
      obtain ⟨n, ways, wares, rs, m, b, rfl, rfl, hn, ho, q⟩ := h3 e e2
      simp
      exact ⟨n, ways, wares, rs, m, b, rfl, hn, ho, q⟩
end Dy

/-! # The law's own reckoning. -/
namespace Dy
variable [Tn]
open PySem PySem.Spec PyProof.Rows L2
/-! ### cells, draws -/
theorem mulR {i j : Int} (h1 : -(2 ^ 64) < j) (h2 : j < 2 ^ 64) : IntMulOk i j := IntMulOk.of_right (intBits_le_64 h1 h2)
theorem mulSm {i j : Int} (hi : i.natAbs < 2 ^ 1000) (hj : j.natAbs < 2 ^ 1000) : IntMulOk i j := (wide_mul hi hj (by decide) (by decide) (by decide)).ok
theorem lt1000 {a k : Nat} (h : a < 2 ^ k) (hk : k ≤ 1000) : a < 2 ^ 1000 := Nat.lt_of_lt_of_le h (Nat.pow_le_pow_right (by decide) hk)
theorem divSm {i j : Int} (h0 : 0 < j) (hj : j.natAbs < 2 ^ 1000) : CDivW i j := wide_div (by omega) (b := 1000) hj (by decide) (by decide)
def sp__law_cell : Spc := fun ds Q _ => ∃ (ns : List Int) (k : Nat), ds = [.scr ns, .int k] ∧ k < 1000 ∧ ns.length ≤ 1000 ∧ ∀ v : Int, Q (.int v)
theorem len__law_cell : ∀ ds Q Z, sp__law_cell ds Q Z → ds.length = 2 := len2 (fun ds Q Z ⟨_, _, e, _⟩ => ⟨_, _, e⟩)
@[simp] theorem eqv_scr_nil (ns : List Int) : eqv (.scr ns) (.lst []) = ns.isEmpty := by
  cases ns <;> simp [eqv, toPy, toPyL, PyData.eqv, PyData.eqvAll]
def g__law_cell : DS := (dSeq2 (dIf (dTest (dOp eqD (dVar 0) (dLst dNil)))
    (dRet (dOp mulD (dVar 1) (dC (.int 7919))))
    dSkip)
    (dRet (dOp addD (dOp ixD (dVar 0) (dOp modD (dVar 1) (dCB lenD (dCons (dVar 0) dNil)))) (dOp mulD (dOp fdivD (dVar 1) (dCB lenD (dCons (dVar 0) dNil))) (dC (.int 104729))))))
theorem small_lt {n : Nat} (h : n < 2 ^ 200) : n < 2 ^ 1000 := Nat.lt_of_lt_of_le h (Nat.pow_le_pow_right (by decide) (by decide))
theorem pure__law_cell : ∀ ds Q Z, sp__law_cell ds Q Z → g__law_cell { nx := fun _ => Q .non, rt := Q } (startS ["_law_script", "_law_k"] ds) := by
  rintro ds Q Z ⟨ns, k, rfl, hk, hl, h⟩
  simp [g__law_cell, and_assoc]
  cases ns with
  | nil =>
    simp
    exact ⟨mulR (by decide) (by decide), h _⟩
  | cons a ns =>
    have hi : k % (a :: ns).length < (a :: ns).length := Nat.mod_lt _ (by simp)
    have e : (k : Int) % ((ns.length : Int) + 1) = ((k % (a :: ns).length : Nat) : Int) := by simp
    have hl' : ns.length ≤ 1000 := by simp at hl; omega
    simp
    refine ⟨(a :: ns)[k % (a :: ns).length], ?_, divSm (by omega) (small_lt (by omega)), mulR (by decide) (by decide), h _⟩
    rw [e]
    exact atI_of (by rw [List.getElem?_eq_getElem hi])
def sp__law_drawn : Spc := fun ds Q _ => ∃ (c : Int) (k : Nat), ds = [.int c, .int k] ∧ ∀ v : Nat, v < 2 ^ 128 → Q (.int v)
theorem len__law_drawn : ∀ ds Q Z, sp__law_drawn ds Q Z → ds.length = 2 := len2 (fun ds Q Z ⟨_, _, e, _⟩ => ⟨_, _, e⟩)
def g__law_drawn : DS := (dSeq2 (dSet 2 (dOp modD (dOp addD (dOp mulD (dVar 0) (dC (.int 6364136223846793005))) (dOp mulD (dOp addD (dVar 1) (dC (.int 1))) (dC (.int 1442695040888963407)))) (dC (.int 340282366920938463463374607431768211507))))
    (dRet (dOp modD (dOp mulD (dVar 2) (dVar 2)) (dC (.int 340282366920938463463374607431768211297)))))
theorem pure__law_drawn : ∀ ds Q Z, sp__law_drawn ds Q Z → g__law_drawn { nx := fun _ => Q .non, rt := Q } (startS ["_law_cell_here", "_law_k", "_law_more"] ds) := by
  rintro ds Q Z ⟨c, k, rfl, h⟩
  simp [g__law_drawn, and_assoc]
  refine ⟨mulR (by decide) (by decide), mulR (by decide) (by decide), ?_⟩
  generalize hx : (c * 6364136223846793005 + ((k : Int) + 1) * 1442695040888963407) % 340282366920938463463374607431768211507 = x
  have hx0 : 0 ≤ x := by rw [← hx]; exact Int.emod_nonneg _ (by decide)
  have hx1 : x < 340282366920938463463374607431768211507 := by rw [← hx]; exact Int.emod_lt_of_pos _ (by decide)
  refine ⟨mulSm (small_lt (by omega)) (small_lt (by omega)), ?_⟩
  generalize hy : x * x % 340282366920938463463374607431768211297 = y
  have hy0 : 0 ≤ y := by rw [← hy]; exact Int.emod_nonneg _ (by decide)
  have hy1 : y < 340282366920938463463374607431768211297 := by rw [← hy]; exact Int.emod_lt_of_pos _ (by decide)
  obtain ⟨v, rfl⟩ := Int.eq_ofNat_of_zero_le hy0
  exact h v (by omega)
/-! ### the law's fractions -/
def sp__law_made : Spc := fun ds Q _ => ∃ (n : Int) (d : Nat), ds = [.int n, .int d] ∧ 0 < d ∧ d < 2 ^ 9000 ∧ Q (fr (mkRat n d))
theorem len__law_made : ∀ ds Q Z, sp__law_made ds Q Z → ds.length = 2 := fun ds Q Z ⟨a, b, e, _⟩ => by rw [e]; rfl
@[simp] theorem sp__law_made_at (n : Int) (d : Nat) (Q : D → Prop) (Z : Addr → Prop) : sp__law_made [.int n, .int d] Q Z ↔ 0 < d ∧ d < 2 ^ 9000 ∧ Q (fr (mkRat n d)) := sp_fraction_at n d Q Z
def g__law_made : DS := (dSeq2 (dPar 2 3 (dCons (dCB absD (dCons (dVar 0) dNil)) (dCons (dVar 1) dNil)))
    (dSeq2 (dWhile (dTest (dOp (cmpD fun i j => decide (j < i)) (dVar 3) (dC (.int 0))))
    (dPar 2 3 (dCons (dVar 3) (dCons (dOp modD (dVar 2) (dVar 3)) dNil))))
    (dRet (dTup (dCons (dOp fdivD (dVar 0) (dVar 2)) (dCons (dOp fdivD (dVar 1) (dVar 2)) dNil))))))
theorem pure__law_made : ∀ ds Q Z, sp__law_made ds Q Z → g__law_made { nx := fun _ => Q .non, rt := Q } (startS ["_law_top", "_law_under_here", "_law_one", "_law_other"] ds) := by
  rintro ds Q Z ⟨a, b, rfl, hd, hs, h⟩
  have hg : 0 < Nat.gcd a.natAbs b := Nat.gcd_pos_of_pos_right _ hd
  have hl : Nat.gcd a.natAbs b ≤ b := Nat.gcd_le_right _ hd
  rw [fr_mkRat a b hd] at h
  simp [g__law_made, and_assoc]
  refine ⟨fun n ρ => ∃ x y : Nat, ρ = [.d (.int a), .d (.int b), .d (.int x), .d (.int y)] ∧ Nat.gcd x y = Nat.gcd a.natAbs b ∧ y = n, ⟨b, a.natAbs, b, rfl, rfl, rfl⟩, ?_⟩
  rintro n ρ ⟨x, y, rfl, e, rfl⟩
  by_cases hy : 0 < y
  · simp [hy, and_assoc]
    refine ⟨x % y, Nat.mod_lt _ hy, y, rfl, by simp, ?_⟩
    rw [Nat.gcd_comm, ← Nat.gcd_rec, Nat.gcd_comm]
    exact e
  · have hz : y = 0 := by omega
    subst hz
    have e2 : x = Nat.gcd a.natAbs b := by simpa using e
    subst e2
    simp
    exact ⟨divOk hg hl hs, divOk hg hl hs, h⟩
def sp__law_plus : Spc := sp_plus
theorem len__law_plus : ∀ ds Q Z, sp__law_plus ds Q Z → ds.length = 2 := len_plus
@[simp] theorem sp__law_plus_at (p q : Rat) (Q : D → Prop) (Z : Addr → Prop) : sp__law_plus [fr p, fr q] Q Z ↔ Sz p ∧ Sz q ∧ Q (fr (p + q)) := sp_plus_at p q Q Z
def g__law_plus : DS := (dRet (dCall sp__law_made (dCons (dOp addD (dOp mulD (dOp ixD (dVar 0) (dC (.int 0))) (dOp ixD (dVar 1) (dC (.int 1)))) (dOp mulD (dOp ixD (dVar 1) (dC (.int 0))) (dOp ixD (dVar 0) (dC (.int 1))))) (dCons (dOp mulD (dOp ixD (dVar 0) (dC (.int 1))) (dOp ixD (dVar 1) (dC (.int 1)))) dNil))))
theorem pure__law_plus : ∀ ds Q Z, sp__law_plus ds Q Z → g__law_plus { nx := fun _ => Q .non, rt := Q } (startS ["_law_one", "_law_other"] ds) := by
  rintro ds Q Z ⟨p, q, rfl, hp, hq, h⟩
  rw [Rat.add_def'] at h
  simp [g__law_plus, fr, cast2, -Int.natCast_mul, mulOk hp.num hq.denN, mulOk hq.num hp.denN, mulOk hp.denN hq.denN, den_pos2, den_prod hp.den hq.den]
  exact h
def sp__law_times : Spc := sp_times
theorem len__law_times : ∀ ds Q Z, sp__law_times ds Q Z → ds.length = 2 := len_times
@[simp] theorem sp__law_times_at (p q : Rat) (Q : D → Prop) (Z : Addr → Prop) : sp__law_times [fr p, fr q] Q Z ↔ Sz p ∧ Sz q ∧ Q (fr (p * q)) := sp_times_at p q Q Z
def g__law_times : DS := (dRet (dCall sp__law_made (dCons (dOp mulD (dOp ixD (dVar 0) (dC (.int 0))) (dOp ixD (dVar 1) (dC (.int 0)))) (dCons (dOp mulD (dOp ixD (dVar 0) (dC (.int 1))) (dOp ixD (dVar 1) (dC (.int 1)))) dNil))))
theorem pure__law_times : ∀ ds Q Z, sp__law_times ds Q Z → g__law_times { nx := fun _ => Q .non, rt := Q } (startS ["_law_one", "_law_other"] ds) := by
  rintro ds Q Z ⟨p, q, rfl, hp, hq, h⟩
  rw [Rat.mul_def'] at h
  simp [g__law_times, fr, cast2, -Int.natCast_mul, mulOk hp.num hq.num, mulOk hp.denN hq.denN, den_pos2, den_prod hp.den hq.den]
  exact h
def sp__law_under : Spc := sp_is_less
theorem len__law_under : ∀ ds Q Z, sp__law_under ds Q Z → ds.length = 2 := len_is_less
@[simp] theorem sp__law_under_at (p q : Rat) (Q : D → Prop) (Z : Addr → Prop) : sp__law_under [fr p, fr q] Q Z ↔ Sz p ∧ Sz q ∧ Q (.bl (decide (p < q))) := sp_is_less_at p q Q Z
def g__law_under : DS := (dRet (dOp ltD (dOp mulD (dOp ixD (dVar 0) (dC (.int 0))) (dOp ixD (dVar 1) (dC (.int 1)))) (dOp mulD (dOp ixD (dVar 1) (dC (.int 0))) (dOp ixD (dVar 0) (dC (.int 1))))))
theorem pure__law_under : ∀ ds Q Z, sp__law_under ds Q Z → g__law_under { nx := fun _ => Q .non, rt := Q } (startS ["_law_one", "_law_other"] ds) := by
  rintro ds Q Z ⟨p, q, rfl, hp, hq, h⟩
  simp only [Rat.lt_iff] at h
  simp [g__law_under, fr, mulOk hp.num hq.denN, mulOk hq.num hp.denN]
  exact h
def sp__law_all : Spc := sp_total
theorem len__law_all : ∀ ds Q Z, sp__law_all ds Q Z → ds.length = 1 := len_total
def g__law_all : DS := (dSeq2 (dSet 1 (dTup (dCons (dC (.int 0)) (dCons (dC (.int 1)) dNil))))
    (dSeq2 (dFor (dSeq (dVar 0)) (gdName 2)
    (dSet 1 (dCall sp__law_plus (dCons (dVar 1) (dCons (dVar 2) dNil)))))
    (dRet (dVar 1))))
theorem pure__law_all : ∀ ds Q Z, sp__law_all ds Q Z → g__law_all { nx := fun _ => Q .non, rt := Q } (startS ["_law_some", "_law_found", "_law_one"] ds) := by
  rintro ds Q Z ⟨qs, m, b, rfl, h0, hm, hb, hb1, hl, h⟩
  simp [g__law_all, and_assoc]
  refine for_E (fun done left ρ => ∃ x, ρ = [.d (.lst (qs.map fr)), .d (fr done.sum), x]) ⟨.no, rfl⟩ ?_ ?_
  · rintro done q left ρ N e ⟨y, rfl⟩ hN
    have hq : q ∈ qs := by rw [← e]; simp
    have hd : ∀ z ∈ done, Lat m b z := fun z hz => hl z (by rw [← e]; simp [hz])
    have hlen : done.length ≤ qs.length := by rw [← e]; simp
    have s1 : Sz done.sum := (Lat.sum h0 hd).sz hm (Nat.lt_of_le_of_lt (Nat.mul_le_mul_right _ hlen) hb)
    simp [s1, (hl q hq).sz hm hb1]
    exact hN _ ⟨_, by rw [sum_snoc]⟩
  · rintro ρ ⟨x, rfl⟩
    simpa using h
end Dy

/-! # Rooms. -/
namespace Dy
variable [Tn]
open PySem PySem.Spec PyProof.Rows L2
abbrev KL := M40.Lf Key
abbrev KP := List (Key × Key)
abbrev kI : Int → Key := Sum.inl
abbrev src : Key := .inr "from"
abbrev snk : Key := .inr "to"
theorem apart : M40.Ap kI src snk := ⟨fun a b h => by injection h, (by intro v h; cases h), (by intro v h; cases h), fun h => absurd (Sum.inr.inj h) (by decide +kernel)⟩
def dctOf (ks : KP) (L : KL) : List (List Key × Int) := ks.map fun p => ([p.1, p.2], L p.1 p.2)
theorem valI_dct {L : KL} {u v : Key} : ∀ {ks : KP}, (u, v) ∈ ks → valI (dctOf ks L) [u, v] = some (L u v)
  | (a, b) :: ks, h => by
    simp only [valI, dctOf, List.map_cons, List.find?_cons]
    by_cases e : a = u ∧ b = v
    · obtain ⟨rfl, rfl⟩ := e
      simp
    · have hne : ¬ ([a, b] = [u, v]) := fun z => e (by simpa using z)
      have hm : (u, v) ∈ ks := by
        rcases List.mem_cons.mp h with z | z
        · exact absurd (by cases z; exact ⟨rfl, rfl⟩) e
        · exact z
      simp only [hne, decide_false]
      exact valI_dct (L := L) hm
theorem valI_dct_none {L : KL} {u v : Key} : ∀ {ks : KP}, (u, v) ∉ ks → valI (dctOf ks L) [u, v] = none
  | [], _ => rfl
  | (a, b) :: ks, h => by
    simp only [valI, dctOf, List.map_cons, List.find?_cons]
    have hne : ¬ ([a, b] = [u, v]) := fun z => h (by
      have : a = u ∧ b = v := by simpa using z
      rw [this.1, this.2]
      simp)
    simp only [hne, decide_false]
    exact valI_dct_none (L := L) (fun z => h (by simp [z]))
theorem putI_dct {L : KL} {u v : Key} {x : Int} (ks : KP) : putI (dctOf ks L) [u, v] x = dctOf (M40.addK ks u v) (M40.upd L u v x) := by
  have hany : ((dctOf ks L).any fun y => decide (y.1 = [u, v])) = true ↔ (u, v) ∈ ks := by
    simp only [dctOf, List.any_map, List.any_eq_true, Function.comp, decide_eq_true_eq]
    constructor
    · rintro ⟨⟨a, b⟩, hm, e⟩
      have : a = u ∧ b = v := by simpa using e
      rw [← this.1, ← this.2]
      exact hm
    · intro h
      exact ⟨(u, v), h, rfl⟩
  unfold putI M40.addK
  by_cases h : (u, v) ∈ ks
  · rw [if_pos (hany.mpr h), if_pos h]
    unfold dctOf
    rw [List.map_map]
    refine List.map_congr_left fun p _ => ?_
    simp only [Function.comp, M40.upd]
    by_cases e : p.1 = u ∧ p.2 = v
    · obtain ⟨e1, e2⟩ := e
      simp [e1, e2]
    · have hne : ¬ ([p.1, p.2] = [u, v]) := fun z => e (by simpa using z)
      simp [hne, e]
  · rw [if_neg (fun z => h (hany.mp z)), if_neg h]
    unfold dctOf
    rw [List.map_append]
    congr 1
    · refine List.map_congr_left fun p hp => ?_
      have e : ¬ (p.1 = u ∧ p.2 = v) := fun z => h (by rw [← z.1, ← z.2]; exact hp)
      simp [M40.upd, e]
    · simp [M40.upd]
theorem dct_len (ks : KP) (L : KL) : (dctOf ks L).length = ks.length := by simp [dctOf]
/-! ### the start -/
def eD (e : M40.En Key) : D := .tup [dKey e.1, dKey e.2.1, .int e.2.2]
def floorD (n : Int) (ls : List W3) : D := .tup [.int n, .lst (ls.map wD)]
abbrev leftF (ks : KP) (L : KL) : Fs := [("left", .dct (dctOf ks L))]
def sp_Rooms___init__ : Spm := fun fs ds Q => ∃ (n : Int) (ls : List W3) (es : List (M40.En Key)), fs = [] ∧ ds = [floorD n ls, .lst (es.map eD)] ∧ ls.length ≤ 1000 ∧ es.length ≤ 1000 ∧ Q (leftF (M40.enK (M40.lnK kI [] ls) es) (M40.enF (M40.lnF kI (fun _ _ => 0) ls) es)) .non
theorem len_Rooms___init__ : ∀ fs ds Q, sp_Rooms___init__ fs ds Q → ds.length + 1 = 3 := fun fs ds Q ⟨_, _, _, _, e, _⟩ => by rw [e]; rfl
def g_Rooms___init__ (a_Rooms : Addr) : DS := (dSeq2 (dFNew 0 a_Rooms "left")
    (dSeq2 (dFor (dSeq (dOp ixD (dVar 1) (dC (.int 1)))) (gdTup 3 (gdCons (gdName 3) (gdCons (gdName 4) (gdCons (gdName 5) gdNil))))
    (dSeq2 (dDPut 0 a_Rooms "left" (dTpl (dCons (dVar 3) (dCons (dVar 4) dNil))) (dVar 5))
    (dDPut 0 a_Rooms "left" (dTpl (dCons (dVar 4) (dCons (dVar 3) dNil))) (dVar 5))))
    (dFor (dSeq (dVar 2)) (gdTup 3 (gdCons (gdName 6) (gdCons (gdName 7) (gdCons (gdName 8) gdNil))))
    (dSeq2 (dDPut 0 a_Rooms "left" (dTpl (dCons (dVar 6) (dCons (dVar 7) dNil))) (dOp addD (dDGet2 0 a_Rooms "left" (dTpl (dCons (dVar 6) (dCons (dVar 7) dNil))) (dC (.int 0))) (dVar 8)))
    (dDPut 0 a_Rooms "left" (dTpl (dCons (dVar 7) (dCons (dVar 6) dNil))) (dDGet2 0 a_Rooms "left" (dTpl (dCons (dVar 7) (dCons (dVar 6) dNil))) (dC (.int 0))))))))
theorem add2_len (ks : KP) (u v : Key) : (M40.add2 ks u v).length ≤ ks.length + 2 := by
  have h1 := M40.addK_len ks u v
  have h2 := M40.addK_len (M40.addK ks u v) v u
  unfold M40.add2
  omega
theorem lnK_len : ∀ (ls : List W3) (ks : KP), (M40.lnK kI ks ls).length ≤ ks.length + 2 * ls.length
  | [], ks => by simp [M40.lnK]
  | l :: ls, ks => by
    have := lnK_len ls (M40.add2 ks (kI l.1) (kI l.2.1))
    have := add2_len ks (kI l.1) (kI l.2.1)
    show (M40.lnK kI (M40.add2 ks (kI l.1) (kI l.2.1)) ls).length ≤ _
    rw [List.length_cons]
    omega
theorem enK_len : ∀ (es : List (M40.En Key)) (ks : KP), (M40.enK ks es).length ≤ ks.length + 2 * es.length
  | [], ks => by simp [M40.enK]
  | e :: es, ks => by
    have := enK_len es (M40.add2 ks e.1 e.2.1)
    have := add2_len ks e.1 e.2.1
    show (M40.enK (M40.add2 ks e.1 e.2.1) es).length ≤ _
    rw [List.length_cons]
    omega
theorem upd_same' {L : KL} {u v : Key} : M40.upd L u v (L u v) = L := by
  funext a b
  unfold M40.upd
  split
  · rename_i h
    rw [h.1, h.2]
  · rfl
/-- what is not there is nought -/
def Zr (ks : KP) (L : KL) : Prop := ∀ u v, (u, v) ∉ ks → L u v = 0
theorem Zr.get {ks : KP} {L : KL} (h : Zr ks L) (u v : Key) : (valI (dctOf ks L) [u, v]).getD 0 = L u v := by
  by_cases e : (u, v) ∈ ks
  · rw [valI_dct e]; rfl
  · rw [valI_dct_none e, h u v e]; rfl
theorem Zr.put {ks : KP} {L : KL} (h : Zr ks L) (u v : Key) (x : Int) : Zr (M40.addK ks u v) (M40.upd L u v x) := fun a b n => by
  rw [M40.mem_addK] at n
  have n' : ¬ (a = u ∧ b = v) := fun z => n (.inr (by rw [z.1, z.2]))
  simp only [M40.upd, n', if_false]
  exact h a b fun z => n (.inl z)
theorem lnK_snoc (ks : KP) (ls : List W3) (l : W3) : M40.lnK kI ks (ls ++ [l]) = M40.add2 (M40.lnK kI ks ls) (kI l.1) (kI l.2.1) := by simp [M40.lnK, List.foldl_append]
theorem lnF_snoc (L : KL) (ls : List W3) (l : W3) : M40.lnF kI L (ls ++ [l]) = M40.upd (M40.upd (M40.lnF kI L ls) (kI l.1) (kI l.2.1) l.2.2) (kI l.2.1) (kI l.1) l.2.2 := by simp [M40.lnF, List.foldl_append]
theorem enK_snoc (ks : KP) (es : List (M40.En Key)) (e : M40.En Key) : M40.enK ks (es ++ [e]) = M40.add2 (M40.enK ks es) e.1 e.2.1 := by simp [M40.enK, List.foldl_append]
theorem enF_snoc (L : KL) (es : List (M40.En Key)) (e : M40.En Key) : M40.enF L (es ++ [e]) = M40.upd (M40.enF L es) e.1 e.2.1 (M40.enF L es e.1 e.2.1 + e.2.2) := by simp [M40.enF, List.foldl_append]
theorem dct_nil : leftF [] (fun _ _ => 0) = ([("left", FV.dct [])] : Fs) := rfl
theorem pure_Rooms___init__ (C : Addr) : ∀ a fs ds Q, sp_Rooms___init__ fs ds Q → g_Rooms___init__ C (gM C a Q) (startM ["self", "floor", "ends", "one", "other", "room", "first", "second", "much"] (.inst C (some a) fs) ds) := by
  rintro a fs ds Q ⟨n, ls, es, rfl, rfl, hl, he, h⟩
  simp [g_Rooms___init__, floorD, putFV, and_assoc]
  refine for_E (fun done left ρ => ∃ x3 x4 x5, ρ = [.own (.inst C (some a) (leftF (M40.lnK kI [] done) (M40.lnF kI (fun _ _ => 0) done))), .d (floorD n ls), .d (.lst (es.map eD)), x3, x4, x5, .no, .no, .no]) ⟨.no, .no, .no, rfl⟩ ?_ ?_
  · rintro done ⟨x, y, r⟩ left ρ N e ⟨x3, x4, x5, rfl⟩ hN
    have hk := lnK_len done []
    have hd : done.length ≤ ls.length := by rw [← e]; simp
    simp only [List.length_nil] at hk
    have h2 : (M40.addK (M40.lnK kI [] done) (Sum.inl x) (Sum.inl y)).length ≤ _ := M40.addK_len (M40.lnK kI [] done) (kI x) (kI y)
    simp [putFV, dct_len, putI_dct, and_assoc]
    refine ⟨by omega, by omega, hN _ ⟨.d (.int x), .d (.int y), .d (.int r), ?_⟩⟩
    rw [lnK_snoc, lnF_snoc]
    rfl
  · rintro ρ ⟨x3, x4, x5, rfl⟩
    have hk0 := lnK_len ls []
    simp only [List.length_nil] at hk0
    have z0 : ∀ (ls : List W3) (ks : KP) (L : KL), Zr ks L → Zr (M40.lnK kI ks ls) (M40.lnF kI L ls) := by
      intro ls
      induction ls with
      | nil => intro ks L h; exact h
      | cons l ls ih => intro ks L h; exact ih _ _ ((h.put _ _ _).put _ _ _)
    have z1 : ∀ (es : List (M40.En Key)) (ks : KP) (L : KL), Zr ks L → Zr (M40.enK ks es) (M40.enF L es) := by
      intro es
      induction es with
      | nil => intro ks L h; exact h
      | cons e es ih =>
        intro ks L h
        refine ih _ _ ?_
        have := ((h.put e.1 e.2.1 (L e.1 e.2.1 + e.2.2)).put e.2.1 e.1 (M40.upd L e.1 e.2.1 (L e.1 e.2.1 + e.2.2) e.2.1 e.1))
        rw [upd_same'] at this
        exact this
    have z := z0 ls [] (fun _ _ => 0) (fun _ _ _ => rfl)
    generalize M40.lnK kI [] ls = K0 at z hk0 h
    generalize M40.lnF kI (fun x x => 0) ls = L0 at z h
    simp
    refine for_E (fun done left ρ => ∃ x3 x4 x5 x6 x7 x8, ρ = [.own (.inst C (some a) (leftF (M40.enK K0 done) (M40.enF L0 done))), .d (floorD n ls), .d (.lst (es.map eD)), x3, x4, x5, x6, x7, x8]) ⟨_, _, _, _, _, _, rfl⟩ ?_ ?_
    · rintro done e left ρ N e1 ⟨x3, x4, x5, x6, x7, x8, rfl⟩ hN
      have zd := z1 done K0 L0 z
      have hk := enK_len done K0
      have hd : done.length ≤ es.length := by rw [← e1]; simp
      generalize hKd : M40.enK K0 done = Kd at zd hk
      generalize hLd : M40.enF L0 done = Ld at zd
      have h2 := M40.addK_len Kd e.1 e.2.1
      have zd2 := zd.put e.1 e.2.1 (Ld e.1 e.2.1 + e.2.2)
      simp [eD, putFV, dct_len, putI_dct, and_assoc, zd.get, zd2.get, upd_same']
      refine ⟨by omega, by omega, hN _ ⟨x3, x4, x5, .d (dKey e.1), .d (dKey e.2.1), .d (.int e.2.2), ?_⟩⟩
      rw [enK_snoc, enF_snoc, hKd, hLd]
      rfl
    · rintro ρ ⟨x3, x4, x5, x6, x7, x8, rfl⟩
      simpa using h
end Dy

/-! # Rooms: what is come to, a push. -/
namespace Dy
variable [Tn]
open PySem PySem.Spec PyProof.Rows L2
def oD : Option Key → D
  | none => .non
  | some k => dKey k
abbrev KF := M40.Fo Key
def foD (f : KF) : D := .dic (f.map (·.1)) (f.map fun x => oD x.2)
theorem getL_fo {k : Key} : ∀ {f : KF}, getL (f.map (·.1)) (f.map fun x => oD x.2) k = (@List.lookup Key (Option Key) instBEqOfDecidableEq k f).map oD
  | [] => rfl
  | (a, r) :: f => by
    have ih := getL_fo (k := k) (f := f)
    simp only [getL, List.map_cons, List.zip_cons_cons, List.find?_cons] at ih ⊢
    have e : @List.lookup Key (Option Key) instBEqOfDecidableEq k ((a, r) :: f) = match @BEq.beq Key instBEqOfDecidableEq k a with | true => some r | false => @List.lookup Key (Option Key) instBEqOfDecidableEq k f := rfl
    rw [e]
    by_cases h : a = k
    · subst h
      simp
    · have h2 : @BEq.beq Key instBEqOfDecidableEq k a = false := by
        simp
        exact fun z => h z.symm
      rw [h2]
      simp only [h, decide_false]
      exact ih
theorem getL_mem {k : Key} : ∀ {f : KF}, (getL (f.map (·.1)) (f.map fun x => oD x.2) k).isSome = true ↔ k ∈ f.map (·.1)
  | [] => by simp [getL]
  | (a, r) :: f => by
    have ih := getL_mem (k := k) (f := f)
    simp only [getL, List.map_cons, List.zip_cons_cons, List.find?_cons, List.mem_cons] at ih ⊢
    by_cases h : a = k
    · simp [h]
    · simp only [h, decide_false]
      rw [ih]
      constructor
      · exact .inr
      · rintro (z | z)
        · exact absurd z.symm h
        · exact z
theorem hasK_mem {ks : List Key} {k : Key} : hasK ks k = true ↔ k ∈ ks := by
  simp [hasK]
theorem put_fo {f : KF} {k c : Key} (h : k ∉ f.map (·.1)) : putKs (f.map (·.1)) k = (f ++ [(k, some c)]).map (·.1) ∧ putDs (f.map (·.1)) (f.map fun x => oD x.2) k (dKey c) = (f ++ [(k, some c)]).map fun x => oD x.2 := by
  have n : ¬ hasK (f.map (·.1)) k = true := fun z => h (hasK_mem.mp z)
  unfold putKs putDs
  rw [if_neg n, if_neg n]
  simp [oD]
def keyOk (k : Key) : Prop := lay 50 (dKey k) = true
theorem keyOk_src : keyOk src := show lay 50 (dKey src) = true by decide +kernel
theorem keyOk_snk : keyOk snk := show lay 50 (dKey snk) = true by decide +kernel
theorem keyOk_int (i : Int) : keyOk (kI i) := lay_int 50 i
theorem keyOk.le {k : Key} (h : keyOk k) {n : Nat} (hn : 50 ≤ n) : lay n (dKey k) = true := lay_le hn h
theorem eqv_dKey (a b : Key) : eqv (dKey a) (dKey b) = decide (a = b) := by
  cases a with
  | inl i =>
    cases b with
    | inl j =>
      rw [dKey_inl, dKey_inl, eqv_int]
      simp
    | inr y => simp [eqv, toPy, PyData.eqv]
  | inr x =>
    cases b with
    | inl j => simp [eqv, toPy, PyData.eqv]
    | inr y =>
      rw [dKey_inr, dKey_inr, eqv_str]
      by_cases h : x = y
      · simp [h]
      · simp [h]
/-- all keys' texts are sound -/
def KsOk (ks : KP) : Prop := ∀ p ∈ ks, keyOk p.1 ∧ keyOk p.2
def sp_Rooms_reached : Spm := fun fs ds Q => ∃ ks L, fs = leftF ks L ∧ ds = [] ∧ ks.length ≤ 100000 ∧ KsOk ks ∧ ∀ f : KF, M40.Tr L ks src f → (∀ u ∈ f.map (·.1), M40.Closed L ks f u) → Q fs (foD f)
theorem len_Rooms_reached : ∀ fs ds Q, sp_Rooms_reached fs ds Q → ds.length + 1 = 1 := fun fs ds Q ⟨_, _, _, e, _⟩ => by rw [e]; rfl
def g_Rooms_reached (a_Rooms : Addr) : DS := (dSeq2 (dDic1 1 (dC (.str "from")) (dC .non))
    (dSeq2 (dSetL 2 (dLstL (dCons (dC (.str "from")) dNil)))
    (dSeq2 (dWhile (dTest (dNeNil 2))
    (dSeq2 (dPop0 3 2)
    (dForK 0 a_Rooms "left" (gdName 4)
    (dIf (dAndT (dTest (dOp eqD (dOp ixD (dVar 4) (dC (.int 0))) (dVar 3))) (dAndT (dTest (dOp (cmpD fun i j => decide (j < i)) (dDGet 0 a_Rooms "left" (dVar 4)) (dC (.int 0)))) (dTest (dKNotIn 1 (dOp ixD (dVar 4) (dC (.int 1)))))))
    (dSeq2 (dKPut 1 (dOp ixD (dVar 4) (dC (.int 1))) (dVar 3))
    (dApp 2 (dOp ixD (dVar 4) (dC (.int 1)))))
    dSkip))))
    (dFrz 1 (dRet (dVar 1))))))
theorem Tr_ok {ks : KP} {L : KL} (h : KsOk ks) {f : KF} (t : M40.Tr L ks src f) : ∀ k ∈ f.map (·.1), keyOk k := fun k hk => by
  rcases List.mem_cons.mp (t.sub k hk) with rfl | z
  · exact keyOk_src
  · obtain ⟨p, hp, rfl⟩ := List.mem_map.mp z
    exact (h p hp).2
theorem scan_len {L : KL} {c : Key} : ∀ (ps : KP) (s : KF × List Key), (M40.scan L c s ps).1.length ≤ s.1.length + ps.length ∧ (M40.scan L c s ps).2.length ≤ s.2.length + ps.length
  | [], s => by simp [M40.scan]
  | p :: ps, s => by
    have ih := scan_len (L := L) (c := c) ps (M40.scan1 L c s p)
    have h1 : (M40.scan1 L c s p).1.length ≤ s.1.length + 1 ∧ (M40.scan1 L c s p).2.length ≤ s.2.length + 1 := by
      unfold M40.scan1
      split <;> simp
    show (M40.scan L c (M40.scan1 L c s p) ps).1.length ≤ _ ∧ (M40.scan L c (M40.scan1 L c s p) ps).2.length ≤ _
    rw [List.length_cons]
    omega
theorem pure_Rooms_reached (C : Addr) : ∀ a fs ds Q, sp_Rooms_reached fs ds Q → g_Rooms_reached C (gM C a Q) (startM ["self", "found", "waiting", "place", "pair"] (.inst C (some a) fs) ds) := by
  rintro a fs ds Q ⟨ks, L, rfl, rfl, hl, hk, h⟩
  simp [g_Rooms_reached, and_assoc]
  refine ⟨fun n ρ => ∃ (f : KF) (w : List Key) (x3 x4 : Sl), ρ = [.own (.inst C (some a) (leftF ks L)), .own (.dic (f.map (·.1)) (f.map fun x => oD x.2)), .own (.lst (w.map dKey)), x3, x4] ∧ M40.BI L ks src (f, w) none ∧ w.length ≤ f.length ∧ n = 2 * (ks.length + 1 - f.length) + w.length, ⟨_, [(src, none)], [src], .no, .no, rfl, ⟨.root, by simp, by simp, by simp⟩, by simp, rfl⟩, ?_⟩
  rintro n ρ ⟨f, w, x3, x4, rfl, b, hwf, rfl⟩
  have hw : ∀ k ∈ w, keyOk k := fun k hkw => Tr_ok hk b.tr k (b.wt k hkw)
  have hlay : lay 59 (.lst (w.map dKey)) = true := by
    rw [lay_lst, List.all_eq_true]
    intro d hd
    obtain ⟨k, hkw, rfl⟩ := List.mem_map.mp hd
    exact (hw k hkw).le (by decide)
  have hwl : (w.map dKey).all (lay 58) = true := by rw [lay_lst] at hlay; exact hlay
  cases w with
  | nil =>
    simp [dTest]
    exact h f b.tr fun u hu => b.cl u hu (by simp) (by simp)
  | cons c w =>
    have hlw := hwl
    simp [dTest] at hlw ⊢
    refine ⟨hlw, _, _, ⟨rfl, rfl⟩, ?_⟩
    have bc : M40.BI L ks src (f, w) (some c) := ⟨b.tr, fun k hk => b.wt k (by simp [hk]), fun k e => by cases e; exact b.wt c (by simp), fun u hu hw hx => b.cl u hu (by simp only [List.mem_cons, not_or]; exact ⟨fun z => hx (by rw [z]), hw⟩) (by simp)⟩
    have okc : keyOk c := hw c (by simp)
    have hfl := b.len
    simp only at hfl
    refine ⟨some a, leftF ks L, ⟨rfl, rfl⟩, dctOf ks L, by simp, forK_E (e := fun p : Key × Key => ([p.1, p.2], L p.1 p.2)) (fun fl dn lf ρ => ∃ x4, ρ = [.own (.inst C (some a) fl), .own (.dic ((M40.scan L c (f, w) dn).1.map (·.1)) ((M40.scan L c (f, w) dn).1.map fun x => oD x.2)), .own (.lst ((M40.scan L c (f, w) dn).2.map dKey)), .d (dKey c), x4]) (fun fl => ⟨x4, rfl⟩) ?_ ?_ ?_⟩
    · rintro fl dn lf ρ ⟨x4, rfl⟩
      rfl
    · rintro fl fv hfl' hints dn p lf ρ N e ⟨x4, rfl⟩ hN
      have hp : (p.1, p.2) ∈ ks := by rw [← e]; simp
      have hdn : dn.length ≤ ks.length := by rw [← e]; simp
      obtain ⟨l1, l2⟩ := scan_len (L := L) (c := c) dn (f, w)
      have hv : valI (ks.map fun p => ([p.1, p.2], L p.1 p.2)) [p.1, p.2] = some (L p.1 p.2) := valI_dct hp
      have hsn : M40.scan L c (f, w) (dn ++ [p]) = M40.scan1 L c (M40.scan L c (f, w) dn) p := by simp [M40.scan, List.foldl_append]
      rw [hsn] at hN
      generalize M40.scan L c (f, w) dn = s at hN l1 l2 ⊢
      have hnx : ∀ x4, p.1 = c → 0 < L p.1 p.2 → p.2 ∉ s.1.map (·.1) → N [.own (.inst C (some a) fl), .own (.dic ((s.1 ++ [(p.2, some c)]).map (·.1)) ((s.1 ++ [(p.2, some c)]).map fun x => oD x.2)), .own (.lst ((s.2 ++ [p.2]).map dKey)), .d (dKey c), x4] := fun x4 h1 h2 h3 => hN _ ⟨x4, by rw [M40.scan1, if_pos ⟨h1, h2, h3⟩]⟩
      have hno : ∀ x4, ¬ (p.1 = c ∧ 0 < L p.1 p.2 ∧ p.2 ∉ s.1.map (·.1)) → N [.own (.inst C (some a) fl), .own (.dic (s.1.map (·.1)) (s.1.map fun x => oD x.2)), .own (.lst (s.2.map dKey)), .d (dKey c), x4] := fun x4 h => hN _ ⟨x4, by rw [M40.scan1, if_neg h]⟩
      have ok1 := (hk p (by rw [← e]; simp)).1
      simp [dTest, and_assoc, hfl', hints, eqv_dKey, ok1.le (n := 60) (by decide), okc.le (n := 60) (by decide), hv, atI, ixN]
      by_cases h1 : p.1 = c
      · rw [if_pos h1]
        by_cases h2 : 0 < L p.1 p.2
        · rw [if_pos h2]
          by_cases h3 : p.2 ∈ s.1.map (·.1)
          · rw [if_neg (fun z => by
              have := getL_mem.mpr h3
              rw [z] at this
              cases this)]
            exact hno _ fun z => z.2.2 h3
          · rw [if_pos (by
              have : ¬ _ := fun z => h3 (getL_mem.mp z)
              simpa using this)]
            obtain ⟨z1, z2⟩ := put_fo (c := c) h3
            rw [z1, z2]
            have := hnx (.d (.tpl [dKey p.1, dKey p.2])) h1 h2 h3
            simp only [List.length_cons] at hwf l1 l2
            exact ⟨by omega, by omega, by rw [List.map_append (f := dKey)] at this; exact this⟩
        · rw [if_neg h2]
          exact hno _ fun z => h2 z.2.1
      · rw [if_neg h1]
        exact hno _ fun z => h1 z.1
    · rintro fl ρ ⟨x4, rfl⟩
      obtain ⟨b1, b2, b3⟩ := M40.scan_BI ks [] (f, w) rfl bc (by simp)
      have b4 := b1.len
      simp only [List.length_cons, List.nil_append] at b2 b3 b4 hwf
      refine ⟨2 * (ks.length + 1 - (M40.scan L c (f, w) ks).1.length) + (M40.scan L c (f, w) ks).2.length, by omega, (M40.scan L c (f, w) ks).1, (M40.scan L c (f, w) ks).2, ⟨.d (dKey c), x4, rfl⟩, b1, by omega, rfl⟩
end Dy

/-! # Rooms: a push. -/
namespace Dy
variable [Tn]
open PySem PySem.Spec PyProof.Rows L2
theorem eqv_dKey_str (k : Key) (x : Str) : eqv (dKey k) (.str x) = decide (k = .inr x) := by
  rw [← dKey_inr, eqv_dKey]
@[simp] theorem atI_zero {α : Type} (a : α) (l : List α) : atI (a :: l) 0 = some a := by
  have : atI (a :: l) ((0 : Nat) : Int) = some a := atI_of rfl
  exact this
@[simp] theorem atI_one {α : Type} (a b : α) (l : List α) : atI (a :: b :: l) 1 = some b := by
  have : atI (a :: b :: l) ((1 : Nat) : Int) = some b := atI_of rfl
  exact this
def pD (p : Key × Key) : D := .tpl [dKey p.1, dKey p.2]
def sp_Rooms_push : Spm := fun fs ds Q => ∃ (ks : KP) (L : KL) (f : KF), fs = leftF ks L ∧ ds = [foD f] ∧ ks.length ≤ 100000 ∧ KsOk ks ∧ M40.KOk ks ∧ M40.Tr L ks src f ∧ snk ∈ f.map (·.1) ∧
  ∀ (r : List Key) (m : Int), M40.RowOk L ks f snk src r → (∀ p ∈ M40.pairs (src :: r), m ≤ L p.1 p.2) → (∃ p ∈ M40.pairs (src :: r), m = L p.1 p.2) → Q (leftF ks (M40.pushL m L (M40.pairs (src :: r)))) (.int m)
theorem len_Rooms_push : ∀ fs ds Q, sp_Rooms_push fs ds Q → ds.length + 1 = 2 := fun fs ds Q ⟨_, _, _, _, e, _⟩ => by rw [e]; rfl
def g_Rooms_push (a_Rooms : Addr) : DS := (dSeq2 (dSet 2 (dLst (dCons (dC (.str "to")) dNil)))
    (dSeq2 (dWhile (dTest (dOp neD (dOp ixD (dVar 2) (dC (.int 0))) (dC (.str "from"))))
    (dSet 2 (dOp addD (dLst (dCons (dFGet (dVar 1) (dOp ixD (dVar 2) (dC (.int 0)))) dNil)) (dVar 2))))
    (dSeq2 (dSet 3 (dLZip (dCons (dVar 2) (dCons (dSl (dVar 2) (dPart (dC (.int 1))) dNoPart) dNil))))
    (dSeq2 (dSet 4 (dCB minLD (dCons (dFz (dLc (dSeq (dVar 3)) (gdName 5) dYes (dDGet 0 a_Rooms "left" (dVar 5)) [5])) dNil)))
    (dSeq2 (dFor (dSeq (dVar 3)) (gdName 5)
    (dSeq2 (dDPut 0 a_Rooms "left" (dVar 5) (dOp subD (dDGet 0 a_Rooms "left" (dVar 5)) (dVar 4)))
    (dDPut 0 a_Rooms "left" (dTpl (dCons (dOp ixD (dVar 5) (dC (.int 1))) (dCons (dOp ixD (dVar 5) (dC (.int 0))) dNil))) (dOp addD (dDGet 0 a_Rooms "left" (dTpl (dCons (dOp ixD (dVar 5) (dC (.int 1))) (dCons (dOp ixD (dVar 5) (dC (.int 0))) dNil)))) (dVar 4)))))
    (dRet (dVar 4)))))))
theorem zip_pairs : ∀ (x : Key) (r : List Key), List.zipWith (fun a b => D.tpl [a, b]) ((x :: r).map dKey) (r.map dKey) = (M40.pairs (x :: r)).map pD
  | x, [] => by simp [M40.pairs]
  | x, y :: r => by
    have := zip_pairs y r
    simp only [List.map_cons, List.zipWith_cons_cons, M40.pairs] at this ⊢
    rw [this]
    rfl
theorem pure_Rooms_push (C : Addr) : ∀ a fs ds Q, sp_Rooms_push fs ds Q → g_Rooms_push C (gM C a Q) (startM ["self", "found", "row", "pairs", "much", "pair"] (.inst C (some a) fs) ds) := by
  rintro a fs ds Q ⟨ks, L, f, rfl, rfl, hl, hk, K, t, hs, h⟩
  simp [g_Rooms_push, and_assoc]
  refine ⟨fun n ρ => ∃ (x : Key) (r : List Key), ρ = [.own (.inst C (some a) (leftF ks L)), .d (foD f), .d (.lst ((x :: r).map dKey)), .no, .no, .no] ∧ M40.RowOk L ks f snk x r ∧ n = M40.pos f x, ⟨_, snk, [], rfl, .start hs, rfl⟩, ?_⟩
  rintro n ρ ⟨x, r, rfl, ro, rfl⟩
  have hfl : f.length ≤ ks.length + 1 := by
    have := M40.nodup_len t.nodup t.sub
    simpa using this
  have hrl := ro.len
  have okx : keyOk x := Tr_ok hk t x (ro.m x (by simp))
  have sF : PyData.strOk "from" = true := by decide +kernel
  simp only [List.length_cons] at hrl
  by_cases hx : x = src
  · subst hx
    have hz : List.zipWith (fun a b => D.tpl [a, b]) (D.str "from" :: r.map dKey) (r.map dKey) = (M40.pairs (src :: r)).map pD := zip_pairs src r
    have hrne : r ≠ [] := fun z => by
      have := ro.l
      rw [z] at this
      exact apart.st this
    have hne : 0 < (M40.pairs (src :: r)).length := by
      cases r with
      | nil => exact absurd rfl hrne
      | cons y r => simp [M40.pairs]
    have hpl : (M40.pairs (src :: r)).length ≤ r.length := by
      rw [M40.pairs_zip, List.length_zip]
      omega
    simp [dTest, and_assoc, sF, eqv_dKey_str]
    rw [hz]
    refine ⟨by omega, lc_mapE (fun p => .int (L p.1 p.2)) (fun p hp Q q => ?_) ⟨(M40.pairs (src :: r)).map fun p => L p.1 p.2, by rw [List.map_map]; rfl, by rw [List.length_map]; exact hne, fun m hm hmin => ?_⟩⟩
    · have hv := valI_dct (L := L) (u := p.1) (v := p.2) (ro.k p hp).1
      simp [pD, hv, and_assoc]
      exact q
    · obtain ⟨p0, hp0, rfl⟩ := List.mem_map.mp hm
      refine for_E (fun done left ρ => ∃ x5, ρ = [.own (.inst C (some a) (leftF ks (M40.pushL (L p0.1 p0.2) L done))), .d (foD f), .d (.lst (D.str "from" :: r.map dKey)), .d (.lst ((M40.pairs (src :: r)).map pD)), .d (.int (L p0.1 p0.2)), x5]) ⟨.no, rfl⟩ ?_ ?_
      · rintro done p left ρ N e ⟨x5, rfl⟩ hN
        have hp : (p.1, p.2) ∈ ks := (ro.k p (by rw [← e]; simp)).1
        have hp2 : (p.2, p.1) ∈ ks := K.sy p hp
        have hsn : M40.pushL (L p0.1 p0.2) L (done ++ [p]) = M40.step (L p0.1 p0.2) (M40.pushL (L p0.1 p0.2) L done) p := by simp [M40.pushL, List.foldl_append]
        rw [hsn] at hN
        generalize M40.pushL (L p0.1 p0.2) L done = M at hN ⊢
        have hv := valI_dct (L := M) hp
        have hv2 := valI_dct (L := M40.upd M p.1 p.2 (M p.1 p.2 - L p0.1 p0.2)) hp2
        have e1 : M40.addK ks p.1 p.2 = ks := M40.addK_of hp
        have e2 : M40.addK ks p.2 p.1 = ks := M40.addK_of hp2
        simp [pD, hv, hv2, and_assoc, putI_dct, e1, e2, putFV, dct_len, Nat.lt_of_le_of_lt hl (by decide : 100000 < 1000000)]
        exact hN _ ⟨_, rfl⟩
      · rintro ρ ⟨x5, rfl⟩
        simp
        exact h r _ ro (fun p hp => hmin _ (List.mem_map.mpr ⟨p, hp, rfl⟩)) ⟨p0, hp0, rfl⟩
  · obtain ⟨u, e, ro', lt⟩ := ro.step t hx
    have hx' : ¬ x = (Sum.inr ("from" : Str) : Key) := hx
    simp [dTest, and_assoc, sF, eqv_dKey_str, okx.le (n := 60) (by decide), hx', foD]
    have hg := getL_fo (k := x) (f := f)
    rw [e] at hg
    exact ⟨dKey u, hg, by omega, M40.pos f u, lt, u, rfl, x :: r, rfl, ro', rfl⟩
end Dy

/-! # All that goes. -/
namespace Dy
variable [Tn]
open PySem PySem.Spec PyProof.Rows L2
abbrev St4 (ls : List W3) (s1 t1 m1 s2 t2 m2 : Int) : Prop := M40.St4 kI src snk ls s1 t1 m1 s2 t2 m2
abbrev ks4 (ls : List W3) (s1 t1 s2 t2 : Int) : KP := M40.ks4 kI src snk ls s1 t1 s2 t2
abbrev L04 (ls : List W3) (s1 t1 m1 s2 t2 m2 : Int) : KL := M40.L04 kI src snk ls s1 t1 m1 s2 t2 m2
abbrev FI4 (ls : List W3) (s1 t1 m1 s2 t2 m2 : Int) (L : KL) : Prop := M40.FI (ks4 ls s1 t1 s2 t2) src snk (L04 ls s1 t1 m1 s2 t2 m2) L
def insRooms (C : Addr) (ks : KP) (L : KL) : D := .ins C ["left"] [.dct (dctOf ks L)]
def intsD (l : List Int) : D := .lst (l.map .int)
def sp_sent (C : Addr) : Spc := fun ds Q _ => ∃ (n : Nat) (ls : List W3) (s1 t1 m1 s2 t2 m2 : Int), ds = [floorD n ls, .lst ((M40.es4 kI src snk s1 t1 m1 s2 t2 m2).map eD)] ∧ St4 ls s1 t1 m1 s2 t2 m2 ∧ n ≤ 1000 ∧ ls.length ≤ 1000 ∧
  ∀ (L : KL) (f : KF), FI4 ls s1 t1 m1 s2 t2 m2 L → M40.Tr L (ks4 ls s1 t1 s2 t2) src f → (∀ u ∈ f.map (·.1), M40.Closed L (ks4 ls s1 t1 s2 t2) f u) → snk ∉ f.map (·.1) →
    Q (.tup [intsD (ls.map (M40.fl kI L)), intsD (M40.come kI f n), insRooms C (ks4 ls s1 t1 s2 t2) L])
theorem len_sent (C : Addr) : ∀ ds Q Z, sp_sent C ds Q Z → ds.length = 2 := len2 (fun ds Q Z ⟨_, _, _, _, _, _, _, _, e, _⟩ => ⟨_, _, e⟩)
def g_sent (a_Rooms : Addr) : DS := (dSeq2 (dMakeS 2 a_Rooms sp_Rooms___init__ (dCons (dVar 0) (dCons (dVar 1) dNil)))
    (dSeq2 (dSetM 3 2 a_Rooms "reached" sp_Rooms_reached dNil)
    (dSeq2 (dWhile (dTest (dFIn (dC (.str "to")) (dVar 3)))
    (dSeq2 (dCallM 2 a_Rooms "push" sp_Rooms_push (dCons (dVar 3) dNil))
    (dSetM 3 2 a_Rooms "reached" sp_Rooms_reached dNil)))
    (dSeq2 (dSet 4 (dFz (dLc (dSeq (dOp ixD (dVar 0) (dC (.int 1)))) (gdTup 3 (gdCons (gdName 5) (gdCons (gdName 6) (gdCons (gdName 7) gdNil)))) dYes (dOp subD (dVar 7) (dDGet 2 a_Rooms "left" (dTpl (dCons (dVar 5) (dCons (dVar 6) dNil))))) [5, 6, 7])))
    (dFrz 2 (dRet (dTup (dCons (dVar 4) (dCons (dFz (dLc (dRng1 (dCons (dOp ixD (dVar 0) (dC (.int 0))) dNil)) (gdName 8) (dTest (dFIn (dVar 8) (dVar 3))) (dVar 8) [8])) (dCons (dVar 2) dNil))))))))))
theorem ks4_len (ls : List W3) (s1 t1 s2 t2 : Int) : (ks4 ls s1 t1 s2 t2).length ≤ 2 * ls.length + 8 := by
  have h : ∀ ls : List W3, (M40.lk kI ls).length = 2 * ls.length := by
    intro ls
    induction ls with
    | nil => rfl
    | cons l ls ih => simp [M40.lk, ih]; omega
  have h2 : (M40.ek4 kI src snk s1 t1 s2 t2).length ≤ 8 := by
    unfold M40.ek4
    split <;> split <;> simp
  show (M40.lk kI ls ++ M40.ek4 kI src snk s1 t1 s2 t2).length ≤ _
  rw [List.length_append, h]
  omega
theorem ks4_ok (ls : List W3) (s1 t1 s2 t2 : Int) : KsOk (ks4 ls s1 t1 s2 t2) := fun p hp => by
  rcases List.mem_append.mp hp with z | z
  · obtain ⟨l, _, z⟩ := M40.mem_lk.mp z
    rcases z with rfl | rfl
    · exact ⟨keyOk_int _, keyOk_int _⟩
    · exact ⟨keyOk_int _, keyOk_int _⟩
  · rcases M40.mem_ek4.mp z with ⟨v, _, z⟩ | ⟨v, _, z⟩
    · rcases z with rfl | rfl
      · exact ⟨keyOk_src, keyOk_int _⟩
      · exact ⟨keyOk_int _, keyOk_src⟩
    · rcases z with rfl | rfl
      · exact ⟨keyOk_int _, keyOk_snk⟩
      · exact ⟨keyOk_snk, keyOk_int _⟩
theorem out_nonneg {L : KL} (h : ∀ u v, 0 ≤ L u v) (w : Key) : ∀ ks : KP, 0 ≤ M40.out L w ks
  | [] => Int.le_refl _
  | p :: ks => by
    have := out_nonneg h w ks
    have := h p.1 p.2
    simp only [M40.out]
    split <;> omega
theorem not_left {m : Str} (h : m ≠ "left") (ks : KP) (L : KL) : ∀ (a : Str) (b : FV), (a, b) ∈ leftF ks L → ¬ m = a := fun a b hm => by
  have := List.mem_singleton.mp hm
  cases this
  exact h
theorem pure_sent (C : Addr) : ∀ ds Q Z, sp_sent C ds Q Z → g_sent C { nx := fun _ => Q .non, rt := Q } (startS ["floor", "ends", "rooms", "found", "flow", "one", "other", "room", "place"] ds) := by
  rintro ds Q Z ⟨n, ls, s1, t1, m1, s2, t2, m2, rfl, W, hn, hl, h⟩
  have hkl := ks4_len ls s1 t1 s2 t2
  have hko := ks4_ok ls s1 t1 s2 t2
  have K : M40.KOk (ks4 ls s1 t1 s2 t2) := M40.kok4 W
  simp [g_sent, and_assoc]
  refine ⟨n, ls, M40.es4 kI src snk s1 t1 m1 s2 t2 m2, rfl, rfl, hl, Nat.le_of_ble_eq_true rfl, rfl, ?_⟩
  have e1 : M40.enK (M40.lnK kI [] ls) (M40.es4 kI src snk s1 t1 m1 s2 t2 m2) = ks4 ls s1 t1 s2 t2 := by
    rw [M40.lnK_eq W.ap.inj ls [] W.lo (by simp), List.nil_append, M40.enK_eq W.ap]
    rfl
  have e2 : M40.enF (M40.lnF kI (fun _ _ => 0) ls) (M40.es4 kI src snk s1 t1 m1 s2 t2 m2) = L04 ls s1 t1 m1 s2 t2 m2 := rfl
  rw [e1, e2]
  have sT : PyData.strOk "to" = true := by decide +kernel
  have n1 : ("reached" : Str) ≠ "left" := by decide +kernel
  have n2 : ("push" : Str) ≠ "left" := by decide +kernel
  refine ⟨not_left n1 _ _, _, _, rfl, rfl, by omega, hko, fun f t hc => ?_⟩
  refine ⟨fun k ρ => ∃ (L : KL) (f : KF), ρ = [.d (floorD n ls), .d (.lst ((M40.es4 kI src snk s1 t1 m1 s2 t2 m2).map eD)), .own (.inst C none (leftF (ks4 ls s1 t1 s2 t2) L)), .d (foD f), .no, .no, .no, .no, .no] ∧ FI4 ls s1 t1 m1 s2 t2 m2 L ∧ M40.Tr L (ks4 ls s1 t1 s2 t2) src f ∧ (∀ u ∈ f.map (·.1), M40.Closed L (ks4 ls s1 t1 s2 t2) f u) ∧ k = (M40.out L src (ks4 ls s1 t1 s2 t2)).toNat,
    ⟨_, L04 ls s1 t1 m1 s2 t2 m2, f, rfl, M40.FI0 W, t, hc, rfl⟩, ?_⟩
  clear hc t f
  rintro k ρ ⟨L, f, rfl, I, t, hc, rfl⟩
  have hm : (getL (f.map (·.1)) (f.map fun x => oD x.2) snk).isSome = true ↔ snk ∈ f.map (·.1) := getL_mem
  by_cases hs : snk ∈ f.map (·.1)
  · have hm' := hm.mpr hs
    simp [dTest, and_assoc, foD]
    rw [if_pos hm']
    refine ⟨n2, _, L, f, rfl, rfl, by omega, hko, K, t, hs, fun r m ro hmin hp => ⟨not_left n1 _ _, _, _, rfl, rfl, by omega, hko, fun f' t' hc' => ?_⟩⟩
    obtain ⟨p0, hp0, hm0⟩ := hp
    have hpos := (ro.k p0 hp0).2
    obtain ⟨I', ho⟩ := I.push K.nd K.sy K.ir apart.st ro.nodup ro.l (fun p hp => (ro.k p hp).1) (m := m) (by omega) hmin
    have hnn := out_nonneg I'.pos src (ks4 ls s1 t1 s2 t2)
    exact ⟨_, by omega, _, rfl, f', rfl, I', t', fun u x hx => hc' u (List.mem_map.mpr ⟨(u, x), hx, rfl⟩), rfl⟩
  · have hm' : (getL (f.map (·.1)) (f.map fun x => oD x.2) snk).isSome = false := by
      cases q : (getL (f.map (·.1)) (f.map fun x => oD x.2) snk).isSome
      · rfl
      · exact absurd (hm.mp q) hs
    simp [dTest, and_assoc, foD, floorD]
    rw [if_neg (by rw [hm']; simp)]
    refine ⟨by omega, lc_mapE (fun l => .int (M40.fl kI L l)) (fun l hl Q q => ?_) ⟨?_, by omega, lc_fmE (fun k : Nat => if (k : Int) ∈ M40.come kI f n then some (.int k) else none) (fun k hk Q q => ?_) ?_⟩⟩
    · have hv := valI_dct (L := L) (u := kI l.1) (v := kI l.2.1) (ks := ks4 ls s1 t1 s2 t2) (List.mem_append_left _ (M40.mem_lk.mpr ⟨l, hl, .inl rfl⟩))
      simp [hv, and_assoc]
      exact q
    · intro x hx
      have := List.mem_singleton.mp hx
      subst this
      trivial
    · have hg : (getL (f.map (·.1)) (f.map fun x => oD x.2) (Sum.inl (k : Int))).isSome = true ↔ (Sum.inl (k : Int)) ∈ f.map (·.1) := getL_mem
      have hk' : k < n := List.mem_range.mp hk
      have hmc := M40.mem_come (pl := kI) (f := f) (n := n) (k : Int)
      simp [dTest, and_assoc]
      by_cases z : (Sum.inl (k : Int) : Key) ∈ f.map (·.1)
      · rw [if_pos (hg.mpr z)]
        rw [if_pos (hmc.mpr ⟨by omega, z⟩)] at q
        exact q
      · rw [if_neg (fun w => z (hg.mp w))]
        rw [if_neg (fun w => z (hmc.mp w).2)] at q
        exact q
    · rw [M40.come_fm D.int f n]
      have := h L f I t hc hs
      simpa [intsD, insRooms, Function.comp_def] using this
end Dy

/-! # The law's judgement of a flow. -/
namespace Dy
variable [Tn]
open PySem PySem.Spec PyProof.Rows L2
def tmQ (p : Int) (x : Rat × W3) : Rat := x.1 * (((if x.2.2.1 = p then 1 else 0) - (if x.2.1 = p then 1 else 0) : Int) : Rat)
theorem tm_lat {m b : Nat} {p : Int} {x : Rat × W3} (h : Lat m b x.1) : Lat m b (tmQ p x) := by
  unfold tmQ
  by_cases h1 : x.2.2.1 = p
  · by_cases h2 : x.2.1 = p
    · rw [if_pos h1, if_pos h2]
      have e : x.1 * (((1 - 1 : Int)) : Rat) = 0 := by simp
      rw [e]
      exact Lat.zero h.1 b
    · rw [if_pos h1, if_neg h2]
      have e : x.1 * (((1 - 0 : Int)) : Rat) = x.1 := by simp
      rw [e]
      exact h
  · by_cases h2 : x.2.1 = p
    · rw [if_neg h1, if_pos h2]
      have e : x.1 * (((0 - 1 : Int)) : Rat) = -x.1 := by simp; grind
      rw [e]
      exact h.neg
    · rw [if_neg h1, if_neg h2]
      have e : x.1 * (((0 - 0 : Int)) : Rat) = 0 := by simp
      rw [e]
      exact Lat.zero h.1 b
theorem tm_sum (p : Int) : ∀ l : List (Rat × W3), (l.map (tmQ p)).sum = (l.filterMap fun x => if x.2.2.1 = p then some x.1 else none).sum - (l.filterMap fun x => if x.2.1 = p then some x.1 else none).sum
  | [] => by simp; grind
  | x :: l => by
    have ih := tm_sum p l
    rw [List.map_cons, List.sum_cons, ih]
    unfold tmQ
    by_cases h1 : x.2.2.1 = p
    · by_cases h2 : x.2.1 = p
      · simp [List.filterMap_cons, h1, h2]
        grind
      · simp [List.filterMap_cons, h1, h2]
        grind
    · by_cases h2 : x.2.1 = p
      · simp [List.filterMap_cons, h1, h2]
        grind
      · simp [List.filterMap_cons, h1, h2]
        grind
def sp__law_net_at : Spc := sp_left_at
theorem len__law_net_at : ∀ ds Q Z, sp__law_net_at ds Q Z → ds.length = 3 := len_left_at
def g__law_net_at : DS := (dSeq2 (dSet 3 (dTup (dCons (dC (.int 0)) (dCons (dC (.int 1)) dNil))))
    (dSeq2 (dFor (dZip (dCons (dVar 1) (dCons (dOp ixD (dVar 0) (dC (.int 1))) dNil))) (gdTup 2 (gdCons (gdName 4) (gdCons (gdName 5) gdNil)))
    (dSet 3 (dCall sp__law_plus (dCons (dVar 3) (dCons (dCall sp__law_times (dCons (dVar 4) (dCons (dTup (dCons (dOp subD (dCB intD (dCons (dOp eqD (dOp ixD (dVar 5) (dC (.int 1))) (dVar 2)) dNil)) (dCB intD (dCons (dOp eqD (dOp ixD (dVar 5) (dC (.int 0))) (dVar 2)) dNil))) (dCons (dC (.int 1)) dNil))) dNil))) dNil)))))
    (dRet (dVar 3))))
theorem sz_small {k : Int} (h : k.natAbs ≤ 1000) : Sz (k : Rat) := by
  refine ⟨?_, ?_⟩
  · rw [Rat.den_intCast, bD_eq]
    exact Nat.one_lt_two_pow (by decide)
  · rw [Rat.num_intCast, bN_eq]
    have : 2 ^ 10 ≤ 2 ^ 100000 := Nat.pow_le_pow_right (by decide) (by decide)
    omega
theorem fr_zero : D.tup [.int 0, .int 1] = fr 0 := by
  have := fr_int 0
  simpa using this
theorem pure__law_net_at : ∀ ds Q Z, sp__law_net_at ds Q Z → g__law_net_at { nx := fun _ => Q .non, rt := Q } (startS ["_law_net_here", "_law_row", "_law_place", "_law_found", "_law_much", "_law_way"] ds) := by
  rintro ds Q Z ⟨n, ways, wares, r, p, m, b, rfl, hs, hw, h⟩
  simp [g__law_net_at, netD, rowD, and_assoc, zipD_map]
  refine for_E (fun done left ρ => ∃ x4 x5, ρ = [.d (netD n ways wares), .d (rowD r), .d (.int p), .d (fr (done.map (tmQ p)).sum), x4, x5]) ⟨.no, .no, by rw [fr_zero]; rfl⟩ ?_ ?_
  · rintro done x left ρ N e ⟨x4, x5, rfl⟩ hN
    have hx : x.1 ∈ r := zip_mem (by rw [← e]; simp)
    have hd : ∀ z ∈ done.map (tmQ p), Lat m b z := fun z hz => by
      obtain ⟨y, hy, rfl⟩ := List.mem_map.mp hz
      exact tm_lat (hs.lat _ (zip_mem (by rw [← e]; simp [hy])))
    have hlen : (done.map (tmQ p)).length ≤ r.length := by
      have h1 := congrArg List.length e
      rw [List.length_append, List.length_zip] at h1
      rw [List.length_map]
      omega
    have s1 : Sz (done.map (tmQ p)).sum := (Lat.sum hs.m0 hd).sz hs.m1 (Nat.lt_of_le_of_lt (Nat.mul_le_mul_right _ hlen) hs.len)
    have sx : Sz x.1 := (hs.lat _ hx).sz hs.m1 hs.b1
    have st : Sz (tmQ p x) := (tm_lat (hs.lat _ hx)).sz hs.m1 hs.b1
    simp [netD, rowD, and_assoc]
    rw [fr_int, sp__law_times_at]
    refine ⟨sx, sz_small (by split <;> split <;> decide), ?_⟩
    have et : x.1 * (((if x.2.2.1 = p then 1 else 0) - (if x.2.1 = p then 1 else 0) : Int) : Rat) = tmQ p x := rfl
    rw [et, sp__law_plus_at]
    exact ⟨s1, st, hN _ ⟨.d (fr x.1), .d (wD x.2), by rw [List.map_append, List.map_cons, List.map_nil, sum_snoc]; rfl⟩⟩
  · rintro ρ ⟨x4, x5, rfl⟩
    rw [leftQ, inQ, outQ, ← tm_sum] at h
    simpa using h
/-! ### goes, brought -/
def sp__law_goes : Spc := sp_does_go
theorem len__law_goes : ∀ ds Q Z, sp__law_goes ds Q Z → ds.length = 2 := len_does_go
def g__law_goes : DS := (dSeq2 (dFor (dZip (dCons (dOp ixD (dVar 0) (dC (.int 2))) (dCons (dVar 1) dNil))) (gdTup 2 (gdCons (gdName 2) (gdCons (gdName 3) gdNil)))
    (dFor (dRng1 (dCons (dOp ixD (dVar 0) (dC (.int 0))) dNil)) (gdName 4)
    (dIf (dAndT (dTest (dOp (inD true) (dVar 4) (dSl (dVar 2) dNoPart (dPart (dC (.int 2)))))) (dTest (dOp neD (dCall sp__law_net_at (dCons (dVar 0) (dCons (dVar 3) (dCons (dVar 4) dNil)))) (dTup (dCons (dC (.int 0)) (dCons (dC (.int 1)) dNil))))))
    (dRet (dC (.bl false)))
    dSkip)))
    (dSeq2 (dFor (dEnum (dCons (dOp ixD (dVar 0) (dC (.int 1))) dNil)) (gdTup 2 (gdCons (gdName 5) (gdCons (gdName 6) gdNil)))
    (dIf (dTest (dCall sp__law_under (dCons (dTup (dCons (dOp ixD (dVar 6) (dC (.int 2))) (dCons (dC (.int 1)) dNil))) (dCons (dCall sp__law_all (dCons (dFz (dLc (dSeq (dVar 1)) (gdName 3) dYes (dOp ixD (dVar 3) (dVar 5)) [3])) dNil)) dNil))))
    (dRet (dC (.bl false)))
    dSkip))
    (dRet (dC (.bl true)))))
theorem rowBad_any {n : Int} {ways : List W3} {w : W3} {r : List Rat} {i : Nat} (hi : i < n.toNat) (h1 : ¬ (i : Int) ∈ [w.1, w.2.1]) (h2 : ¬ leftQ ways r i = 0) : rowBad n ways (w, r) = true := by
  unfold rowBad
  rw [List.any_eq_true]
  exact ⟨true, List.mem_filterMap.mpr ⟨i, List.mem_range.mpr hi, by rw [if_pos (by simpa using h1)]; simp [h2]⟩, rfl⟩
theorem rowBad_none {n : Int} {ways : List W3} {w : W3} {r : List Rat} (h : ∀ i : Nat, i < n.toNat → ¬ (i : Int) ∈ [w.1, w.2.1] → leftQ ways r i = 0) : rowBad n ways (w, r) = false := by
  unfold rowBad
  rw [List.any_eq_false]
  rintro x hx
  obtain ⟨i, hi, e⟩ := List.mem_filterMap.mp hx
  split at e
  · rename_i hc
    cases e
    have := h i (List.mem_range.mp hi) (by simpa using hc)
    simp [this]
  · cases e
theorem pure__law_goes : ∀ ds Q Z, sp__law_goes ds Q Z → g__law_goes { nx := fun _ => Q .non, rt := Q } (startS ["_law_net_here", "_law_flow_here", "_law_ware", "_law_row", "_law_place", "_law_at", "_law_way"] ds) := by
  rintro ds Q Z ⟨n, ways, wares, rs, m, b, rfl, hn, hf, h⟩
  have n2 := hn.n2
  have n6 := hn.n6
  have lw := hn.lw
  have l3 := hn.l3
  simp [g__law_goes, netD, flowD, and_assoc, zipD_map]
  refine for_E (fun done left ρ => done.any (rowBad n ways) = false ∧ ∃ x2 x3 x4 x5 x6, ρ = [.d (netD n ways wares), .d (flowD rs), x2, x3, x4, x5, x6]) ⟨rfl, _, _, _, _, _, rfl⟩ ?_ ?_
  · rintro done ⟨w, r⟩ left ρ N e ⟨h1, x2, x3, x4, x5, x6, rfl⟩ hN
    have hr : r ∈ rs := (List.of_mem_zip (a := w) (b := r) (by rw [← e]; simp)).2
    simp [netD, and_assoc]
    refine ⟨by omega, by omega, ?_⟩
    refine for_E (fun dn lf ρ => (∀ i ∈ dn, ¬ ((i : Nat) : Int) ∈ [w.1, w.2.1] → leftQ ways r i = 0) ∧ ∃ x4 x5 x6, ρ = [.d (netD n ways wares), .d (flowD rs), .d (wD w), .d (rowD r), x4, x5, x6]) ⟨by simp, _, _, _, rfl⟩ ?_ ?_
    · rintro dn i lf ρ N2 e2 ⟨h2, x4, x5, x6, rfl⟩ hN2
      have hi : i < n.toNat := List.mem_range.mp (by rw [← e2]; simp)
      simp [and_assoc]
      refine ⟨notwhole3, [w.1, w.2.1], rfl, ?_⟩
      by_cases hp : (i : Int) ∈ [w.1, w.2.1]
      · simp [hp]
        refine hN2 _ ⟨fun j hj hc => ?_, _, _, _, rfl⟩
        rcases List.mem_append.mp hj with z | z
        · exact h2 j z hc
        · rw [List.mem_singleton.mp z] at hc
          exact absurd hp hc
      · simp [hp]
        refine ⟨n, ways, wares, r, i, m, b, rfl, hf.sm lw hr, by omega, ?_⟩
        simp [fr_zero]
        by_cases hz : leftQ ways r i = 0
        · simp [hz]
          refine hN2 _ ⟨fun j hj hc => ?_, _, _, _, rfl⟩
          rcases List.mem_append.mp hj with z | z
          · exact h2 j z hc
          · rw [List.mem_singleton.mp z]
            exact hz
        · have hg : goB n ways wares rs = false := by
            unfold goB
            rw [any_mid e (rowBad_any hi hp hz)]
            rfl
          rw [hg] at h
          simpa [hz] using h
    · rintro ρ ⟨h2, x4, x5, x6, rfl⟩
      have hb : rowBad n ways (w, r) = false := rowBad_none fun i hi hc => h2 i (List.mem_range.mpr hi) hc
      exact hN _ ⟨by simp [h1, hb], _, _, _, _, _, rfl⟩
  · rintro ρ ⟨h1, x2, x3, x4, x5, x6, rfl⟩
    simp [netD, flowD, and_assoc, enum_map]
    refine for_E (fun done left ρ => done.any (capBad rs) = false ∧ ∃ x2 x3 x4 x5 x6, ρ = [.d (netD n ways wares), .d (flowD rs), x2, x3, x4, x5, x6]) ⟨rfl, _, _, _, _, _, rfl⟩ ?_ ?_
    · rintro done ⟨w, i⟩ left ρ N e ⟨h2, x2, x3, x4, x5, x6, rfl⟩ hN
      have hw := zipIdx_lt (x := (w, i)) (l := ways) (by rw [← e]; simp)
      have hlr := hf.len
      simp [flowD, and_assoc]
      refine ⟨by omega, lc_mapE (fun r => fr (r[i]?.getD 0)) (fun r hr Q q => ?_) ?_⟩
      · have := hf.row r hr
        have hi : i < r.length := by have := hw.1; omega
        simp [rowD]
        rw [atI_of (n := i) (a := fr (r[i]?.getD 0)) (by rw [List.getElem?_map, List.getElem?_eq_getElem hi]; rfl)]
        simpa using q
      · have em : rs.map (fun r => fr (r[i]?.getD 0)) = (rs.map fun r => r[i]?.getD 0).map fr := by
          rw [List.map_map]
          rfl
        rw [em]
        refine total_at (hf.col l3 i hw.1) ?_
        rw [fr_int, sp__law_under_at]
        refine ⟨hn.cap hw.2, (hf.col l3 i hw.1).sum, ?_⟩
        simp
        cases hb : capBad rs (w, i) with
        | true =>
          have hg : goB n ways wares rs = false := by
            unfold goB
            rw [any_mid e hb]
            simp
          rw [hg] at h
          have hb' : (w.2.2 : Rat) < (rs.map fun r => r[i]?.getD 0).sum := of_decide_eq_true hb
          simpa [hb'] using h
        | false =>
          have hb' : ¬ (w.2.2 : Rat) < (rs.map fun r => r[i]?.getD 0).sum := of_decide_eq_false hb
          simp [hb']
          exact hN _ ⟨by simp [h2, hb], _, _, _, _, _, rfl⟩
    · rintro ρ ⟨h2, x2, x3, x4, x5, x6, rfl⟩
      simpa [goB, h1, h2] using h
def sp__law_brought : Spc := sp_brought_by
theorem len__law_brought : ∀ ds Q Z, sp__law_brought ds Q Z → ds.length = 2 := len_brought_by
def g__law_brought : DS := (dRet (dFz (dLc (dZip (dCons (dOp ixD (dVar 0) (dC (.int 2))) (dCons (dVar 1) dNil))) (gdTup 2 (gdCons (gdName 2) (gdCons (gdName 3) gdNil))) dYes (dCall sp__law_net_at (dCons (dVar 0) (dCons (dVar 3) (dCons (dOp ixD (dVar 2) (dC (.int 1))) dNil)))) [2, 3])))
theorem pure__law_brought : ∀ ds Q Z, sp__law_brought ds Q Z → g__law_brought { nx := fun _ => Q .non, rt := Q } (startS ["_law_net_here", "_law_flow_here", "_law_ware", "_law_row"] ds) := by
  rintro ds Q Z ⟨n, ways, wares, rs, m, b, rfl, hn, hf, h⟩
  have lw := hn.lw
  have l3 := hn.l3
  simp [g__law_brought, netD, flowD, and_assoc, zipD_map]
  refine ⟨by omega, lc_mapE (fun x => fr (leftQ ways x.2 x.1.2.1)) (fun x hx Q q => ?_) ?_⟩
  · have hr : x.2 ∈ rs := (List.of_mem_zip (a := x.1) (b := x.2) hx).2
    simp [and_assoc]
    exact ⟨n, ways, wares, x.2, x.1.2.1, m, b, rfl, hf.sm lw hr, by omega, q⟩
  · simpa [brL, Function.comp_def] using h
end Dy

/-! # The law's drawn nets and flows. -/
namespace Dy
variable [Tn]
open PySem PySem.Spec PyProof.Rows L2
/-- a way that may stand in a net of n places -/
def WOk (n : Int) (w : W3) : Prop := 0 ≤ w.1 ∧ w.1 < n ∧ 0 ≤ w.2.1 ∧ w.2.1 < n ∧ w.1 ≠ w.2.1 ∧ 1 ≤ w.2.2 ∧ w.2.2 ≤ 20
def Bef (v w : W3) : Prop := v.1 < w.1 ∨ (v.1 = w.1 ∧ v.2.1 < w.2.1)
theorem bef_lex {v w : W3} (h : Bef v w) : HT.lexLt (keyD (wD v)) (keyD (wD w)) = true := by
  simp only [wD, keyD]
  rcases h with h | ⟨h1, h2⟩
  · rw [HT.lexLt_cons, if_neg (by omega)]
    simpa using h
  · rw [HT.lexLt_cons, if_pos h1, HT.lexLt_cons, if_neg (by omega)]
    simpa using h2
theorem sortB_of : ∀ {l : List W3}, l.Pairwise Bef → sortB (l.map wD) = true
  | [], _ => rfl
  | [_], _ => rfl
  | x :: y :: l, h => by
    have ih := sortB_of (l := y :: l) (List.Pairwise.of_cons h)
    have h1 : Bef x y := (List.pairwise_cons.mp h).1 y (by simp)
    simp only [sortB, List.map_cons, List.drop_succ_cons, List.drop_zero, List.zipWith_cons_cons, List.all_cons, id] at ih ⊢
    rw [bef_lex h1, ih]
    rfl
def sp__law_net : Spc := fun ds Q _ => ∃ more : Nat, ds = [.int more] ∧ ∀ n ways wares, Net n ways wares → n ≤ 5 → ways.length ≤ 8 → ways.Pairwise Bef → Q (netD n ways wares)
theorem len__law_net : ∀ ds Q Z, sp__law_net ds Q Z → ds.length = 1 := len1 (fun ds Q Z ⟨_, e, _⟩ => ⟨_, e⟩)
theorem drawn_at {c : Int} {k : Nat} {Q : D → Prop} {Z : Addr → Prop} (h : ∀ v : Nat, Q (.int v)) : sp__law_drawn [.int c, .int k] Q Z := ⟨c, k, rfl, fun v _ => h v⟩
theorem drawn_atI {c k : Int} {Q : D → Prop} {Z : Addr → Prop} (hk : 0 ≤ k) (h : ∀ v : Nat, Q (.int v)) : sp__law_drawn [.int c, .int k] Q Z := by
  obtain ⟨m, rfl⟩ := Int.eq_ofNat_of_zero_le hk
  exact drawn_at h
theorem mod_other {a t n : Int} (h0 : 0 ≤ a) (h1 : a < n) (h2 : 0 ≤ t) (h3 : t < n - 1) : (a + 1 + t) % n ≠ a := by
  by_cases h : a + 1 + t < n
  · rw [Int.emod_eq_of_lt (by omega) h]
    omega
  · have e : (a + 1 + t) % n = a + 1 + t - n := by
      rw [← Int.sub_emod_right, Int.emod_eq_of_lt (by omega) (by omega)]
    omega
theorem divC {i j : Int} (h0 : 0 < j) (h1 : j < 1000000) : CDivW i j := divSm h0 (small_lt (by omega))
theorem pairwise_snoc {l : List W3} {x : W3} (h : l.Pairwise Bef) (hx : ∀ y ∈ l, Bef y x) : (l ++ [x]).Pairwise Bef := by
  rw [List.pairwise_append]
  exact ⟨h, by simp, fun a ha b hb => by rw [List.mem_singleton.mp hb]; exact hx a ha⟩
def g__law_net : DS := (dSeq2 (dSet 1 (dOp addD (dC (.int 2)) (dOp modD (dVar 0) (dC (.int 4)))))
    (dSeq2 (dSetL 2 (dLstL dNil))
    (dSeq2 (dFor (dRng1 (dCons (dVar 1) dNil)) (gdName 3)
    (dFor (dRng1 (dCons (dVar 1) dNil)) (gdName 4)
    (dSeq2 (dSet 5 (dCall sp__law_drawn (dCons (dVar 0) (dCons (dOp addD (dOp mulD (dC (.int 8)) (dVar 3)) (dVar 4)) dNil))))
    (dIf (dAndT (dTest (dOp neD (dVar 3) (dVar 4))) (dAndT (dTest (dOp ltD (dOp modD (dVar 5) (dC (.int 5))) (dOp addD (dC (.int 2)) (dOp modD (dOp fdivD (dVar 0) (dC (.int 8))) (dC (.int 3)))))) (dTest (dOp ltD (dLenOwn 2) (dC (.int 8))))))
    (dApp 2 (dTup (dCons (dVar 3) (dCons (dVar 4) (dCons (dOp addD (dC (.int 1)) (dOp modD (dOp fdivD (dVar 5) (dC (.int 64))) (dOp ixD (dLst (dCons (dC (.int 3)) (dCons (dC (.int 20)) dNil))) (dOp modD (dOp fdivD (dVar 0) (dC (.int 64))) (dC (.int 2)))))) dNil)))))
    dSkip))))
    (dSeq2 (dSetL 6 (dLstL dNil))
    (dSeq2 (dFor (dRng1 (dCons (dOp addD (dC (.int 1)) (dOp modD (dOp fdivD (dVar 0) (dC (.int 256))) (dC (.int 3)))) dNil)) (gdName 7)
    (dSeq2 (dSet 5 (dCall sp__law_drawn (dCons (dVar 0) (dCons (dOp addD (dC (.int 70)) (dVar 7)) dNil))))
    (dSeq2 (dSet 8 (dOp modD (dVar 5) (dVar 1)))
    (dApp 6 (dTup (dCons (dVar 8) (dCons (dOp modD (dOp addD (dOp addD (dVar 8) (dC (.int 1))) (dOp modD (dOp fdivD (dVar 5) (dC (.int 8))) (dOp subD (dVar 1) (dC (.int 1))))) (dVar 1)) (dCons (dOp addD (dC (.int 1)) (dOp modD (dOp fdivD (dVar 5) (dC (.int 64))) (dC (.int 9)))) dNil))))))))
    (dFrz 2 (dFrz 6 (dRet (dTup (dCons (dVar 1) (dCons (dVar 2) (dCons (dVar 6) dNil))))))))))))
theorem pure__law_net : ∀ ds Q Z, sp__law_net ds Q Z → g__law_net { nx := fun _ => Q .non, rt := Q } (startS ["_law_more", "_law_places", "_law_ways", "_law_one", "_law_other", "_law_here", "_law_wares", "_law_j", "_law_first"] ds) := by
  rintro ds Q Z ⟨more, rfl, h⟩
  simp [g__law_net, and_assoc]
  generalize hn : (2 : Int) + (more : Int) % 4 = n
  have n2 : 2 ≤ n := by omega
  have n5 : n ≤ 5 := by omega
  refine ⟨by omega, by omega, ?_⟩
  refine for_E (fun done left ρ => ∃ (ws : List W3) (x3 x4 x5 x6 x7 x8 : Sl), ρ = [.d (.int more), .d (.int n), .own (.lst (ws.map wD)), x3, x4, x5, x6, x7, x8] ∧ ws.Pairwise Bef ∧ ws.length ≤ 8 ∧ ∀ w ∈ ws, WOk n w ∧ w.1 < done.length) ⟨[], _, _, _, _, _, _, rfl, .nil, by simp, by simp⟩ ?_ ?_
  · rintro done i left ρ N e ⟨ws, x3, x4, x5, x6, x7, x8, rfl, hp, hl, hw⟩ hN
    have hi : i < n.toNat := List.mem_range.mp (by rw [← e]; simp)
    have ed : done.length = i := by
      have h1 : (List.range n.toNat)[done.length]? = some i := by rw [← e]; simp
      rw [List.getElem?_range (by have := congrArg List.length e; simp at this; omega)] at h1
      exact Option.some.inj h1
    simp [and_assoc]
    refine ⟨by omega, by omega, ?_⟩
    refine for_E (fun dn lf ρ => ∃ (ws : List W3) (x4 x5 x6 x7 x8 : Sl), ρ = [.d (.int more), .d (.int n), .own (.lst (ws.map wD)), .d (.int i), x4, x5, x6, x7, x8] ∧ ws.Pairwise Bef ∧ ws.length ≤ 8 ∧ ∀ w ∈ ws, WOk n w ∧ (w.1 < i ∨ (w.1 = i ∧ w.2.1 < dn.length))) ⟨ws, _, _, _, _, _, rfl, hp, hl, fun w hw' => ⟨(hw w hw').1, .inl (by have := (hw w hw').2; omega)⟩⟩ ?_ ?_
    · rintro dn j lf ρ N2 e2 ⟨ws, x4, x5, x6, x7, x8, rfl, hp, hl, hw⟩ hN2
      have hj : j < n.toNat := List.mem_range.mp (by rw [← e2]; simp)
      have ej : dn.length = j := by
        have h1 : (List.range n.toNat)[dn.length]? = some j := by rw [← e2]; simp
        rw [List.getElem?_range (by have := congrArg List.length e2; simp at this; omega)] at h1
        exact Option.some.inj h1
      have keep : ∀ x5 : Sl, N2 [.d (.int more), .d (.int n), .own (.lst (ws.map wD)), .d (.int i), .d (.int j), x5, x6, x7, x8] := fun x5 => hN2 _ ⟨ws, _, _, _, _, _, rfl, hp, hl, fun w hw' => ⟨(hw w hw').1, by
        rcases (hw w hw').2 with z | ⟨z1, z2⟩
        · exact .inl z
        · exact .inr ⟨z1, by rw [List.length_append]; simp; omega⟩⟩⟩
      simp [and_assoc]
      refine ⟨mulR (by omega) (by omega), drawn_atI (by omega) fun v => ?_⟩
      simp
      by_cases hij : (i : Int) = j
      · rw [if_pos hij]
        exact keep _
      · rw [if_neg hij]
        refine ⟨divC (by decide) (by decide), ?_⟩
        split
        · split
          · rename_i hl8
            refine ⟨by omega, divC (by decide) (by decide), divC (by decide) (by decide), ?_⟩
            have put : ∀ c : Int, 1 ≤ c → c ≤ 20 → N2 [.d (.int more), .d (.int n), .own (.lst (ws.map wD ++ [.tup [.int i, .int j, .int c]])), .d (.int i), .d (.int j), .d (.int v), x6, x7, x8] := fun c c1 c2 => by
              refine hN2 _ ⟨ws ++ [((i : Int), (j : Int), c)], _, _, _, _, _, by rw [List.map_append]; rfl, pairwise_snoc hp fun y hy => ?_, by rw [List.length_append]; simp; omega, fun w hw' => ?_⟩
              · have := (hw y hy).2
                rw [ej] at this
                exact this
              · rcases List.mem_append.mp hw' with z | z
                · have := (hw w z).2
                  exact ⟨(hw w z).1, by rw [List.length_append]; simp; omega⟩
                · rw [List.mem_singleton.mp z]
                  exact ⟨⟨by show (0 : Int) ≤ i; omega, by show (i : Int) < n; omega, by show (0 : Int) ≤ j; omega, by show (j : Int) < n; omega, hij, c1, c2⟩, .inr ⟨rfl, by rw [List.length_append, ej]; show (j : Int) < _; simp; omega⟩⟩
            rcases (show (more : Int) / 64 % 2 = 0 ∨ (more : Int) / 64 % 2 = 1 by omega) with z | z
            · rw [z]
              refine ⟨_, atI0 _ _, by decide, put _ ?_ ?_⟩ <;> omega
            · rw [z]
              refine ⟨_, atI1 _ _ _, by decide, put _ ?_ ?_⟩ <;> omega
          · exact keep _
        · exact keep _
    · rintro ρ ⟨ws, x4, x5, x6, x7, x8, rfl, hp, hl, hw⟩
      exact hN _ ⟨ws, _, _, _, _, _, _, rfl, hp, hl, fun w hw' => ⟨(hw w hw').1, by
        have := (hw w hw').2
        have := (hw w hw').1
        rw [List.length_append]
        simp
        omega⟩⟩
  · rintro ρ ⟨ws, x3, x4, x5, x6, x7, x8, rfl, hp, hl, hw⟩
    simp [and_assoc]
    refine ⟨divC (by decide) (by decide), by omega, by omega, ?_⟩
    have hk : (1 + (more : Int) / 256 % 3).toNat ≤ 3 ∧ 1 ≤ (1 + (more : Int) / 256 % 3).toNat := by omega
    refine for_E (fun done left ρ => ∃ (vs : List W3) (x3 x4 x5 x7 x8 : Sl), ρ = [.d (.int more), .d (.int n), .own (.lst (ws.map wD)), x3, x4, x5, .own (.lst (vs.map wD)), x7, x8] ∧ vs.length = done.length ∧ ∀ w ∈ vs, WOk n w) ⟨[], _, _, _, _, _, rfl, rfl, by simp⟩ ?_ ?_
    · rintro done j left ρ N e ⟨vs, x3, x4, x5, x7, x8, rfl, hv, hw2⟩ hN
      have hd : done.length ≤ 3 := by have := congrArg List.length e; simp at this; omega
      simp [and_assoc]
      refine drawn_atI (by omega) fun v => ?_
      simp [and_assoc]
      refine ⟨by omega, by omega, divC (by decide) (by decide), by omega, by omega, divC (by decide) (by decide), ?_⟩
      refine hN _ ⟨vs ++ [((v : Int) % n, ((v : Int) % n + 1 + (v : Int) / 8 % (n - 1)) % n, 1 + (v : Int) / 64 % 9)], _, _, _, _, _, by rw [List.map_append]; rfl, by rw [List.length_append, List.length_append, hv]; rfl, fun w hw' => ?_⟩
      rcases List.mem_append.mp hw' with z | z
      · exact hw2 w z
      · rw [List.mem_singleton.mp z]
        have a1 := Int.emod_nonneg (v : Int) (show n ≠ 0 by omega)
        have a2 := Int.emod_lt_of_pos (v : Int) (show 0 < n by omega)
        have t1 := Int.emod_nonneg ((v : Int) / 8) (show n - 1 ≠ 0 by omega)
        have t2 := Int.emod_lt_of_pos ((v : Int) / 8) (show 0 < n - 1 by omega)
        exact ⟨a1, a2, Int.emod_nonneg _ (by omega), Int.emod_lt_of_pos _ (by omega), fun z => mod_other a1 a2 t1 t2 z.symm, by show (1 : Int) ≤ 1 + (v : Int) / 64 % 9; omega, by show (1 : Int) + (v : Int) / 64 % 9 ≤ 20; omega⟩
    · rintro ρ ⟨vs, x3, x4, x5, x7, x8, rfl, hv, hw2⟩
      simp [OB.frz]
      rw [List.length_range] at hv
      refine h n ws vs ⟨n2, by omega, by omega, by omega, by omega, fun w hw' => ?_, sortB_of hp⟩ n5 hl hp
      rcases List.mem_append.mp hw' with z | z
      · exact (hw w z).1
      · exact hw2 w z
end Dy

/-! # Both wares at once. -/
namespace Dy
variable [Tn]
open PySem PySem.Spec PyProof.Rows L2
@[simp] def c8_MOST_PLACES : D := .int 8
@[simp] def c_MOST_LINES : D := .int 16
@[simp] def c_MOST_WANT : D := .int 200
/-- a sound floor, a sound ware of it -/
structure Flr (n : Nat) (ls : List W3) : Prop where
  n2 : 2 ≤ n
  n8 : n ≤ 8
  len : ls.length ≤ 16
  l : ∀ l ∈ ls, (0 ≤ l.1 ∧ l.1 < l.2.1 ∧ l.2.1 < n) ∧ 1 ≤ l.2.2 ∧ l.2.2 ≤ 20
  ds : ls.Pairwise Bef
structure Wre (n : Nat) (w : W3) : Prop where
  a : 0 ≤ w.1 ∧ w.1 < n
  b : 0 ≤ w.2.1 ∧ w.2.1 < n
  ne : w.1 ≠ w.2.1
  m : 0 ≤ w.2.2 ∧ w.2.2 ≤ 200
theorem Flr.lok {n : Nat} {ls : List W3} (h : Flr n ls) : M40.LOk ls := ⟨fun l hl => (h.l l hl).1.2.1, h.ds.imp fun {a b} hb z => by
  unfold Bef at hb
  omega, fun l hl => (h.l l hl).2.1⟩
theorem st4_of {n : Nat} {ls : List W3} (h : Flr n ls) {one other : W3} (h1 : Wre n one) (h2 : Wre n other) : St4 ls one.1 one.2.1 one.2.2 other.1 other.2.1 other.2.2 := ⟨apart, h.lok, h1.m.1, h2.m.1⟩
/-- each line's two rooms -/
def Two (ls : List W3) (L : KL) : Prop := ∀ l ∈ ls, L (kI l.1) (kI l.2.1) + L (kI l.2.1) (kI l.1) = 2 * l.2.2 ∧ 0 ≤ L (kI l.1) (kI l.2.1) ∧ 0 ≤ L (kI l.2.1) (kI l.1)
/-- a cut that bars -/
structure Cut (n : Nat) (ls : List W3) (one other : W3) (S : List Int) : Prop where
  up : S.Pairwise (· < ·)
  inn : ∀ v ∈ S, 0 ≤ v ∧ v < n
  bar : M40.roomP S ls < M40.partW S one + M40.partW S other
def sp_one_ware : Spc := fun ds Q _ => ∃ (n : Nat) (ls : List W3) (one other : W3), ds = [floorD n ls, wD one, wD other] ∧ Flr n ls ∧ Wre n one ∧ Wre n other ∧
  (∀ L : KL, Two ls L → (∀ v, M40.gainZ kI L v ls = M40.cap2 one.1 one.2.2 other.1 other.2.2 v - M40.cap2 one.2.1 one.2.2 other.2.1 other.2.2 v) → Q (.tup [intsD (ls.map (M40.fl kI L)), .non])) ∧
  ∀ S : List Int, Cut n ls one other S → Q (.tup [.non, intsD S])
theorem len_one_ware : ∀ ds Q Z, sp_one_ware ds Q Z → ds.length = 3 := len3 (fun ds Q Z ⟨_, _, _, _, e, _⟩ => ⟨_, _, _, e⟩)
def g_one_ware (a_Rooms : Addr) : DS := (dSeq2 (dSet 3 (dLst (dCons (dTup (dCons (dC (.str "from")) (dCons (dOp ixD (dVar 1) (dC (.int 0))) (dCons (dOp ixD (dVar 1) (dC (.int 2))) dNil)))) (dCons (dTup (dCons (dOp ixD (dVar 1) (dC (.int 1))) (dCons (dC (.str "to")) (dCons (dOp ixD (dVar 1) (dC (.int 2))) dNil)))) (dCons (dTup (dCons (dC (.str "from")) (dCons (dOp ixD (dVar 2) (dC (.int 0))) (dCons (dOp ixD (dVar 2) (dC (.int 2))) dNil)))) (dCons (dTup (dCons (dOp ixD (dVar 2) (dC (.int 1))) (dCons (dC (.str "to")) (dCons (dOp ixD (dVar 2) (dC (.int 2))) dNil)))) dNil))))))
    (dSeq2 (dUnp (gdTup 3 (gdCons (gdName 4) (gdCons (gdName 5) (gdCons (gdName 6) gdNil)))) (dCall (sp_sent a_Rooms) (dCons (dVar 0) (dCons (dVar 3) dNil))))
    (dSeq2 (dIf (dTest (dCB anyD (dCons (dFz (dLc (dSeq (dTup (dCons (dVar 1) (dCons (dVar 2) dNil)))) (gdName 7) dYes (dOp (cmpD fun i j => decide (j < i)) (dFGet (dIns a_Rooms "left" (dVar 6)) (dTpl (dCons (dC (.str "from")) (dCons (dOp ixD (dVar 7) (dC (.int 0))) dNil)))) (dC (.int 0))) [7])) dNil)))
    (dRet (dTup (dCons (dC .non) (dCons (dVar 5) dNil))))
    dSkip)
    (dRet (dTup (dCons (dVar 4) (dCons (dC .non) dNil)))))))
theorem pure_one_ware (C : Addr) : ∀ ds Q Z, sp_one_ware ds Q Z → g_one_ware C { nx := fun _ => Q .non, rt := Q } (startS ["floor", "one", "other", "ends", "flow", "places", "rooms", "ware"] ds) := by
  rintro ds Q Z ⟨n, ls, one, other, rfl, hF, h1, h2, hq1, hq2⟩
  have W := st4_of hF h1 h2
  have n8 := hF.n8
  have hlen := hF.len
  simp [g_one_ware, and_assoc]
  refine ⟨n, ls, one.1, one.2.1, one.2.2, other.1, other.2.1, other.2.2, rfl, W, by omega, by omega, fun L f I t hc hs => ?_⟩
  have k1 : (src, kI one.1) ∈ ks4 ls one.1 one.2.1 other.1 other.2.1 := List.mem_append_right _ (M40.mem_ek4.mpr (.inl ⟨one.1, .inl rfl, .inl rfl⟩))
  have k2 : (src, kI other.1) ∈ ks4 ls one.1 one.2.1 other.1 other.2.1 := List.mem_append_right _ (M40.mem_ek4.mpr (.inl ⟨other.1, .inr rfl, .inl rfl⟩))
  have v1 := valI_dct (L := L) k1
  have v2 := valI_dct (L := L) k2
  have p1 := I.pos src (kI one.1)
  have p2 := I.pos src (kI other.1)
  simp [insRooms]
  refine ⟨_, _, ⟨rfl, rfl⟩, _, _, rfl, _, _, rfl, rfl, ?_⟩
  refine lc_mapE (xs := [one, other]) (e := wD) (fun w => .bl (decide (0 < L src (kI w.1)))) (fun w hw Q q => ?_) ⟨[decide (0 < L src (kI one.1)), decide (0 < L src (kI other.1))], rfl, ?_⟩
  · have v : valI (dctOf (ks4 ls one.1 one.2.1 other.1 other.2.1) L) [src, kI w.1] = some (L src (kI w.1)) := by
      rcases List.mem_cons.mp hw with rfl | hw
      · exact v1
      · rw [List.mem_singleton.mp hw]
        exact v2
    simp [and_assoc, v]
    exact q
  · by_cases hx : 0 < L src (kI one.1) ∨ 0 < L src (kI other.1)
    · have cut := M40.cut4 W I (n := n) (fun l hl => by
        have := (hF.l l hl).1
        exact ⟨⟨by omega, by omega⟩, by omega, by omega⟩) ⟨h1.a, h2.a⟩ t.src_mem hs hc hx
      obtain ⟨c1, c2⟩ := M40.come_ok (pl := kI) f n
      have := hq2 _ ⟨c1, c2, cut⟩
      have hb : (decide (0 < L src (kI one.1)) || decide (0 < L src (kI other.1))) = true := by simpa using hx
      simpa [hx] using this
    · have z1 : L src (kI one.1) = 0 := by omega
      have z2 : L src (kI other.1) = 0 := by omega
      have := hq1 L (M40.lines4 W I) (M40.sent4 W I z1 z2)
      simpa [z1, z2] using this
end Dy

/-! # Floors: what the checks say. -/
namespace Dy
variable [Tn]
open PySem PySem.Spec PyProof.Rows L2
def upB : D → Bool
  | .tup (.int a :: .int b :: _) => decide (a < b)
  | _ => false
def floorB (d one other : D) : Bool := match d with
  | .tup [.int n, .lst lines] => decide (2 ≤ n ∧ n ≤ 8) && decide (lines.length ≤ 16) && lines.all (fun w => wayB w n 1 20 && upB w) && sortB lines && wayB one n 0 200 && wayB other n 0 200
  | _ => false
def FloorF (d : D) : Prop := ∃ p lines, d = .tup [p, .lst lines] ∧ pl 50 p = true ∧ lines.all (pl 50) = true ∧ lines.length ≤ 1000
def sp_need (aB : Addr) : Spc := fun ds Q Z => ∃ b, ds = [.bl b] ∧ if b = true then Q .non else Z aB
theorem len_need (aB : Addr) : ∀ ds Q Z, sp_need aB ds Q Z → ds.length = 1 := len1 (fun ds Q Z ⟨_, e, _⟩ => ⟨_, e⟩)
@[simp] theorem sp_need_at (aB : Addr) (b : Bool) (Q : D → Prop) (Z : Addr → Prop) : sp_need aB [.bl b] Q Z ↔ if b = true then Q .non else Z aB := by
  constructor
  · rintro ⟨d', e, h⟩
    simp at e
    obtain rfl := e
    exact h
  · intro h
    exact ⟨_, rfl, h⟩
def g_need (a_BadFloor : Addr) : DS := (dIf (dNotT (dTest (dVar 0)))
    (dRaise a_BadFloor)
    dSkip)
theorem pure_need (aB : Addr) : ∀ ds Q Z, sp_need aB ds Q Z → g_need aB { nx := fun _ => Q .non, rt := Q, xx := Z } (startS ["good"] ds) := by
  rintro ds Q Z ⟨b, rfl, h⟩
  cases b <;> simpa [g_need] using h
def sp_need_floor (aB : Addr) : Spc := fun ds Q Z => ∃ d one other, ds = [d, one, other] ∧ FloorF d ∧ pl 50 one = true ∧ pl 50 other = true ∧ if floorB d one other = true then Q .non else Z aB
theorem len_need_floor (aB : Addr) : ∀ ds Q Z, sp_need_floor aB ds Q Z → ds.length = 3 := len3 (fun ds Q Z ⟨_, _, _, e, _⟩ => ⟨_, _, _, e⟩)
@[simp] theorem sp_need_floor_at (aB : Addr) (d one other : D) (Q : D → Prop) (Z : Addr → Prop) : sp_need_floor aB [d, one, other] Q Z ↔ FloorF d ∧ pl 50 one = true ∧ pl 50 other = true ∧ if floorB d one other = true then Q .non else Z aB := by
  constructor
  · rintro ⟨d', o', t', e, h⟩
    simp at e
    obtain ⟨rfl, rfl, rfl⟩ := e
    exact h
  · intro h
    exact ⟨_, _, _, rfl, h⟩
def g_need_floor (a_BadFloor : Addr) : DS := (dSeq2 (dUnp (gdTup 2 (gdCons (gdName 3) (gdCons (gdName 4) gdNil))) (dVar 0))
    (dSeq2 (dCallX (sp_need a_BadFloor) (dCons (dAnd (dCall sp_is_count (dCons (dVar 3) (dCons (dC (.int 2)) (dCons (dC c8_MOST_PLACES) dNil)))) (dOp (cmpD fun i j => decide (i ≤ j)) (dCB lenD (dCons (dVar 4) dNil)) (dC c_MOST_LINES))) dNil))
    (dSeq2 (dCallX (sp_need a_BadFloor) (dCons (dCB allD (dCons (dFz (dLc (dSeq (dVar 4)) (gdName 5) dYes (dAnd (dCall sp_is_way (dCons (dVar 5) (dCons (dVar 3) (dCons (dC (.int 1)) (dCons (dC c_MOST) dNil))))) (dOp ltD (dOp ixD (dVar 5) (dC (.int 0))) (dOp ixD (dVar 5) (dC (.int 1))))) [5])) dNil)) dNil))
    (dSeq2 (dCallX (sp_need a_BadFloor) (dCons (dCB allD (dCons (dFz (dLc (dZip (dCons (dVar 4) (dCons (dSl (dVar 4) (dPart (dC (.int 1))) dNoPart) dNil))) (gdTup 2 (gdCons (gdName 6) (gdCons (gdName 7) gdNil))) dYes (dOp ltD (dSl (dVar 6) dNoPart (dPart (dC (.int 2)))) (dSl (dVar 7) dNoPart (dPart (dC (.int 2))))) [6, 7])) dNil)) dNil))
    (dCallX (sp_need a_BadFloor) (dCons (dAnd (dCall sp_is_way (dCons (dVar 1) (dCons (dVar 3) (dCons (dC (.int 0)) (dCons (dC c_MOST_WANT) dNil))))) (dCall sp_is_way (dCons (dVar 2) (dCons (dVar 3) (dCons (dC (.int 0)) (dCons (dC c_MOST_WANT) dNil)))))) dNil))))))
theorem pure_need_floor (aB : Addr) : ∀ ds Q Z, sp_need_floor aB ds Q Z → g_need_floor aB { nx := fun _ => Q .non, rt := Q, xx := Z } (startS ["floor", "one", "other", "places", "lines", "line", "first", "second"] ds) := by
  rintro ds Q Z ⟨d, one, other, rfl, ⟨p, lines, rfl, hp, hl, ll⟩, h1, h2, h⟩
  have tp := pl_ty hp
  simp [g_need_floor, and_assoc]
  refine ⟨tp, ?_⟩
  cases hc : cnt p 2 8 with
  | false =>
    have e : floorB (.tup [p, .lst lines]) one other = false := by
      cases p <;> simp_all [floorB, cnt]
      omega
    simpa [e] using h
  | true =>
    obtain ⟨n, rfl, n2, n8⟩ := cnt_of hc
    by_cases h16 : lines.length ≤ 16
    · have e16 : (lines.length : Int) ≤ 16 := by omega
      simp [e16]
      refine ⟨by omega, lc_map (fun x => .bl (wayB x n 1 20 && upB x)) (fun x hx Q q => ?_) ?_⟩
      · have hx' : pl 50 x = true := List.all_eq_true.mp hl x hx
        cases hw : wayB x n 1 20 with
        | false => simpa [hx', hw] using q
        | true =>
          obtain ⟨a, b, c, rfl, _⟩ := wayB_key hw
          simpa [hw, upB] using q
      · obtain ⟨bs, e1, e2⟩ := map_bl_all lines (fun x => wayB x n 1 20 && upB x)
        refine ⟨bs, e1, ?_⟩
        have en : floorB (.tup [.int n, .lst lines]) one other = (bs.all id && sortB lines && wayB one n 0 200 && wayB other n 0 200) := by
          rw [e2]
          simp [floorB, n2, n8, h16]
        rw [en] at h
        cases hb : bs.all id with
        | false => simpa [hb, all_not] using h
        | true =>
          rw [hb, Bool.true_and] at h
          have hnm : ¬ false ∈ bs := by rw [all_not, hb]; simp
          rw [if_neg hnm]
          refine ⟨by simp [zipD]; omega, lc_map (fun x => match x with | .tup [a, b] => D.bl (HT.lexLt (keyD a) (keyD b)) | _ => .non) (fun x hx Q q => ?_) ?_⟩
          · obtain ⟨x1, x2, rfl, m1, m2⟩ := mem_zipD hx
            rw [hb] at e2
            have all := List.all_eq_true.mp e2.symm
            have a1 := all x1 (by simp [m1])
            have a2 := all x2 (by simp [List.mem_of_mem_tail m2])
            rw [Bool.and_eq_true] at a1 a2
            obtain ⟨a, b, c, rfl, _⟩ := wayB_key a1.1
            obtain ⟨a', b', c', rfl, _⟩ := wayB_key a2.1
            have nw : HT.sIx 3 0 none = 0 → ¬ HT.sIx 3 3 (some 2) = 3 := fun h1 h2 => notwhole2 (l := [D.int a, D.int b, D.int c]) rfl ⟨h1, h2⟩
            simp [keyD] at q
            simp [and_assoc]
            exact ⟨nw, [a, b], rfl, [a', b'], rfl, q⟩
          · refine ⟨_, zip_keys lines lines.tail, ?_⟩
            have hs : sortB lines = (List.zipWith (fun x y => HT.lexLt (keyD x) (keyD y)) lines lines.tail).all id := by simp [sortB]
            rw [hs] at h
            simp only [all_not, h1, h2, true_and]
            revert h
            cases (List.zipWith (fun x y => HT.lexLt (keyD x) (keyD y)) lines lines.tail).all id <;> cases wayB one n 0 200 <;> cases wayB other n 0 200 <;> simp
    · have e16 : ¬ (lines.length : Int) ≤ 16 := by omega
      have e : floorB (.tup [.int n, .lst lines]) one other = false := by
        simp [floorB]
        omega
      simpa [e16, e, h16] using h
end Dy

/-! # A double or a cut. -/
namespace Dy
variable [Tn]
open PySem PySem.Spec PyProof.Rows L2
theorem lex_two {a b c d : Int} (h : HT.lexLt [a, b] [c, d] = true) : a < c ∨ (a = c ∧ b < d) := by
  rw [HT.lexLt_cons] at h
  by_cases e : a = c
  · rw [if_pos e, HT.lexLt_cons] at h
    by_cases e2 : b = d
    · rw [if_pos e2] at h
      simp [HT.lexLt] at h
    · rw [if_neg e2] at h
      exact .inr ⟨e, by simpa using h⟩
  · rw [if_neg e] at h
    exact .inl (by simpa using h)
theorem bef_of : ∀ {l : List W3}, sortB (l.map wD) = true → l.Pairwise Bef
  | [], _ => .nil
  | [_], _ => List.pairwise_singleton _ _
  | x :: y :: l, h => by
    simp only [sortB, List.map_cons, List.drop_succ_cons, List.drop_zero, List.zipWith_cons_cons, List.all_cons, id, Bool.and_eq_true] at h
    have ih := bef_of (l := y :: l) (by simpa [sortB] using h.2)
    have hxy : Bef x y := lex_two (by simpa [keyD] using h.1)
    refine List.pairwise_cons.mpr ⟨fun z hz => ?_, ih⟩
    rcases List.mem_cons.mp hz with rfl | hz
    · exact hxy
    · have := (List.pairwise_cons.mp ih).1 z hz
      unfold Bef at this hxy ⊢
      omega
theorem ware_of {d : D} {n : Nat} (h : wayB d n 0 200 = true) : ∃ w : W3, d = wD w ∧ Wre n w := by
  obtain ⟨a, b, c, rfl, h1, h2, h3, h4, h5, h6, h7⟩ := wayB_key h
  exact ⟨(a, b, c), rfl, ⟨h1, by show a < n; omega⟩, ⟨h3, by show b < n; omega⟩, h5, h6, h7⟩
theorem ware_ok {w : W3} {n : Nat} (h : Wre n w) : wayB (wD w) n 0 200 = true := by
  have ⟨h1, h2⟩ := h.a
  have ⟨h3, h4⟩ := h.b
  have ⟨h5, h6⟩ := h.m
  have h7 := h.ne
  have k1 : w.1 ≤ (n : Int) - 1 := by omega
  have k2 : w.2.1 ≤ (n : Int) - 1 := by omega
  simp [wayB, cnt, h1, h3, h5, h6, h7, k1, k2]
theorem lines_of {n : Int} : ∀ {l : List D}, (∀ d ∈ l, (wayB d n 1 20 && upB d) = true) → ∃ ws : List W3, l = ws.map wD ∧ ∀ w ∈ ws, (0 ≤ w.1 ∧ w.1 < w.2.1 ∧ w.2.1 < n) ∧ 1 ≤ w.2.2 ∧ w.2.2 ≤ 20
  | [], _ => ⟨[], rfl, by simp⟩
  | d :: l, h => by
    have hd := h d (by simp)
    rw [Bool.and_eq_true] at hd
    obtain ⟨a, b, c, rfl, h1, h2, h3, h4, h5, h6, h7⟩ := wayB_key hd.1
    have hu : a < b := by simpa [upB] using hd.2
    obtain ⟨ws, e, hw⟩ := lines_of (l := l) fun x hx => h x (by simp [hx])
    refine ⟨(a, b, c) :: ws, by rw [e]; rfl, fun w hw' => ?_⟩
    rcases List.mem_cons.mp hw' with rfl | hw'
    · exact ⟨⟨h1, hu, by show b < n; omega⟩, h6, h7⟩
    · exact hw w hw'
theorem floor_of {d one other : D} (h : floorB d one other = true) : ∃ (n : Nat) (ls : List W3) (w1 w2 : W3), d = floorD n ls ∧ one = wD w1 ∧ other = wD w2 ∧ Flr n ls ∧ Wre n w1 ∧ Wre n w2 := by
  unfold floorB at h
  split at h
  · rename_i n lines
    simp only [Bool.and_eq_true, decide_eq_true_eq] at h
    obtain ⟨⟨⟨⟨⟨h1, h2⟩, h3⟩, h4⟩, h5⟩, h6⟩ := h
    obtain ⟨m, rfl⟩ := Int.eq_ofNat_of_zero_le (a := n) (by omega)
    obtain ⟨ls, rfl, q⟩ := lines_of (l := lines) fun x hx => List.all_eq_true.mp h3 x hx
    obtain ⟨w1, rfl, k1⟩ := ware_of h5
    obtain ⟨w2, rfl, k2⟩ := ware_of h6
    exact ⟨m, ls, w1, w2, rfl, rfl, rfl, ⟨by omega, by omega, by simpa using h2, q, bef_of h4⟩, k1, k2⟩
  · cases h
theorem floor_ok {n : Nat} {ls : List W3} {one other : W3} (hF : Flr n ls) : floorB (floorD n ls) (wD one) (wD other) = (wayB (wD one) n 0 200 && wayB (wD other) n 0 200) := by
  have h1 := hF.n2
  have h2 := hF.n8
  have h3 := hF.len
  have h4 := sortB_of hF.ds
  have h5 : (ls.map wD).all (fun w => wayB w n 1 20 && upB w) = true := by
    rw [List.all_eq_true]
    intro x hx
    obtain ⟨l, hl, rfl⟩ := List.mem_map.mp hx
    obtain ⟨⟨k1, k2, k3⟩, k4, k5⟩ := hF.l l hl
    have k6 : 0 ≤ l.2.1 := by omega
    have k7 : l.1 ≤ (n : Int) - 1 := by omega
    have k8 : l.2.1 ≤ (n : Int) - 1 := by omega
    have k9 : ¬ l.1 = l.2.1 := by omega
    simp [wayB, cnt, upB, k1, k2, k4, k5, k6, k7, k8, k9]
  have h6 : (2 : Int) ≤ n := by omega
  have h7 : (n : Int) ≤ 8 := by omega
  simp only [floorB, floorD, h4, h5, h6, h7, List.length_map, h3, and_self, decide_true, Bool.true_and]
theorem floorD_form {n : Nat} {ls : List W3} (h : ls.length ≤ 1000) : FloorF (floorD n ls) := ⟨_, _, rfl, by simp, by simp, by simpa using h⟩
/-- a double that goes -/
structure Dbl (ls : List W3) (one other : W3) (xs ys : List Rat) : Prop where
  w : M40.Within ls xs ys
  a : ∀ v, M40.gain ls xs v = M40.due one v
  b : ∀ v, M40.gain ls ys v = M40.due other v
  lx : ∀ q ∈ xs, Lat 2 100 q
  ly : ∀ q ∈ ys, Lat 2 100 q
theorem half_mk (i : Int) : mkRat i 2 = (i : Rat) / 2 := by
  rw [Rat.mkRat_eq_div]
  rfl
theorem dbl_of {n : Nat} {ls : List W3} (hF : Flr n ls) {one other : W3} {L M : KL} (hL : Two ls L) (hM : Two ls M)
    (g1 : ∀ v, M40.gainZ kI L v ls = M40.cap2 one.1 one.2.2 other.1 other.2.2 v - M40.cap2 one.2.1 one.2.2 other.2.1 other.2.2 v)
    (g2 : ∀ v, M40.gainZ kI M v ls = M40.cap2 one.1 one.2.2 other.2.1 other.2.2 v - M40.cap2 one.2.1 one.2.2 other.1 other.2.2 v) :
    Dbl ls one other (M40.halfs 1 (ls.map (M40.fl kI L)) (ls.map (M40.fl kI M))) (M40.halfs (-1) (ls.map (M40.fl kI L)) (ls.map (M40.fl kI M))) := by
  have lim := M40.lim_of (pl := kI) hL hM
  have dd := M40.double_dues (pl := kI) lim g1 g2
  have lat : ∀ (σ : Int), (σ = 1 ∨ σ = -1) → ∀ l : List W3, (∀ x ∈ l, x ∈ ls) → ∀ q ∈ M40.halfs σ (l.map (M40.fl kI L)) (l.map (M40.fl kI M)), Lat 2 100 q := by
    intro σ hσ l
    induction l with
    | nil => intro _ q hq; cases hq
    | cons x l ih =>
      intro hx q hq
      rcases List.mem_cons.mp hq with rfl | hq
      · have a := hL x (hx x (by simp))
        have b := hM x (hx x (by simp))
        have c := (hF.l x (hx x (by simp))).2
        refine ⟨by omega, M40.fl kI L x + σ * M40.fl kI M x, by rw [half_mk], ?_⟩
        unfold M40.fl
        rcases hσ with rfl | rfl <;> omega
      · exact ih (fun y hy => hx y (by simp [hy])) q hq
  exact ⟨M40.within_half lim, fun v => (dd v).1, fun v => (dd v).2, lat 1 (.inl rfl) ls (fun _ h => h), lat (-1) (.inr rfl) ls (fun _ h => h)⟩
def sp_both_go (aB : Addr) : Spc := fun ds Q Z => ∃ d one other, ds = [d, one, other] ∧ FloorF d ∧ pl 50 one = true ∧ pl 50 other = true ∧ (floorB d one other = false → Z aB) ∧
  ∀ (n : Nat) (ls : List W3) (w1 w2 : W3), d = floorD n ls → one = wD w1 → other = wD w2 → Flr n ls → Wre n w1 → Wre n w2 →
    (∀ xs ys, Dbl ls w1 w2 xs ys → Q (.tup [.str "double", .tup [rowD xs, rowD ys]])) ∧ ∀ S, Cut n ls w1 w2 S → Q (.tup [.str "cut", intsD S])
theorem len_both_go (aB : Addr) : ∀ ds Q Z, sp_both_go aB ds Q Z → ds.length = 3 := len3 (fun ds Q Z ⟨_, _, _, e, _⟩ => ⟨_, _, _, e⟩)
def g_both_go (a_BadFloor : Addr) : DS := (dSeq2 (dCallX (sp_need_floor a_BadFloor) (dCons (dVar 0) (dCons (dVar 1) (dCons (dVar 2) dNil))))
    (dSeq2 (dUnp (gdTup 2 (gdCons (gdName 3) (gdCons (gdName 4) gdNil))) (dCall sp_one_ware (dCons (dVar 0) (dCons (dVar 1) (dCons (dVar 2) dNil)))))
    (dSeq2 (dIf (dTest (dOp isND (dVar 3) (dC .non)))
    (dRet (dTup (dCons (dC (.str "cut")) (dCons (dVar 4) dNil))))
    dSkip)
    (dSeq2 (dUnp (gdTup 2 (gdCons (gdName 5) (gdCons (gdName 4) gdNil))) (dCall sp_one_ware (dCons (dVar 0) (dCons (dVar 1) (dCons (dTup (dCons (dOp ixD (dVar 2) (dC (.int 1))) (dCons (dOp ixD (dVar 2) (dC (.int 0))) (dCons (dOp ixD (dVar 2) (dC (.int 2))) dNil)))) dNil)))))
    (dSeq2 (dIf (dTest (dOp isND (dVar 5) (dC .non)))
    (dRet (dTup (dCons (dC (.str "cut")) (dCons (dVar 4) dNil))))
    dSkip)
    (dSeq2 (dSet 6 (dFz (dLc (dZip (dCons (dVar 3) (dCons (dVar 5) dNil))) (gdTup 2 (gdCons (gdName 8) (gdCons (gdName 9) gdNil))) dYes (dCall sp_fraction (dCons (dOp addD (dVar 8) (dVar 9)) (dCons (dC (.int 2)) dNil))) [8, 9])))
    (dSeq2 (dSet 7 (dFz (dLc (dZip (dCons (dVar 3) (dCons (dVar 5) dNil))) (gdTup 2 (gdCons (gdName 8) (gdCons (gdName 9) gdNil))) dYes (dCall sp_fraction (dCons (dOp subD (dVar 8) (dVar 9)) (dCons (dC (.int 2)) dNil))) [8, 9])))
    (dRet (dTup (dCons (dC (.str "double")) (dCons (dTup (dCons (dVar 6) (dCons (dVar 7) dNil))) dNil)))))))))))
theorem halfs_zip {f : Rat → D} (σ : Int) : ∀ xs ys : List Int, (M40.halfs σ xs ys).map f = (List.zip xs ys).map fun x => f (((x.1 + σ * x.2 : Int) : Rat) / 2)
  | [], _ => by simp [M40.halfs]
  | _ :: _, [] => by simp [M40.halfs]
  | x :: xs, y :: ys => by simp [M40.halfs, halfs_zip σ xs ys]
theorem one_ware_at {n : Nat} {ls : List W3} {one other : W3} {Q : D → Prop} {Z : Addr → Prop} (hF : Flr n ls) (h1 : Wre n one) (h2 : Wre n other)
    (a : ∀ L : KL, Two ls L → (∀ v, M40.gainZ kI L v ls = M40.cap2 one.1 one.2.2 other.1 other.2.2 v - M40.cap2 one.2.1 one.2.2 other.2.1 other.2.2 v) → Q (.tup [intsD (ls.map (M40.fl kI L)), .non]))
    (b : ∀ S : List Int, Cut n ls one other S → Q (.tup [.non, intsD S])) : sp_one_ware [floorD n ls, wD one, wD other] Q Z := ⟨n, ls, one, other, rfl, hF, h1, h2, a, b⟩
theorem Wre.swap {n : Nat} {w : W3} (h : Wre n w) : Wre n (w.2.1, w.1, w.2.2) := ⟨h.b, h.a, fun e => h.ne e.symm, h.m⟩
theorem Cut.swap {n : Nat} {ls : List W3} {one w : W3} {S : List Int} (h : Cut n ls one (w.2.1, w.1, w.2.2) S) : Cut n ls one w S := ⟨h.up, h.inn, by
  have e : M40.partW S (w.2.1, w.1, w.2.2) = M40.partW S w := by
    show (if (S.contains w.2.1 != S.contains w.1) = true then (w.2.2 : Rat) else 0) = if (S.contains w.1 != S.contains w.2.1) = true then (w.2.2 : Rat) else 0
    cases S.contains w.1 <;> cases S.contains w.2.1 <;> rfl
  rw [← e]
  exact h.bar⟩
theorem sp_fraction_two {i : Int} {Q : D → Prop} {Z : Addr → Prop} (h : Q (fr ((i : Rat) / 2))) : sp_fraction [.int i, .int 2] Q Z := ⟨i, 2, rfl, by omega, Nat.lt_of_lt_of_le (by decide : 2 < 2 ^ 2) (Nat.pow_le_pow_right (by omega) (by omega)), by rw [half_mk]; exact h⟩
theorem pure_both_go (aB : Addr) : ∀ ds Q Z, sp_both_go aB ds Q Z → g_both_go aB { nx := fun _ => Q .non, rt := Q, xx := Z } (startS ["floor", "one", "other", "first", "places", "second", "half", "rest", "a", "b"] ds) := by
  rintro ds Q Z ⟨d, one, other, rfl, hf, h1, h2, hz, h⟩
  simp only [g_both_go, dSeq2, dSeq, and_assoc]
  simp [hf, h1, h2]
  cases e : floorB d one other with
  | false => simpa [e] using hz e
  | true =>
    obtain ⟨n, ls, w1, w2, rfl, rfl, rfl, hF, k1, k2⟩ := floor_of e
    obtain ⟨hd, hc⟩ := h n ls w1 w2 rfl rfl rfl hF k1 k2
    simp
    refine one_ware_at hF k1 k2 (fun L hL g1 => ?_) (fun S hS => ?_)
    · simp
      refine ⟨_, _, ⟨rfl, rfl⟩, _, _, rfl, rfl, ?_⟩
      simp [intsD]
      refine one_ware_at (other := (w2.2.1, w2.1, w2.2.2)) hF k1 k2.swap (fun M hM g2 => ?_) (fun S hS => ?_)
      · simp
        refine ⟨_, _, ⟨rfl, rfl⟩, _, _, rfl, rfl, ?_⟩
        simp [intsD]
        have hlen := hF.len
        have hD := hd _ _ (dbl_of hF hL hM g1 g2)
        have hz : (List.zip (ls.map (M40.fl kI L)) (ls.map (M40.fl kI M))).length ≤ 1000000 := by simp; omega
        have key : zipD (ls.map (D.int ∘ M40.fl kI L)) (ls.map (D.int ∘ M40.fl kI M)) = (List.zip (ls.map (M40.fl kI L)) (ls.map (M40.fl kI M))).map fun x => .tup [.int x.1, .int x.2] := by
          rw [← List.map_map, ← List.map_map, zipD_map]
        refine ⟨_, _, ⟨rfl, rfl⟩, ?_⟩
        rw [key, List.length_map]
        refine ⟨hz, lc_map (fun x : D => match x with | .tup [.int a, .int b] => fr (((a + 1 * b : Int) : Rat) / 2) | _ => .non) (fun x hx Q q => ?_) ?_⟩
        · obtain ⟨⟨a, b⟩, hx, rfl⟩ := List.mem_map.mp hx
          replace q : Q (fr (((a + 1 * b : Int) : Rat) / 2)) := q
          rw [show a + 1 * b = a + b by omega] at q
          simp [and_assoc, -sp_fraction_at]
          exact sp_fraction_two q
        · refine ⟨_, _, ⟨rfl, rfl⟩, ?_⟩
          rw [key, List.length_map]
          refine ⟨hz, lc_map (fun x : D => match x with | .tup [.int a, .int b] => fr (((a + -1 * b : Int) : Rat) / 2) | _ => .non) (fun x hx Q q => ?_) ?_⟩
          · obtain ⟨⟨a, b⟩, hx, rfl⟩ := List.mem_map.mp hx
            replace q : Q (fr (((a + -1 * b : Int) : Rat) / 2)) := q
            rw [show a + -1 * b = a - b by omega] at q
            simp [and_assoc, -sp_fraction_at]
            exact sp_fraction_two q
          · simpa [rowD, halfs_zip, Function.comp_def] using hD
      · simp
        refine ⟨_, _, ⟨rfl, rfl⟩, _, _, rfl, rfl, ?_⟩
        simpa using hc S hS.swap
    · simp
      refine ⟨_, _, ⟨rfl, rfl⟩, _, _, rfl, rfl, ?_⟩
      simpa using hc S hS
end Dy

/-! # Whether a double goes. -/
namespace Dy
variable [Tn]
open PySem PySem.Spec PyProof.Rows L2
/-! ### gain_at -/
theorem gain_out : ∀ (ls : List W3) (r : List Rat) (p : Int), outQ ls r p - inQ ls r p = M40.gain ls r p
  | [], [], p => by simp [outQ, inQ, M40.gain]; grind
  | [], _ :: _, p => by simp [outQ, inQ, M40.gain]; grind
  | _ :: _, [], p => by simp [outQ, inQ, M40.gain]; grind
  | l :: ls, q :: r, p => by
    have ih := gain_out ls r p
    simp only [outQ, inQ, M40.gain, List.zip_cons_cons, List.filterMap_cons] at ih ⊢
    rw [← ih]
    by_cases h1 : l.1 = p <;> by_cases h2 : l.2.1 = p <;> simp [h1, h2] <;> grind
def sp_gain_at : Spc := fun ds Q _ => ∃ (n : Nat) (ls : List W3) (r : List Rat) (p : Int) (m b : Nat), ds = [floorD n ls, rowD r, .int p] ∧ Sm m b r ∧ ls.length ≤ 1000 ∧ Q (fr (M40.gain ls r p))
theorem len_gain_at : ∀ ds Q Z, sp_gain_at ds Q Z → ds.length = 3 := len3 (fun ds Q Z ⟨_, _, _, _, _, _, e, _⟩ => ⟨_, _, _, e⟩)
def g_gain_at : DS := (dSeq2 (dSet 3 (dCall sp_total (dCons (dFz (dLc (dZip (dCons (dVar 1) (dCons (dOp ixD (dVar 0) (dC (.int 1))) dNil))) (gdTup 2 (gdCons (gdName 4) (gdCons (gdName 5) gdNil))) (dTest (dOp eqD (dOp ixD (dVar 5) (dC (.int 0))) (dVar 2))) (dVar 4) [4, 5])) dNil)))
    (dRet (dCall sp_minus (dCons (dVar 3) (dCons (dCall sp_total (dCons (dFz (dLc (dZip (dCons (dVar 1) (dCons (dOp ixD (dVar 0) (dC (.int 1))) dNil))) (gdTup 2 (gdCons (gdName 4) (gdCons (gdName 5) gdNil))) (dTest (dOp eqD (dOp ixD (dVar 5) (dC (.int 1))) (dVar 2))) (dVar 4) [4, 5])) dNil)) dNil)))))
theorem pure_gain_at : ∀ ds Q Z, sp_gain_at ds Q Z → g_gain_at { nx := fun _ => Q .non, rt := Q } (startS ["floor", "row", "place", "left", "much", "line"] ds) := by
  rintro ds Q Z ⟨n, ls, r, p, m, b, rfl, hs, hw, h⟩
  have hz : (List.zip r ls).length ≤ 1000000 := by
    rw [List.length_zip]
    omega
  simp [g_gain_at, floorD, rowD, and_assoc, zipD_map]
  refine ⟨by omega, lc_fmE (fun x => if decide (x.2.1 = p) = true then some (fr x.1) else none) (fun x hx Q q => ?_) ?_⟩
  · simp [and_assoc]
    by_cases hp : x.2.1 = p
    · simpa [hp] using q
    · simpa [hp] using q
  · rw [fm_some (f := fun x : Rat × W3 => x.1) (g := fr) (c := fun x => decide (x.2.1 = p))]
    refine total_at (hs.part _) ?_
    refine ⟨by omega, lc_fmE (fun x => if decide (x.2.2.1 = p) = true then some (fr x.1) else none) (fun x hx Q q => ?_) ?_⟩
    · simp [and_assoc]
      by_cases hp : x.2.2.1 = p
      · simpa [hp] using q
      · simpa [hp] using q
    · rw [fm_some (f := fun x : Rat × W3 => x.1) (g := fr) (c := fun x => decide (x.2.2.1 = p))]
      refine total_at (hs.part _) ?_
      rw [sp_minus_at]
      refine ⟨(hs.part _).sum, (hs.part _).sum, ?_⟩
      rw [← gain_out] at h
      simpa [inQ, outQ] using h
/-! ### due_at -/
def dueZ (w : W3) (p : Int) : Int := w.2.2 * ((if p = w.1 then 1 else 0) - if p = w.2.1 then 1 else 0)
theorem due_z (w : W3) (p : Int) : M40.due w p = (dueZ w p : Rat) := by
  simp only [M40.due, dueZ, M40.ind, beq_iff_eq]
  split <;> split <;> simp [Rat.intCast_neg] <;> grind
def sp_due_at : Spc := fun ds Q _ => ∃ (w : W3) (p : Int), ds = [wD w, .int p] ∧ (0 ≤ w.2.2 ∧ w.2.2 ≤ 200) ∧ Q (fr (M40.due w p))
theorem len_due_at : ∀ ds Q Z, sp_due_at ds Q Z → ds.length = 2 := len2 (fun ds Q Z ⟨_, _, e, _⟩ => ⟨_, _, e⟩)
def g_due_at : DS := (dRet (dTup (dCons (dOp mulD (dOp ixD (dVar 0) (dC (.int 2))) (dOp subD (dCB intD (dCons (dOp eqD (dVar 1) (dOp ixD (dVar 0) (dC (.int 0)))) dNil)) (dCB intD (dCons (dOp eqD (dVar 1) (dOp ixD (dVar 0) (dC (.int 1)))) dNil)))) (dCons (dC (.int 1)) dNil))))
theorem pure_due_at : ∀ ds Q Z, sp_due_at ds Q Z → g_due_at { nx := fun _ => Q .non, rt := Q } (startS ["ware", "place"] ds) := by
  rintro ds Q Z ⟨w, p, rfl, hb, h⟩
  rw [due_z, ← fr_int] at h
  simp [g_due_at, and_assoc]
  exact ⟨mulR (by omega) (by omega), h⟩
/-! ### is_row -/
def rowB (k : Nat) : D → Bool
  | .lst l => decide (l.length = k) && l.all fracB
  | _ => false
def sp_is_row : Spc := fun ds Q _ => ∃ (n : Nat) (ls : List W3) (d : D), ds = [floorD n ls, d] ∧ pl 51 d = true ∧ (∀ l, d = .lst l → l.length ≤ 1000000) ∧ Q (.bl (rowB ls.length d))
theorem len_is_row : ∀ ds Q Z, sp_is_row ds Q Z → ds.length = 2 := len2 (fun ds Q Z ⟨_, _, _, e, _⟩ => ⟨_, _, e⟩)
def g_is_row : DS := (dRet (dAnd (dIsi "list" (dVar 1)) (dAnd (dOp eqD (dCB lenD (dCons (dVar 1) dNil)) (dCB lenD (dCons (dOp ixD (dVar 0) (dC (.int 1))) dNil))) (dCB allD (dCons (dFz (dLc (dSeq (dVar 1)) (gdName 2) dYes (dCall sp_is_fraction (dCons (dVar 2) dNil)) [2])) dNil)))))
theorem pure_is_row : ∀ ds Q Z, sp_is_row ds Q Z → g_is_row { nx := fun _ => Q .non, rt := Q } (startS ["floor", "row", "one"] ds) := by
  rintro ds Q Z ⟨n, ls, d, rfl, ht, hl, h⟩
  have hty := pl_ty ht
  cases d with
  | lst l =>
    have hl := hl l rfl
    simp only [pl_lst] at ht
    by_cases hn : l.length = ls.length
    · simp [g_is_row, floorD, and_assoc, hn]
      refine ⟨by omega, lc_map (fun x => .bl (fracB x)) (fun x hx Q q => ?_) ?_⟩
      · simp [List.all_eq_true.mp ht x hx]
        exact q
      · obtain ⟨bs, e1, e2⟩ := map_bl_all l fracB
        refine ⟨bs, e1, ?_⟩
        rw [e2]
        simpa [rowB, hn] using h
    · have hn' : ¬ (l.length : Int) = ls.length := by omega
      simpa [g_is_row, floorD, and_assoc, hn', rowB, hn] using h
  | ins a b c => exact absurd rfl hty
  | scr ns => simp [pl] at ht
  | _ => simpa [g_is_row, floorD, and_assoc, rowB] using h
/-! ### double_goes -/
def absQ (q : Rat) : Rat := if q < 0 then -q else q
theorem abs_fr (q : Rat) : D.tup [.int (q.num.natAbs : Int), .int q.den] = fr (absQ q) := by
  unfold absQ fr
  have h : q < 0 ↔ q.num < 0 := by rw [← Rat.not_le, ← Rat.num_nonneg]; omega
  by_cases c : q.num < 0
  · rw [if_pos (h.mpr c), Rat.neg_num, Rat.neg_den, show (q.num.natAbs : Int) = - q.num by omega]
  · rw [if_neg (fun z => c (h.mp z)), show (q.num.natAbs : Int) = q.num by omega]
theorem Lat.abs {m b : Nat} {q : Rat} (h : Lat m b q) : Lat m b (absQ q) := by
  unfold absQ
  split
  · exact h.neg
  · exact h
def twoB (k : Nat) : D → Bool
  | .tup [a, b] => rowB k a && rowB k b
  | _ => false
def gainBad (n : Nat) (ls : List W3) (x : W3 × List Rat) : Bool := ((List.range n).map fun p : Nat => !decide (M40.gain ls x.2 p = M40.due x.1 p)).any id
def roomBad (x : W3 × Rat × Rat) : Bool := decide ((x.1.2.2 : Rat) < absQ x.2.1 + absQ x.2.2)
def goesB (n : Nat) (ls : List W3) (w1 w2 : W3) (xs ys : List Rat) : Bool := !([(w1, xs), (w2, ys)].any (gainBad n ls)) && !((List.zip ls (List.zip xs ys)).any roomBad)
/-- rows that stand, small -/
structure Rws (ls : List W3) (xs ys : List Rat) : Prop where
  lx : xs.length = ls.length
  ly : ys.length = ls.length
  ax : ∀ q ∈ xs, Lat 2 1000 q
  ay : ∀ q ∈ ys, Lat 2 1000 q
/-- a thing of which one may ask whether it is a double -/
def DblF (d : D) : Prop := pl 52 d = true ∧ (∀ l, d = .tup l → ∀ r ∈ l, ∀ l', r = .lst l' → l'.length ≤ 1000000)
def sp_double_goes (aB : Addr) : Spc := fun ds Q Z => ∃ d one other db, ds = [d, one, other, db] ∧ FloorF d ∧ pl 50 one = true ∧ pl 50 other = true ∧ DblF db ∧ (floorB d one other = false → Z aB) ∧
  ∀ (n : Nat) (ls : List W3) (w1 w2 : W3), d = floorD n ls → one = wD w1 → other = wD w2 → Flr n ls → Wre n w1 → Wre n w2 →
    (twoB ls.length db = false → Q (.bl false)) ∧ (twoB ls.length db = true → ∃ xs ys, db = .tup [rowD xs, rowD ys] ∧ Rws ls xs ys ∧ Q (.bl (goesB n ls w1 w2 xs ys)))
theorem len_double_goes (aB : Addr) : ∀ ds Q Z, sp_double_goes aB ds Q Z → ds.length = 4 := len4 (fun ds Q Z ⟨_, _, _, _, e, _⟩ => ⟨_, _, _, _, e⟩)
def g_double_goes (a_BadFloor : Addr) : DS := (dSeq2 (dCallX (sp_need_floor a_BadFloor) (dCons (dVar 0) (dCons (dVar 1) (dCons (dVar 2) dNil))))
    (dSeq2 (dIf (dOrT (dNotT (dTest (dIsi "tuple" (dVar 3)))) (dOrT (dTest (dOp neD (dCB lenD (dCons (dVar 3) dNil)) (dC (.int 2)))) (dNotT (dTest (dCB allD (dCons (dFz (dLc (dSeq (dVar 3)) (gdName 5) dYes (dCall sp_is_row (dCons (dVar 0) (dCons (dVar 5) dNil))) [5])) dNil))))))
    (dRet (dC (.bl false)))
    dSkip)
    (dSeq2 (dFor (dZip (dCons (dTup (dCons (dVar 1) (dCons (dVar 2) dNil))) (dCons (dVar 3) dNil))) (gdTup 2 (gdCons (gdName 4) (gdCons (gdName 5) gdNil)))
    (dIf (dTest (dCB anyD (dCons (dFz (dLc (dRng1 (dCons (dOp ixD (dVar 0) (dC (.int 0))) dNil)) (gdName 9) dYes (dOp neD (dCall sp_gain_at (dCons (dVar 0) (dCons (dVar 5) (dCons (dVar 9) dNil)))) (dCall sp_due_at (dCons (dVar 4) (dCons (dVar 9) dNil)))) [9])) dNil)))
    (dRet (dC (.bl false)))
    dSkip))
    (dSeq2 (dFor (dZip3 (dCons (dOp ixD (dVar 0) (dC (.int 1))) (dCons (dOp ixD (dVar 3) (dC (.int 0))) (dCons (dOp ixD (dVar 3) (dC (.int 1))) dNil)))) (gdTup 3 (gdCons (gdName 6) (gdCons (gdName 7) (gdCons (gdName 8) gdNil))))
    (dIf (dTest (dCall sp_is_less (dCons (dTup (dCons (dOp ixD (dVar 6) (dC (.int 2))) (dCons (dC (.int 1)) dNil))) (dCons (dCall sp_plus (dCons (dTup (dCons (dCB absD (dCons (dOp ixD (dVar 7) (dC (.int 0))) dNil)) (dCons (dOp ixD (dVar 7) (dC (.int 1))) dNil))) (dCons (dTup (dCons (dCB absD (dCons (dOp ixD (dVar 8) (dC (.int 0))) dNil)) (dCons (dOp ixD (dVar 8) (dC (.int 1))) dNil))) dNil))) dNil))))
    (dRet (dC (.bl false)))
    dSkip))
    (dRet (dC (.bl true)))))))
theorem two_form {k : Nat} {d : D} (h : twoB k d = true) : ∃ a b, d = .tup [a, b] ∧ rowB k a = true ∧ rowB k b = true := by
  unfold twoB at h
  split at h
  · rw [Bool.and_eq_true] at h
    exact ⟨_, _, rfl, h.1, h.2⟩
  · cases h
theorem sz_int {i : Int} (h : i.natAbs ≤ 1000) : Sz (i : Rat) := by
  refine ⟨?_, ?_⟩
  · rw [Rat.den_intCast, bD_eq]
    exact Nat.one_lt_two_pow (by decide)
  · rw [Rat.num_intCast, bN_eq]
    have : 2 ^ 10 ≤ 2 ^ 100000 := Nat.pow_le_pow_right (by decide) (by decide)
    omega
theorem Rws.sm1 {ls : List W3} {xs ys : List Rat} (h : Rws ls xs ys) (hl : ls.length ≤ 16) : Sm 2 1000 xs := ⟨by omega, by rw [bD_eq]; exact Nat.lt_of_lt_of_le (by decide : 2 < 2 ^ 2) (Nat.pow_le_pow_right (by omega) (by omega)), by
  have : 2 ^ 20 ≤ 2 ^ 100000 := Nat.pow_le_pow_right (by decide) (by decide)
  rw [bN_eq]; omega, by
  have : 2 ^ 20 ≤ 2 ^ 100000 := Nat.pow_le_pow_right (by decide) (by decide)
  have := h.lx
  rw [bN_eq]; omega, h.ax⟩
theorem Rws.swap {ls : List W3} {xs ys : List Rat} (h : Rws ls xs ys) : Rws ls ys xs := ⟨h.ly, h.lx, h.ay, h.ax⟩
theorem zip3_map (ls : List W3) (xs ys : List Rat) : zip3D (ls.map wD) (xs.map fr) (ys.map fr) = (List.zip ls (List.zip xs ys)).map fun x => .tup [wD x.1, fr x.2.1, fr x.2.2] := by
  unfold zip3D
  have e : List.zip (xs.map fr) (ys.map fr) = (List.zip xs ys).map fun x => (fr x.1, fr x.2) := by
    rw [List.zip_map]
    rfl
  rw [e, List.zipWith_map]
  generalize List.zip xs ys = zs
  induction ls generalizing zs with
  | nil => simp
  | cons l ls ih => cases zs with
    | nil => simp
    | cons z zs =>
      have := ih zs
      simp only [List.zipWith_cons_cons, List.zip_cons_cons, List.map_cons] at this ⊢
      rw [this]
theorem hb2 : 2 < bD := by rw [bD_eq]; exact Nat.lt_of_lt_of_le (by decide : 2 < 2 ^ 2) (Nat.pow_le_pow_right (by omega) (by omega))
theorem hb3 : 2000 < bN := by rw [bN_eq]; exact Nat.lt_of_lt_of_le (by decide : 2000 < 2 ^ 20) (Nat.pow_le_pow_right (by omega) (by omega))
theorem pure_double_goes (aB : Addr) : ∀ ds Q Z, sp_double_goes aB ds Q Z → g_double_goes aB { nx := fun _ => Q .non, rt := Q, xx := Z } (startS ["floor", "one", "other", "double", "ware", "row", "line", "first", "second", "place"] ds) := by
  rintro ds Q Z ⟨d, one, other, db, rfl, hf, h1, h2, ⟨hp, hlen⟩, hz, h⟩
  have hty := pl_ty hp
  simp only [g_double_goes, dSeq2, dSeq, and_assoc]
  simp [hf, h1, h2]
  cases e : floorB d one other with
  | false => simpa [e] using hz e
  | true =>
    obtain ⟨n, ls, w1, w2, rfl, rfl, rfl, hF, k1, k2⟩ := floor_of e
    obtain ⟨hno, hgo⟩ := h n ls w1 w2 rfl rfl rfl hF k1 k2
    by_cases ht : ∃ a b, db = .tup [a, b]
    · obtain ⟨a, b, rfl⟩ := ht
      simp only [pl_tup, List.all_cons, List.all_nil, Bool.and_true, Bool.and_eq_true] at hp
      simp [and_assoc]
      refine lc_map (fun x => .bl (rowB ls.length x)) (fun x hx Q q => ?_) ⟨[rowB ls.length a, rowB ls.length b], rfl, ?_⟩
      · have hx' : pl 51 x = true := by
          rcases List.mem_cons.mp hx with rfl | hx
          · exact hp.1
          · rw [List.mem_singleton.mp hx]
            exact hp.2
        simp
        exact ⟨n, ls, x, rfl, hx', fun l hl => hlen _ rfl x hx l hl, q⟩
      · cases hb : twoB ls.length (.tup [a, b]) with
        | false =>
          have hm : false ∈ [rowB ls.length a, rowB ls.length b] := by
            have hb2 : (rowB ls.length a && rowB ls.length b) = false := hb
            revert hb2
            cases rowB ls.length a <;> cases rowB ls.length b <;> simp
          rw [if_pos hm]
          exact hno hb
        | true =>
          have hm : ¬ false ∈ [rowB ls.length a, rowB ls.length b] := by
            have hb2 : (rowB ls.length a && rowB ls.length b) = true := hb
            revert hb2
            cases rowB ls.length a <;> cases rowB ls.length b <;> simp
          rw [if_neg hm]
          obtain ⟨xs, ys, e2, hR, hq⟩ := hgo hb
          simp only [D.tup.injEq, List.cons.injEq, and_true] at e2
          obtain ⟨rfl, rfl⟩ := e2
          show forI _ _ _ (List.map (fun x : W3 × List Rat => D.tup [wD x.1, rowD x.2]) [(w1, xs), (w2, ys)]) _
          refine for_E (xs := [(w1, xs), (w2, ys)]) (e := fun x : W3 × List Rat => .tup [wD x.1, rowD x.2]) (fun done left ρ => done.any (gainBad n ls) = false ∧ ∃ x4 x5 x6 x7 x8 x9, ρ = [.d (floorD n ls), .d (wD w1), .d (wD w2), .d (.tup [rowD xs, rowD ys]), x4, x5, x6, x7, x8, x9]) ⟨rfl, _, _, _, _, _, _, rfl⟩ ?_ ?_
          · rintro done ⟨w, r⟩ left ρ N ee ⟨h1, x4, x5, x6, x7, x8, x9, rfl⟩ hN
            have hw : (w = w1 ∧ r = xs) ∨ (w = w2 ∧ r = ys) := by
              have : (w, r) ∈ [(w1, xs), (w2, ys)] := by rw [← ee]; simp
              simpa using this
            have hW : Wre n w := by rcases hw with ⟨rfl, _⟩ | ⟨rfl, _⟩ <;> assumption
            have hS : Sm 2 1000 r := by
              rcases hw with ⟨_, rfl⟩ | ⟨_, rfl⟩
              · exact hR.sm1 hF.len
              · exact hR.swap.sm1 hF.len
            have n8 := hF.n8
            have ln := hF.len
            simp [floorD, and_assoc]
            refine ⟨by omega, lc_mapE (fun p : Nat => .bl (!decide (M40.gain ls r p = M40.due w p))) (fun p hp Q q => ?_) ?_⟩
            · simp [and_assoc]
              refine ⟨n, ls, r, p, 2, 1000, rfl, hS, by omega, ?_⟩
              refine ⟨w, p, rfl, hW.m, ?_⟩
              simpa using q
            · refine ⟨(List.range n).map fun p : Nat => !decide (M40.gain ls r p = M40.due w p), by simp, ?_⟩
              cases hb : gainBad n ls (w, r) with
              | true =>
                have hg : goesB n ls w1 w2 xs ys = false := by
                  unfold goesB
                  rw [any_mid ee hb]
                  rfl
                rw [hg] at hq
                unfold gainBad at hb
                rw [if_pos (mem_true.mpr hb)]
                exact hq
              | false =>
                have hb' := hb
                unfold gainBad at hb
                rw [if_neg (not_mem_true hb)]
                exact hN _ ⟨by simp [h1, hb'], _, _, _, _, _, _, rfl⟩
          · rintro ρ ⟨h1, x4, x5, x6, x7, x8, x9, rfl⟩
            simp [floorD, rowD, and_assoc]
            rw [zip3_map]
            refine for_E (fun done left ρ => done.any roomBad = false ∧ ∃ x4 x5 x6 x7 x8 x9, ρ = [.d (floorD n ls), .d (wD w1), .d (wD w2), .d (.tup [rowD xs, rowD ys]), x4, x5, x6, x7, x8, x9]) ⟨rfl, _, _, _, _, _, _, rfl⟩ ?_ ?_
            · rintro done ⟨l, p, q⟩ left ρ N ee ⟨h2, x4, x5, x6, x7, x8, x9, rfl⟩ hN
              have m1 : (l, p, q) ∈ List.zip ls (List.zip xs ys) := by rw [← ee]; simp
              have ⟨m2, m3⟩ := List.of_mem_zip m1
              have ⟨m4, m5⟩ := List.of_mem_zip m3
              have hl := (hF.l l m2).2
              have a4 := (hR.ax p m4).abs
              have a5 := (hR.ay q m5).abs
              have b1 : 2 < bD := hb2
              have b2 : 2000 < bN := hb3
              simp [and_assoc, fr]
              rw [abs_fr, abs_fr, sp_plus_at]
              refine ⟨a4.sz b1 (by omega), a5.sz b1 (by omega), ?_⟩
              rw [fr_int, sp_is_less_at]
              refine ⟨sz_int (by omega), (a4.add a5).sz b1 (by omega), ?_⟩
              simp
              cases hb : roomBad (l, p, q) with
              | true =>
                have hg : goesB n ls w1 w2 xs ys = false := by
                  unfold goesB
                  rw [any_mid ee hb]
                  simp
                rw [hg] at hq
                have hb' : (l.2.2 : Rat) < absQ p + absQ q := of_decide_eq_true hb
                simpa [hb'] using hq
              | false =>
                have hb' : ¬ (l.2.2 : Rat) < absQ p + absQ q := of_decide_eq_false hb
                simp [hb']
                exact hN _ ⟨by simp [h2, hb], _, _, _, _, _, _, rfl⟩
            · rintro ρ ⟨h2, x4, x5, x6, x7, x8, x9, rfl⟩
              have hg : goesB n ls w1 w2 xs ys = true := by
                unfold goesB
                rw [h1, h2]
                rfl
              rw [hg] at hq
              simpa using hq
    · have hb : twoB ls.length db = false := by
        cases ee : twoB ls.length db with
        | false => rfl
        | true =>
          obtain ⟨a, b, rfl, _⟩ := two_form ee
          exact absurd ⟨a, b, rfl⟩ ht
      have hq := hno hb
      cases db with
      | tup l =>
        have hl : ¬ (l.length : Int) = 2 := by
          intro hl
          match l, ht, hl with
          | [a, b], ht, _ => exact absurd ⟨a, b, rfl⟩ ht
          | [], _, hl => simp at hl
          | [_], _, hl => simp at hl
          | _ :: _ :: _ :: l, _, hl => simp at hl; omega
        simpa [hl] using hq
      | ins a b c => exact absurd rfl hty
      | tpl l => simp [pl] at hp
      | _ => simpa using hq
/-! ### cut_bars -/
def cutB (n : Nat) : D → Bool
  | .lst l => l.all (fun x => cnt x 0 (n - 1)) && ((List.zipWith (fun x y => match x, y with | .int i, .int j => decide (i < j) | _, _ => false) l l.tail).all id)
  | _ => false
/-- a thing of which one may ask whether it is a cut -/
def CutF (d : D) : Prop := pl 51 d = true ∧ ∀ l, d = .lst l → l.length ≤ 1000
def roomI (S : List Int) (ls : List W3) : Int := (ls.filterMap fun l => if (decide (l.1 ∈ S) != decide (l.2.1 ∈ S)) = true then some l.2.2 else none).sum
def barsB (ls : List W3) (w1 w2 : W3) (S : List Int) : Bool := decide (roomI S ls < roomI S [w1, w2])
def sp_cut_bars (aB : Addr) : Spc := fun ds Q Z => ∃ d one other cb, ds = [d, one, other, cb] ∧ FloorF d ∧ pl 50 one = true ∧ pl 50 other = true ∧ CutF cb ∧ (floorB d one other = false → Z aB) ∧
  ∀ (n : Nat) (ls : List W3) (w1 w2 : W3), d = floorD n ls → one = wD w1 → other = wD w2 → Flr n ls → Wre n w1 → Wre n w2 →
    (cutB n cb = false → Q (.bl false)) ∧ (∀ S, cutB n cb = true → cb = intsD S → Q (.bl (barsB ls w1 w2 S)))
theorem len_cut_bars (aB : Addr) : ∀ ds Q Z, sp_cut_bars aB ds Q Z → ds.length = 4 := len4 (fun ds Q Z ⟨_, _, _, _, e, _⟩ => ⟨_, _, _, _, e⟩)
def g_cut_bars (a_BadFloor : Addr) : DS := (dSeq2 (dCallX (sp_need_floor a_BadFloor) (dCons (dVar 0) (dCons (dVar 1) (dCons (dVar 2) dNil))))
    (dSeq2 (dIf (dOrT (dNotT (dTest (dIsi "list" (dVar 3)))) (dNotT (dTest (dCB allD (dCons (dFz (dLc (dSeq (dVar 3)) (gdName 5) dYes (dCall sp_is_count (dCons (dVar 5) (dCons (dC (.int 0)) (dCons (dOp subD (dOp ixD (dVar 0) (dC (.int 0))) (dC (.int 1))) dNil)))) [5])) dNil)))))
    (dRet (dC (.bl false)))
    dSkip)
    (dSeq2 (dIf (dNotT (dTest (dCB allD (dCons (dFz (dLc (dZip (dCons (dVar 3) (dCons (dSl (dVar 3) (dPart (dC (.int 1))) dNoPart) dNil))) (gdTup 2 (gdCons (gdName 6) (gdCons (gdName 7) gdNil))) dYes (dOp ltD (dVar 6) (dVar 7)) [6, 7])) dNil))))
    (dRet (dC (.bl false)))
    dSkip)
    (dSeq2 (dSet 4 (dCB sumD (dCons (dFz (dLc (dSeq (dOp ixD (dVar 0) (dC (.int 1)))) (gdName 8) (dTest (dOp neD (dOp (inD false) (dOp ixD (dVar 8) (dC (.int 0))) (dVar 3)) (dOp (inD false) (dOp ixD (dVar 8) (dC (.int 1))) (dVar 3)))) (dOp ixD (dVar 8) (dC (.int 2))) [8])) dNil)))
    (dRet (dOp ltD (dVar 4) (dCB sumD (dCons (dFz (dLc (dSeq (dTup (dCons (dVar 1) (dCons (dVar 2) dNil)))) (gdName 9) (dTest (dOp neD (dOp (inD false) (dOp ixD (dVar 9) (dC (.int 0))) (dVar 3)) (dOp (inD false) (dOp ixD (dVar 9) (dC (.int 1))) (dVar 3)))) (dOp ixD (dVar 9) (dC (.int 2))) [9])) dNil))))))))
theorem ints_of {n : Nat} : ∀ {l : List D}, l.all (fun x => cnt x 0 (n - 1)) = true → ∃ S : List Int, l = S.map .int ∧ ∀ v ∈ S, 0 ≤ v ∧ v < n
  | [], _ => ⟨[], rfl, by simp⟩
  | d :: l, h => by
    rw [List.all_cons, Bool.and_eq_true] at h
    obtain ⟨i, rfl, h1, h2⟩ := cnt_of h.1
    obtain ⟨S, rfl, hS⟩ := ints_of h.2
    refine ⟨i :: S, rfl, fun v hv => ?_⟩
    rcases List.mem_cons.mp hv with rfl | hv
    · omega
    · exact hS v hv
theorem zw_map {α β γ : Type} (f : α → β → γ) : ∀ (l : List α) (l' : List β), List.zipWith f l l' = (List.zip l l').map fun x => f x.1 x.2
  | [], _ => by simp
  | _ :: _, [] => by simp
  | a :: l, b :: l' => by simp [zw_map f l l']
theorem pure_cut_bars (aB : Addr) : ∀ ds Q Z, sp_cut_bars aB ds Q Z → g_cut_bars aB { nx := fun _ => Q .non, rt := Q, xx := Z } (startS ["floor", "one", "other", "cut", "room", "place", "first", "second", "line", "ware"] ds) := by
  rintro ds Q Z ⟨d, one, other, cb, rfl, hf, h1, h2, ⟨hp, hlen⟩, hz, h⟩
  have hty := pl_ty hp
  simp only [g_cut_bars, dSeq2, dSeq, and_assoc]
  simp [hf, h1, h2]
  cases e : floorB d one other with
  | false => simpa [e] using hz e
  | true =>
    obtain ⟨n, ls, w1, w2, rfl, rfl, rfl, hF, k1, k2⟩ := floor_of e
    obtain ⟨hno, hgo⟩ := h n ls w1 w2 rfl rfl rfl hF k1 k2
    cases cb with
    | lst l =>
      have hl := hlen l rfl
      have n8 := hF.n8
      have ln := hF.len
      simp only [pl_lst] at hp
      simp [floorD, and_assoc]
      refine ⟨by omega, lc_map (fun x => .bl (cnt x 0 (n - 1))) (fun x hx Q q => ?_) ?_⟩
      · have hx' := List.all_eq_true.mp hp x hx
        simp [pl_ty hx']
        exact ⟨fun z => pl_ty hx' z, q⟩
      · obtain ⟨bs, e1, e2⟩ := map_bl_all l (fun x => cnt x 0 (n - 1))
        refine ⟨bs, e1, ?_⟩
        cases hb : bs.all id with
        | false =>
          have : cutB n (.lst l) = false := by
            simp only [cutB, ← e2, hb, Bool.false_and]
          simpa [hb, all_not] using hno this
        | true =>
          rw [hb] at e2
          have hnm : ¬ false ∈ bs := by rw [all_not, hb]; simp
          rw [if_neg hnm]
          obtain ⟨S, rfl, hS⟩ := ints_of e2.symm
          rw [List.length_map] at hl
          rw [← List.map_tail, zipD_map]
          refine ⟨by simp; omega, lc_mapE (fun x => .bl (decide (x.1 < x.2))) (fun x hx Q q => ?_) ⟨(List.zip S S.tail).map fun x => decide (x.1 < x.2), by simp, ?_⟩⟩
          · simp
            exact ⟨_, _, ⟨rfl, rfl⟩, _, _, rfl, rfl, q⟩
          · have ec : cutB n (.lst (S.map .int)) = ((List.zip S S.tail).map fun x => decide (x.1 < x.2)).all id := by
              simp only [cutB, ← e2, Bool.true_and]
              rw [← List.map_tail, List.zipWith_map, zw_map]
            cases hu : ((List.zip S S.tail).map fun x => decide (x.1 < x.2)).all id with
            | false =>
              rw [hu] at ec
              rw [if_pos (all_not.mpr hu)]
              exact hno ec
            | true =>
              rw [hu] at ec
              rw [if_neg (by rw [all_not, hu]; simp)]
              refine ⟨by omega, lc_fmE (fun l : W3 => if (decide (l.1 ∈ S) != decide (l.2.1 ∈ S)) = true then some (.int l.2.2) else none) (fun l hl Q q => by
                simp [and_assoc]
                refine ⟨S, rfl, S, rfl, ?_⟩
                by_cases h1 : l.1 ∈ S <;> by_cases h2 : l.2.1 ∈ S <;> simpa [h1, h2] using q) ?_⟩
              refine ⟨_, fm_some (f := fun l : W3 => l.2.2) (g := D.int) (c := fun l : W3 => decide (l.1 ∈ S) != decide (l.2.1 ∈ S)) ls, ?_⟩
              refine lc_fmE (xs := [w1, w2]) (e := wD) (fun l : W3 => if (decide (l.1 ∈ S) != decide (l.2.1 ∈ S)) = true then some (.int l.2.2) else none) (fun l hl Q q => by
                simp [and_assoc]
                refine ⟨S, rfl, S, rfl, ?_⟩
                by_cases h1 : l.1 ∈ S <;> by_cases h2 : l.2.1 ∈ S <;> simpa [h1, h2] using q) ?_
              refine ⟨_, fm_some (f := fun l : W3 => l.2.2) (g := D.int) (c := fun l : W3 => decide (l.1 ∈ S) != decide (l.2.1 ∈ S)) [w1, w2], ?_⟩
              exact hgo S ec rfl
    | ins a b c => exact absurd rfl hty
    | scr ns => simp [pl] at hp
    | _ => simpa using hno rfl
end Dy

/-! # The law of two wares: its own defs. -/
namespace Dy.K4
variable [Tn]
open PySem PySem.Spec PyProof.Rows L2
/-! ### a floor, a ware -/
def sp__law_floor : Spc := fun ds Q _ => ∃ more : Nat, ds = [.int more] ∧ ∀ n ls, Flr n ls → Q (floorD n ls)
theorem len__law_floor : ∀ ds Q Z, sp__law_floor ds Q Z → ds.length = 1 := len1 (fun ds Q Z ⟨_, e, _⟩ => ⟨_, e⟩)
def g__law_floor : DS := (dSeq2 (dSet 1 (dOp addD (dC (.int 2)) (dOp modD (dVar 0) (dC (.int 7)))))
    (dSeq2 (dSetL 2 (dLstL dNil))
    (dSeq2 (dFor (dRng1 (dCons (dVar 1) dNil)) (gdName 3)
    (dFor (dRng2 (dCons (dOp addD (dVar 3) (dC (.int 1))) (dCons (dVar 1) dNil))) (gdName 4)
    (dSeq2 (dSet 5 (dCall sp__law_drawn (dCons (dVar 0) (dCons (dOp addD (dOp mulD (dC (.int 8)) (dVar 3)) (dVar 4)) dNil))))
    (dIf (dAndT (dTest (dOp ltD (dOp modD (dVar 5) (dC (.int 5))) (dOp addD (dC (.int 2)) (dOp modD (dOp fdivD (dVar 0) (dC (.int 8))) (dC (.int 3)))))) (dTest (dOp ltD (dLenOwn 2) (dC (.int 16)))))
    (dApp 2 (dTup (dCons (dVar 3) (dCons (dVar 4) (dCons (dOp addD (dC (.int 1)) (dOp modD (dOp fdivD (dVar 5) (dC (.int 64))) (dOp ixD (dLst (dCons (dC (.int 3)) (dCons (dC (.int 20)) dNil))) (dOp modD (dOp fdivD (dVar 0) (dC (.int 64))) (dC (.int 2)))))) dNil)))))
    dSkip))))
    (dFrz 2 (dRet (dTup (dCons (dVar 1) (dCons (dVar 2) dNil))))))))
theorem pure__law_floor : ∀ ds Q Z, sp__law_floor ds Q Z → g__law_floor { nx := fun _ => Q .non, rt := Q } (startS ["_law_more", "_law_places", "_law_lines", "_law_one", "_law_other", "_law_here"] ds) := by
  rintro ds Q Z ⟨more, rfl, h⟩
  simp [g__law_floor, and_assoc]
  obtain ⟨n, hn⟩ := Int.eq_ofNat_of_zero_le (a := 2 + (more : Int) % 7) (by omega)
  rw [hn]
  have n2 : 2 ≤ n := by omega
  have n8 : n ≤ 8 := by omega
  refine ⟨by omega, by omega, ?_⟩
  refine for_E (fun done left ρ => ∃ (ws : List W3) (x3 x4 x5 : Sl), ρ = [.d (.int more), .d (.int n), .own (.lst (ws.map wD)), x3, x4, x5] ∧ ws.Pairwise Bef ∧ ws.length ≤ 16 ∧ ∀ w ∈ ws, ((0 ≤ w.1 ∧ w.1 < w.2.1 ∧ w.2.1 < n) ∧ 1 ≤ w.2.2 ∧ w.2.2 ≤ 20) ∧ w.1 < done.length) ⟨[], _, _, _, rfl, .nil, by simp, by simp⟩ ?_ ?_
  · rintro done i left ρ N e ⟨ws, x3, x4, x5, rfl, hp, hl, hw⟩ hN
    rw [Int.toNat_natCast] at e
    have hi : i < n := List.mem_range.mp (by rw [← e]; simp)
    have ed : done.length = i := by
      have h1 : (List.range n)[done.length]? = some i := by rw [← e]; simp
      rw [List.getElem?_range (by have := congrArg List.length e; simp at this; omega)] at h1
      exact Option.some.inj h1
    simp [and_assoc]
    refine ⟨by omega, by omega, by omega, ?_⟩
    refine for_E (e := fun k : Nat => D.int ((i : Int) + 1 + k)) (fun dn lf ρ => ∃ (ws : List W3) (x4 x5 : Sl), ρ = [.d (.int more), .d (.int n), .own (.lst (ws.map wD)), .d (.int i), x4, x5] ∧ ws.Pairwise Bef ∧ ws.length ≤ 16 ∧ ∀ w ∈ ws, ((0 ≤ w.1 ∧ w.1 < w.2.1 ∧ w.2.1 < n) ∧ 1 ≤ w.2.2 ∧ w.2.2 ≤ 20) ∧ (w.1 < i ∨ (w.1 = i ∧ w.2.1 < (i : Int) + 1 + dn.length))) ⟨ws, _, _, rfl, hp, hl, fun w hw' => ⟨(hw w hw').1, .inl (by have := (hw w hw').2; omega)⟩⟩ ?_ ?_
    · rintro dn j lf ρ N2 e2 ⟨ws, x4, x5, rfl, hp, hl, hw⟩ hN2
      have hj : j < ((n : Int) - (i + 1)).toNat := List.mem_range.mp (by rw [← e2]; simp)
      have ej : dn.length = j := by
        have h1 : (List.range ((n : Int) - (i + 1)).toNat)[dn.length]? = some j := by rw [← e2]; simp
        rw [List.getElem?_range (by have := congrArg List.length e2; simp at this; omega)] at h1
        exact Option.some.inj h1
      have keep : ∀ x5 : Sl, N2 [.d (.int more), .d (.int n), .own (.lst (ws.map wD)), .d (.int i), .d (.int ((i : Int) + 1 + j)), x5] := fun x5 => hN2 _ ⟨ws, _, _, rfl, hp, hl, fun w hw' => ⟨(hw w hw').1, by
        rcases (hw w hw').2 with z | ⟨z1, z2⟩
        · exact .inl z
        · exact .inr ⟨z1, by rw [List.length_append]; simp; omega⟩⟩⟩
      simp [and_assoc]
      refine ⟨mulR (by omega) (by omega), drawn_atI (by omega) fun v => ?_⟩
      simp
      refine ⟨divC (by decide) (by decide), ?_⟩
      split
      · split
        · rename_i hl8
          refine ⟨by omega, divC (by decide) (by decide), divC (by decide) (by decide), ?_⟩
          have put : ∀ c : Int, 1 ≤ c → c ≤ 20 → N2 [.d (.int more), .d (.int n), .own (.lst (ws.map wD ++ [.tup [.int i, .int ((i : Int) + 1 + j), .int c]])), .d (.int i), .d (.int ((i : Int) + 1 + j)), .d (.int v)] := fun c c1 c2 => by
            refine hN2 _ ⟨ws ++ [((i : Int), (i : Int) + 1 + j, c)], _, _, by rw [List.map_append]; rfl, pairwise_snoc hp fun y hy => ?_, by rw [List.length_append]; simp; omega, fun w hw' => ?_⟩
            · have := (hw y hy).2
              rw [ej] at this
              exact this
            · rcases List.mem_append.mp hw' with z | z
              · have := (hw w z).2
                exact ⟨(hw w z).1, by rw [List.length_append]; simp; omega⟩
              · rw [List.mem_singleton.mp z]
                exact ⟨⟨⟨by show (0 : Int) ≤ i; omega, by show (i : Int) < i + 1 + j; omega, by show (i : Int) + 1 + j < n; omega⟩, c1, c2⟩, .inr ⟨rfl, by rw [List.length_append, ej]; show (i : Int) + 1 + j < _; simp; omega⟩⟩
          rcases (show (more : Int) / 64 % 2 = 0 ∨ (more : Int) / 64 % 2 = 1 by omega) with z | z
          · rw [z]
            refine ⟨_, atI0 _ _, by decide, put _ ?_ ?_⟩ <;> omega
          · rw [z]
            refine ⟨_, atI1 _ _ _, by decide, put _ ?_ ?_⟩ <;> omega
        · exact keep _
      · exact keep _
    · rintro ρ ⟨ws, x4, x5, rfl, hp, hl, hw⟩
      exact hN _ ⟨ws, _, _, _, rfl, hp, hl, fun w hw' => ⟨(hw w hw').1, by
        have := (hw w hw').2
        have := (hw w hw').1
        rw [List.length_append]
        simp
        omega⟩⟩
  · rintro ρ ⟨ws, x3, x4, x5, rfl, hp, hl, hw⟩
    simp [and_assoc]
    exact h n ws ⟨n2, n8, hl, fun l hl => (hw l hl).1, hp⟩
def sp__law_ware : Spc := fun ds Q _ => ∃ (more : Int) (n : Nat), ds = [.int more, .int n] ∧ 2 ≤ n ∧ n ≤ 8 ∧ ∀ w, Wre n w → Q (wD w)
theorem len__law_ware : ∀ ds Q Z, sp__law_ware ds Q Z → ds.length = 2 := len2 (fun ds Q Z ⟨_, _, e, _⟩ => ⟨_, _, e⟩)
def g__law_ware : DS := (dSeq2 (dSet 2 (dOp modD (dVar 0) (dVar 1)))
    (dRet (dTup (dCons (dVar 2) (dCons (dOp modD (dOp addD (dOp addD (dVar 2) (dC (.int 1))) (dOp modD (dOp fdivD (dVar 0) (dC (.int 8))) (dOp subD (dVar 1) (dC (.int 1))))) (dVar 1)) (dCons (dOp modD (dOp fdivD (dVar 0) (dC (.int 64))) (dOp ixD (dLst (dCons (dC (.int 4)) (dCons (dC (.int 13)) (dCons (dC (.int 40)) dNil)))) (dOp modD (dOp fdivD (dVar 0) (dC (.int 4096))) (dC (.int 3))))) dNil))))))
theorem pure__law_ware : ∀ ds Q Z, sp__law_ware ds Q Z → g__law_ware { nx := fun _ => Q .non, rt := Q } (startS ["_law_more", "_law_places", "_law_first"] ds) := by
  rintro ds Q Z ⟨more, n, rfl, n2, n8, h⟩
  simp [g__law_ware, and_assoc]
  have f0 : 0 ≤ more % n := Int.emod_nonneg _ (by omega)
  have f1 : more % n < n := Int.emod_lt_of_pos _ (by omega)
  have t0 : 0 ≤ more / 8 % ((n : Int) - 1) := Int.emod_nonneg _ (by omega)
  have t1 : more / 8 % ((n : Int) - 1) < n - 1 := Int.emod_lt_of_pos _ (by omega)
  have o := mod_other f0 f1 t0 t1
  have g0 : 0 ≤ (more % n + 1 + more / 8 % ((n : Int) - 1)) % n := Int.emod_nonneg _ (by omega)
  have g1 : (more % n + 1 + more / 8 % ((n : Int) - 1)) % n < n := Int.emod_lt_of_pos _ (by omega)
  refine ⟨by omega, divC (by decide) (by decide), by omega, by omega, divC (by decide) (by decide), divC (by decide) (by decide), ?_⟩
  have put : ∀ c : Int, 0 < c → c ≤ 40 → Q (.tup [.int (more % n), .int ((more % n + 1 + more / 8 % ((n : Int) - 1)) % n), .int (more / 64 % c)]) := fun c c0 c1 => by
    have m0 : 0 ≤ more / 64 % c := Int.emod_nonneg _ (by omega)
    have m1 : more / 64 % c < c := Int.emod_lt_of_pos _ c0
    exact h (_, _, _) ⟨⟨f0, f1⟩, ⟨g0, g1⟩, fun z => o z.symm, m0, by show more / 64 % c ≤ 200; omega⟩
  rcases (show more / 4096 % 3 = 0 ∨ more / 4096 % 3 = 1 ∨ more / 4096 % 3 = 2 by omega) with z | z | z
  · rw [z]
    exact ⟨_, atI0 _ _, by decide, put _ (by decide) (by decide)⟩
  · rw [z]
    exact ⟨_, atI1 _ _ _, by decide, put _ (by decide) (by decide)⟩
  · rw [z]
    exact ⟨.int 40, rfl, by decide, put _ (by decide) (by decide)⟩
/-! ### what leaves a place -/
def tmG (p : Int) (x : Rat × W3) : Rat := x.1 * (((if x.2.1 = p then 1 else 0) - (if x.2.2.1 = p then 1 else 0) : Int) : Rat)
theorem tmG_sum : ∀ (ls : List W3) (r : List Rat) (p : Int), ((List.zip r ls).map (tmG p)).sum = M40.gain ls r p
  | [], [], p => by simp [M40.gain]
  | [], _ :: _, p => by simp [M40.gain]
  | _ :: _, [], p => by simp [M40.gain]
  | l :: ls, q :: r, p => by
    have ih := tmG_sum ls r p
    simp only [M40.gain, List.zip_cons_cons, List.map_cons, List.sum_cons, ih, tmG, M40.ind, beq_iff_eq]
    split <;> split <;> simp [Rat.intCast_neg] <;> grind
theorem tmG_lat {m b : Nat} {p : Int} {x : Rat × W3} (h : Lat m b x.1) : Lat m b (tmG p x) := by
  unfold tmG
  by_cases h1 : x.2.1 = p
  · by_cases h2 : x.2.2.1 = p
    · simp only [h1, h2, if_true]
      simpa using (Lat.zero h.1 b)
    · simp only [h1, h2, if_true, if_false]
      simpa using h
  · by_cases h2 : x.2.2.1 = p
    · simp only [h1, h2, if_true, if_false]
      have := h.neg
      simpa [Rat.mul_neg] using this
    · simp only [h1, h2, if_false]
      simpa using (Lat.zero h.1 b)
def sp__law_left : Spc := sp_gain_at
theorem len__law_left : ∀ ds Q Z, sp__law_left ds Q Z → ds.length = 3 := len_gain_at
def g__law_left : DS := (dSeq2 (dSet 3 (dTup (dCons (dC (.int 0)) (dCons (dC (.int 1)) dNil))))
    (dSeq2 (dFor (dZip (dCons (dVar 1) (dCons (dOp ixD (dVar 0) (dC (.int 1))) dNil))) (gdTup 2 (gdCons (gdName 4) (gdCons (gdName 5) gdNil)))
    (dSet 3 (dCall sp__law_plus (dCons (dVar 3) (dCons (dCall sp__law_times (dCons (dVar 4) (dCons (dTup (dCons (dOp subD (dCB intD (dCons (dOp eqD (dOp ixD (dVar 5) (dC (.int 0))) (dVar 2)) dNil)) (dCB intD (dCons (dOp eqD (dOp ixD (dVar 5) (dC (.int 1))) (dVar 2)) dNil))) (dCons (dC (.int 1)) dNil))) dNil))) dNil)))))
    (dRet (dVar 3))))
theorem pure__law_left : ∀ ds Q Z, sp__law_left ds Q Z → g__law_left { nx := fun _ => Q .non, rt := Q } (startS ["_law_floor_here", "_law_row", "_law_place", "_law_found", "_law_much", "_law_line"] ds) := by
  rintro ds Q Z ⟨n, ls, r, p, m, b, rfl, hs, hw, h⟩
  simp [g__law_left, floorD, rowD, and_assoc, zipD_map]
  refine for_E (fun done left ρ => ∃ x4 x5, ρ = [.d (floorD n ls), .d (rowD r), .d (.int p), .d (fr (done.map (tmG p)).sum), x4, x5]) ⟨.no, .no, by rw [fr_zero]; rfl⟩ ?_ ?_
  · rintro done x left ρ N e ⟨x4, x5, rfl⟩ hN
    have hx : x.1 ∈ r := zip_mem (by rw [← e]; simp)
    have hd : ∀ z ∈ done.map (tmG p), Lat m b z := fun z hz => by
      obtain ⟨y, hy, rfl⟩ := List.mem_map.mp hz
      exact tmG_lat (hs.lat _ (zip_mem (by rw [← e]; simp [hy])))
    have hlen : (done.map (tmG p)).length ≤ r.length := by
      have h1 := congrArg List.length e
      rw [List.length_append, List.length_zip] at h1
      rw [List.length_map]
      omega
    have s1 : Sz (done.map (tmG p)).sum := (Lat.sum hs.m0 hd).sz hs.m1 (Nat.lt_of_le_of_lt (Nat.mul_le_mul_right _ hlen) hs.len)
    have sx : Sz x.1 := (hs.lat _ hx).sz hs.m1 hs.b1
    have st : Sz (tmG p x) := (tmG_lat (hs.lat _ hx)).sz hs.m1 hs.b1
    simp [floorD, rowD, and_assoc]
    rw [fr_int, sp__law_times_at]
    refine ⟨sx, sz_small (by split <;> split <;> decide), ?_⟩
    have et : x.1 * (((if x.2.1 = p then 1 else 0) - (if x.2.2.1 = p then 1 else 0) : Int) : Rat) = tmG p x := rfl
    rw [et, sp__law_plus_at]
    exact ⟨s1, st, hN _ ⟨.d (fr x.1), .d (wD x.2), by rw [List.map_append, List.map_cons, List.map_nil, sum_snoc]; rfl⟩⟩
  · rintro ρ ⟨x4, x5, rfl⟩
    rw [← tmG_sum] at h
    simpa using h
/-! ### whether a cut bars -/
def sp__law_bars : Spc := fun ds Q _ => ∃ (n : Nat) (ls : List W3) (w1 w2 : W3) (S : List Int), ds = [floorD n ls, wD w1, wD w2, intsD S] ∧ ls.length ≤ 1000 ∧ Q (.bl (barsB ls w1 w2 S))
theorem len__law_bars : ∀ ds Q Z, sp__law_bars ds Q Z → ds.length = 4 := len4 (fun ds Q Z ⟨_, _, _, _, _, e, _⟩ => ⟨_, _, _, _, e⟩)
def g__law_bars : DS := (dSeq2 (dSet 4 (dCB sumD (dCons (dFz (dLc (dSeq (dOp ixD (dVar 0) (dC (.int 1)))) (gdName 5) (dTest (dOp neD (dOp (inD false) (dOp ixD (dVar 5) (dC (.int 0))) (dVar 3)) (dOp (inD false) (dOp ixD (dVar 5) (dC (.int 1))) (dVar 3)))) (dOp ixD (dVar 5) (dC (.int 2))) [5])) dNil)))
    (dRet (dOp ltD (dVar 4) (dCB sumD (dCons (dFz (dLc (dSeq (dTup (dCons (dVar 1) (dCons (dVar 2) dNil)))) (gdName 6) (dTest (dOp neD (dOp (inD false) (dOp ixD (dVar 6) (dC (.int 0))) (dVar 3)) (dOp (inD false) (dOp ixD (dVar 6) (dC (.int 1))) (dVar 3)))) (dOp ixD (dVar 6) (dC (.int 2))) [6])) dNil)))))
theorem pure__law_bars : ∀ ds Q Z, sp__law_bars ds Q Z → g__law_bars { nx := fun _ => Q .non, rt := Q } (startS ["_law_floor_here", "_law_one", "_law_other", "_law_cut", "_law_room", "_law_line", "_law_ware_here"] ds) := by
  rintro ds Q Z ⟨n, ls, w1, w2, S, rfl, hl, h⟩
  simp [g__law_bars, floorD, intsD, and_assoc]
  refine ⟨by omega, lc_fmE (fun l : W3 => if (decide (l.1 ∈ S) != decide (l.2.1 ∈ S)) = true then some (.int l.2.2) else none) (fun l hl Q q => by
    simp [and_assoc]
    refine ⟨S, rfl, S, rfl, ?_⟩
    by_cases h1 : l.1 ∈ S <;> by_cases h2 : l.2.1 ∈ S <;> simpa [h1, h2] using q) ?_⟩
  refine ⟨_, fm_some (f := fun l : W3 => l.2.2) (g := D.int) (c := fun l : W3 => decide (l.1 ∈ S) != decide (l.2.1 ∈ S)) ls, ?_⟩
  refine lc_fmE (xs := [w1, w2]) (e := wD) (fun l : W3 => if (decide (l.1 ∈ S) != decide (l.2.1 ∈ S)) = true then some (.int l.2.2) else none) (fun l hl Q q => by
    simp [and_assoc]
    refine ⟨S, rfl, S, rfl, ?_⟩
    by_cases h1 : l.1 ∈ S <;> by_cases h2 : l.2.1 ∈ S <;> simpa [h1, h2] using q) ?_
  refine ⟨_, fm_some (f := fun l : W3 => l.2.2) (g := D.int) (c := fun l : W3 => decide (l.1 ∈ S) != decide (l.2.1 ∈ S)) [w1, w2], ?_⟩
  exact h
/-! ### all choices of places -/
def sp__law_cuts : Spc := fun ds Q _ => ∃ n : Nat, ds = [.int n] ∧ n ≤ 8 ∧ Q (.lst ((M40.cuts n).map intsD))
theorem len__law_cuts : ∀ ds Q Z, sp__law_cuts ds Q Z → ds.length = 1 := len1 (fun ds Q Z ⟨_, e, _⟩ => ⟨_, e⟩)
def g__law_cuts : DS := (dSeq2 (dSet 1 (dLst (dCons (dLst dNil) dNil)))
    (dSeq2 (dFor (dRng1 (dCons (dVar 0) dNil)) (gdName 2)
    (dSet 1 (dOp addD (dVar 1) (dFz (dLc (dSeq (dVar 1)) (gdName 3) dYes (dOp addD (dVar 3) (dLst (dCons (dVar 2) dNil))) [3])))))
    (dRet (dVar 1))))
theorem cuts_le {k n : Nat} (h : k ≤ n) : (M40.cuts k).length ≤ 2 ^ n := by
  rw [M40.cuts_len]
  exact Nat.pow_le_pow_right (by decide) h
theorem cut_len {k : Nat} {c : List Int} (h : c ∈ M40.cuts k) : c.length ≤ k := by
  induction k generalizing c with
  | zero => simp [M40.cuts] at h; simp [h]
  | succ k ih =>
    simp only [M40.cuts, List.mem_append, List.mem_map] at h
    rcases h with h | ⟨d, h, rfl⟩
    · have := ih h; omega
    · have := ih h; simp; omega
theorem pure__law_cuts : ∀ ds Q Z, sp__law_cuts ds Q Z → g__law_cuts { nx := fun _ => Q .non, rt := Q } (startS ["_law_places", "_law_found", "_law_place", "_law_cut"] ds) := by
  rintro ds Q Z ⟨n, rfl, hn, h⟩
  simp [g__law_cuts, and_assoc]
  refine ⟨by omega, for_E (fun done left ρ => done.length ≤ n ∧ ∃ x2 x3, ρ = [.d (.int n), .d (.lst ((M40.cuts done.length).map intsD)), x2, x3]) ⟨by simp, .no, .no, rfl⟩ ?_ ?_⟩
  · rintro done k left ρ N e ⟨hd, x2, x3, rfl⟩ hN
    have ed : done.length = k := by
      have h1 : (List.range n)[done.length]? = some k := by rw [← e]; simp
      rw [List.getElem?_range (by have := congrArg List.length e; simp at this; omega)] at h1
      exact Option.some.inj h1
    have hk : k < n := List.mem_range.mp (by rw [← e]; simp)
    have hc : (M40.cuts done.length).length ≤ 2 ^ 8 := cuts_le (by omega)
    simp [and_assoc]
    refine ⟨by omega, lc_mapE (fun c => intsD (c ++ [(k : Int)])) (fun c hc Q q => ?_) ?_⟩
    · have := cut_len hc
      simp [intsD] at q
      simp [intsD]
      exact ⟨by omega, q⟩
    · refine ⟨by simp; omega, hN _ ⟨by rw [List.length_append]; simp; omega, .d (.int k), x3, ?_⟩⟩
      rw [List.length_append, show [k].length = 1 from rfl, ed]
      simp [M40.cuts, Function.comp_def]
  · rintro ρ ⟨hd, x2, x3, rfl⟩
    simpa using h
/-! ### whether a double goes -/
def sp__law_goes : Spc := fun ds Q _ => ∃ (n : Nat) (ls : List W3) (w1 w2 : W3) (xs ys : List Rat), ds = [floorD n ls, wD w1, wD w2, .tup [rowD xs, rowD ys]] ∧ Flr n ls ∧ Wre n w1 ∧ Wre n w2 ∧ Rws ls xs ys ∧ Q (.bl (goesB n ls w1 w2 xs ys))
theorem len__law_goes : ∀ ds Q Z, sp__law_goes ds Q Z → ds.length = 4 := len4 (fun ds Q Z ⟨_, _, _, _, _, _, e, _⟩ => ⟨_, _, _, _, e⟩)
def g__law_goes : DS := (dSeq2 (dFor (dZip (dCons (dTup (dCons (dVar 1) (dCons (dVar 2) dNil))) (dCons (dVar 3) dNil))) (gdTup 2 (gdCons (gdName 4) (gdCons (gdName 5) gdNil)))
    (dSeq2 (dIf (dTest (dOp neD (dCB lenD (dCons (dVar 5) dNil)) (dCB lenD (dCons (dOp ixD (dVar 0) (dC (.int 1))) dNil))))
    (dRet (dC (.bl false)))
    dSkip)
    (dFor (dRng1 (dCons (dOp ixD (dVar 0) (dC (.int 0))) dNil)) (gdName 6)
    (dSeq2 (dSet 7 (dOp mulD (dOp ixD (dVar 4) (dC (.int 2))) (dOp subD (dCB intD (dCons (dOp eqD (dVar 6) (dOp ixD (dVar 4) (dC (.int 0)))) dNil)) (dCB intD (dCons (dOp eqD (dVar 6) (dOp ixD (dVar 4) (dC (.int 1)))) dNil)))))
    (dIf (dTest (dOp neD (dCall sp__law_left (dCons (dVar 0) (dCons (dVar 5) (dCons (dVar 6) dNil)))) (dTup (dCons (dVar 7) (dCons (dC (.int 1)) dNil)))))
    (dRet (dC (.bl false)))
    dSkip)))))
    (dSeq2 (dFor (dZip3 (dCons (dOp ixD (dVar 0) (dC (.int 1))) (dCons (dOp ixD (dVar 3) (dC (.int 0))) (dCons (dOp ixD (dVar 3) (dC (.int 1))) dNil)))) (gdTup 3 (gdCons (gdName 8) (gdCons (gdName 9) (gdCons (gdName 10) gdNil))))
    (dIf (dTest (dCall sp__law_under (dCons (dTup (dCons (dOp ixD (dVar 8) (dC (.int 2))) (dCons (dC (.int 1)) dNil))) (dCons (dCall sp__law_plus (dCons (dTup (dCons (dCB absD (dCons (dOp ixD (dVar 9) (dC (.int 0))) dNil)) (dCons (dOp ixD (dVar 9) (dC (.int 1))) dNil))) (dCons (dTup (dCons (dCB absD (dCons (dOp ixD (dVar 10) (dC (.int 0))) dNil)) (dCons (dOp ixD (dVar 10) (dC (.int 1))) dNil))) dNil))) dNil))))
    (dRet (dC (.bl false)))
    dSkip))
    (dRet (dC (.bl true)))))
theorem pure__law_goes : ∀ ds Q Z, sp__law_goes ds Q Z → g__law_goes { nx := fun _ => Q .non, rt := Q } (startS ["_law_floor_here", "_law_one", "_law_other", "_law_double", "_law_ware_here", "_law_row", "_law_place", "_law_due", "_law_line", "_law_a", "_law_b"] ds) := by
  rintro ds Q Z ⟨n, ls, w1, w2, xs, ys, rfl, hF, k1, k2, hR, hq⟩
  have n8 := hF.n8
  have ln := hF.len
  simp only [g__law_goes, dSeq2, dSeq, and_assoc]
  simp
  refine ⟨_, _, ⟨rfl, rfl⟩, ?_⟩
  show forI _ _ _ (List.map (fun x : W3 × List Rat => D.tup [wD x.1, rowD x.2]) [(w1, xs), (w2, ys)]) _
  refine for_E (xs := [(w1, xs), (w2, ys)]) (e := fun x : W3 × List Rat => .tup [wD x.1, rowD x.2]) (fun done left ρ => done.any (gainBad n ls) = false ∧ ∃ x4 x5 x6 x7 x8 x9 x10, ρ = [.d (floorD n ls), .d (wD w1), .d (wD w2), .d (.tup [rowD xs, rowD ys]), x4, x5, x6, x7, x8, x9, x10]) ⟨rfl, _, _, _, _, _, _, _, rfl⟩ ?_ ?_
  · rintro done ⟨w, r⟩ left ρ N ee ⟨h1, x4, x5, x6, x7, x8, x9, x10, rfl⟩ hN
    have hw : (w = w1 ∧ r = xs) ∨ (w = w2 ∧ r = ys) := by
      have : (w, r) ∈ [(w1, xs), (w2, ys)] := by rw [← ee]; simp
      simpa using this
    have hW : Wre n w := by rcases hw with ⟨rfl, _⟩ | ⟨rfl, _⟩ <;> assumption
    have hS : Sm 2 1000 r := by
      rcases hw with ⟨_, rfl⟩ | ⟨_, rfl⟩
      · exact hR.sm1 hF.len
      · exact hR.swap.sm1 hF.len
    have hl : r.length = ls.length := by
      rcases hw with ⟨_, rfl⟩ | ⟨_, rfl⟩
      · exact hR.lx
      · exact hR.ly
    simp [floorD, rowD, and_assoc, hl]
    refine ⟨by omega, for_E (fun dn lf ρ => (dn.any fun p : Nat => !decide (M40.gain ls r p = M40.due w p)) = false ∧ ∃ x6 x7, ρ = [.d (floorD n ls), .d (wD w1), .d (wD w2), .d (.tup [rowD xs, rowD ys]), .d (wD w), .d (rowD r), x6, x7, x8, x9, x10]) ⟨rfl, _, _, rfl⟩ ?_ ?_⟩
    · rintro dn p lf ρ N2 e2 ⟨h2, x6, x7, rfl⟩ hN2
      simp [floorD, rowD, and_assoc]
      refine ⟨mulR (by split <;> split <;> decide) (by split <;> split <;> decide), n, ls, r, p, 2, 1000, rfl, hS, by omega, ?_⟩
      rw [fr_int, show ((w.2.2 * ((if (p : Int) = w.1 then 1 else 0) - if (p : Int) = w.2.1 then 1 else 0) : Int) : Rat) = M40.due w p from (due_z w p).symm]
      by_cases hb : M40.gain ls r p = M40.due w p
      · simp [hb]
        exact hN2 _ ⟨by simp [h2, hb], _, _, rfl⟩
      · have hg : goesB n ls w1 w2 xs ys = false := by
          have hb' : gainBad n ls (w, r) = true := by
            unfold gainBad
            rw [List.any_map]
            exact any_mid e2 (by simp [hb])
          unfold goesB
          rw [any_mid ee hb']
          rfl
        rw [hg] at hq
        simpa [hb] using hq
    · rintro ρ ⟨h2, x6, x7, rfl⟩
      have hb' : gainBad n ls (w, r) = false := by
        unfold gainBad
        rw [List.any_map]
        exact h2
      exact hN _ ⟨by simp [h1, hb'], _, _, _, _, _, _, _, rfl⟩
  · rintro ρ ⟨h1, x4, x5, x6, x7, x8, x9, x10, rfl⟩
    simp [floorD, rowD, and_assoc]
    rw [zip3_map]
    refine for_E (fun done left ρ => done.any roomBad = false ∧ ∃ x4 x5 x6 x7 x8 x9 x10, ρ = [.d (floorD n ls), .d (wD w1), .d (wD w2), .d (.tup [rowD xs, rowD ys]), x4, x5, x6, x7, x8, x9, x10]) ⟨rfl, _, _, _, _, _, _, _, rfl⟩ ?_ ?_
    · rintro done ⟨l, p, q⟩ left ρ N ee ⟨h2, x4, x5, x6, x7, x8, x9, x10, rfl⟩ hN
      have m1 : (l, p, q) ∈ List.zip ls (List.zip xs ys) := by rw [← ee]; simp
      have ⟨m2, m3⟩ := List.of_mem_zip m1
      have ⟨m4, m5⟩ := List.of_mem_zip m3
      have hl := (hF.l l m2).2
      have a4 := (hR.ax p m4).abs
      have a5 := (hR.ay q m5).abs
      have b1 : 2 < bD := hb2
      have b2 : 2000 < bN := hb3
      simp [and_assoc, fr]
      rw [abs_fr, abs_fr, sp__law_plus_at]
      refine ⟨a4.sz b1 (by omega), a5.sz b1 (by omega), ?_⟩
      rw [fr_int, sp__law_under_at]
      refine ⟨sz_int (by omega), (a4.add a5).sz b1 (by omega), ?_⟩
      simp
      cases hb : roomBad (l, p, q) with
      | true =>
        have hg : goesB n ls w1 w2 xs ys = false := by
          unfold goesB
          rw [any_mid ee hb]
          simp
        rw [hg] at hq
        have hb' : (l.2.2 : Rat) < absQ p + absQ q := of_decide_eq_true hb
        simpa [hb'] using hq
      | false =>
        have hb' : ¬ (l.2.2 : Rat) < absQ p + absQ q := of_decide_eq_false hb
        simp [hb']
        exact hN _ ⟨by simp [h2, hb], _, _, _, _, _, _, _, rfl⟩
    · rintro ρ ⟨h2, x4, x5, x6, x7, x8, x9, x10, rfl⟩
      have hg : goesB n ls w1 w2 xs ys = true := by
        unfold goesB
        rw [h1, h2]
        rfl
      rw [hg] at hq
      simpa using hq
end Dy.K4

/-! # The law of two wares: what is looked at. -/
namespace Dy.K4
variable [Tn]
open PySem PySem.Spec PyProof.Rows L2
theorem room_cast (S : List Int) : ∀ ls : List W3, ((roomI S ls : Int) : Rat) = M40.roomP S ls
  | [] => rfl
  | l :: ls => by
    have ih := room_cast S ls
    have c : ∀ v, S.contains v = decide (v ∈ S) := fun v => by
      rw [Bool.eq_iff_iff]
      simp
    simp only [roomI, M40.roomP, List.filterMap_cons, c] at ih ⊢
    rw [← ih]
    cases decide (l.1 ∈ S) <;> cases decide (l.2.1 ∈ S) <;> simp [Rat.intCast_add] <;> grind
theorem bars_iff {ls : List W3} {w1 w2 : W3} {S : List Int} : barsB ls w1 w2 S = true ↔ M40.roomP S ls < M40.partW S w1 + M40.partW S w2 := by
  have e : ((roomI S [w1, w2] : Int) : Rat) = M40.partW S w1 + M40.partW S w2 := by
    rw [room_cast]
    simp [M40.roomP, M40.partW]
    grind
  unfold barsB
  rw [decide_eq_true_eq, ← Rat.intCast_lt_intCast, room_cast, e]
theorem zip_up : ∀ {S : List Int}, S.Pairwise (· < ·) → (List.zipWith (fun x y => match x, y with | D.int i, D.int j => decide (i < j) | _, _ => false) (S.map D.int) (S.map D.int).tail).all id = true
  | [], _ => rfl
  | [_], _ => rfl
  | x :: y :: S, h => by
    have ih := zip_up (S := y :: S) (List.Pairwise.of_cons h)
    have hxy : x < y := (List.pairwise_cons.mp h).1 y (by simp)
    simp only [List.map_cons, List.tail_cons, List.zipWith_cons_cons, List.all_cons, id] at ih ⊢
    rw [ih]
    simpa using hxy
theorem cut_ok {n : Nat} {S : List Int} (h1 : S.Pairwise (· < ·)) (h2 : ∀ v ∈ S, 0 ≤ v ∧ v < n) : cutB n (intsD S) = true := by
  have h3 : (S.map D.int).all (fun x => cnt x 0 ((n : Int) - 1)) = true := by
    rw [List.all_eq_true]
    intro x hx
    obtain ⟨v, hv, rfl⟩ := List.mem_map.mp hx
    have := h2 v hv
    simp [cnt]
    omega
  simp only [cutB, intsD, h3, Bool.true_and]
  exact zip_up h1
theorem cutF_ints {S : List Int} (h : S.length ≤ 1000) : CutF (intsD S) := ⟨by simp [intsD], fun l e => by cases e; simpa using h⟩
theorem sorted_eq : ∀ {S T : List Int}, S.Pairwise (· < ·) → T.Pairwise (· < ·) → (∀ v, v ∈ S ↔ v ∈ T) → S = T
  | [], [], _, _, _ => rfl
  | [], t :: T, _, _, h => by simpa using (h t).mpr (by simp)
  | s :: S, [], _, _, h => by simpa using (h s).mp (by simp)
  | s :: S, t :: T, h1, h2, h => by
    have a := List.pairwise_cons.mp h1
    have b := List.pairwise_cons.mp h2
    have e : s = t := by
      rcases List.mem_cons.mp ((h s).mp (by simp)) with z | z
      · exact z
      · rcases List.mem_cons.mp ((h t).mpr (by simp)) with y | y
        · exact y.symm
        · have := b.1 s z
          have := a.1 t y
          omega
    subst e
    rw [sorted_eq a.2 b.2 fun v => ⟨fun hv => by
      rcases List.mem_cons.mp ((h v).mp (by simp [hv])) with z | z
      · have := a.1 v hv; omega
      · exact z, fun hv => by
      rcases List.mem_cons.mp ((h v).mpr (by simp [hv])) with z | z
      · have := b.1 v hv; omega
      · exact z⟩]
theorem cut_mem {n : Nat} {S : List Int} (h1 : S.Pairwise (· < ·)) (h2 : ∀ v ∈ S, 0 ≤ v ∧ v < n) : S ∈ M40.cuts n := by
  have h := M40.filter_cuts (fun v => decide (v ∈ S)) n
  have e : S = (M40.rangeI n).filter fun v => decide (v ∈ S) := by
    refine sorted_eq h1 (M40.cuts_ok h).1 fun v => ?_
    rw [List.mem_filter, decide_eq_true_eq]
    refine ⟨fun hv => ⟨?_, hv⟩, fun z => z.2⟩
    have := h2 v hv
    obtain ⟨k, rfl⟩ := Int.eq_ofNat_of_zero_le this.1
    exact List.mem_map.mpr ⟨k, List.mem_range.mpr (by omega), rfl⟩
  rw [e]
  exact h
/-! ### a double that goes -/
theorem abs_le {p q c : Rat} (h1 : p + q ≤ c) (h2 : p - q ≤ c) (h3 : q - p ≤ c) (h4 : - p - q ≤ c) : absQ p + absQ q ≤ c := by
  unfold absQ
  split <;> split <;> grind
theorem within_room {ls : List W3} {xs ys : List Rat} (h : M40.Within ls xs ys) : (List.zip ls (List.zip xs ys)).any roomBad = false := by
  induction h with
  | nil => rfl
  | @cons l x y ls xs ys h1 h2 h3 h4 r ih =>
    simp only [List.zip_cons_cons, List.any_cons, ih, Bool.or_false]
    exact decide_eq_false (Rat.not_lt.mpr (abs_le h1 h2 h3 h4))
theorem within_len {ls : List W3} {xs ys : List Rat} (h : M40.Within ls xs ys) : xs.length = ls.length ∧ ys.length = ls.length := by
  induction h with
  | nil => exact ⟨rfl, rfl⟩
  | cons h1 h2 h3 h4 r ih => simp [ih]
theorem gain_good {n : Nat} {ls : List W3} {w : W3} {r : List Rat} (h : ∀ v, M40.gain ls r v = M40.due w v) : gainBad n ls (w, r) = false := by
  unfold gainBad
  rw [List.any_map, List.any_eq_false]
  intro p hp
  simp [h]
theorem dbl_goes {n : Nat} {ls : List W3} {w1 w2 : W3} {xs ys : List Rat} (h : Dbl ls w1 w2 xs ys) : goesB n ls w1 w2 xs ys = true := by
  simp only [goesB, List.any_cons, List.any_nil, gain_good h.a, gain_good h.b, within_room h.w]
  rfl
theorem dbl_rows {ls : List W3} {w1 w2 : W3} {xs ys : List Rat} (h : Dbl ls w1 w2 xs ys) : Rws ls xs ys := ⟨(within_len h.w).1, (within_len h.w).2, fun q hq => (h.lx q hq).mono (by omega), fun q hq => (h.ly q hq).mono (by omega)⟩
theorem dbl_bars {n : Nat} {ls : List W3} {w1 w2 : W3} {xs ys : List Rat} (h : Dbl ls w1 w2 xs ys) {S : List Int} (hS : S ∈ M40.cuts n) : barsB ls w1 w2 S = false := by
  have nb := M40.no_bar (M40.cuts_nodup hS) h.w (fun v _ => h.a v) (fun v _ => h.b v)
  cases e : barsB ls w1 w2 S with
  | false => rfl
  | true => exact absurd (bars_iff.mp e) (Rat.not_lt.mpr nb)
theorem lat_den {b : Nat} {q : Rat} (h : Lat 2 b q) : q.den < 3 := by
  obtain ⟨_, k, rfl, _⟩ := h
  rw [Rat.den_mkRat, if_neg (by decide)]
  exact Nat.lt_of_le_of_lt (Nat.div_le_self _ _) (by decide)
theorem fracB_fr (q : Rat) : fracB (fr q) = true := by
  have := q.den_pos
  have := q.reduced
  simp [fracB, fr]
  exact ⟨q.den_pos, q.reduced⟩
theorem rowB_row {k : Nat} {r : List Rat} (h : r.length = k) : rowB k (rowD r) = true := by
  simp [rowB, rowD, h, fracB_fr]
theorem twoB_rows {ls : List W3} {xs ys : List Rat} (h : Rws ls xs ys) : twoB ls.length (.tup [rowD xs, rowD ys]) = true := by
  show (rowB _ _ && rowB _ _) = true
  rw [rowB_row h.lx, rowB_row h.ly]
  rfl
theorem pl_rowD (k : Nat) (r : List Rat) : pl (k + 2) (rowD r) = true := by simp [rowD]
theorem dblF_rows {xs ys : List Rat} (h1 : xs.length ≤ 1000) (h2 : ys.length ≤ 1000) : DblF (.tup [rowD xs, rowD ys]) := ⟨by simp [pl_rowD 49], fun l e r hr l' e' => by
  cases e
  rcases List.mem_cons.mp hr with rfl | hr
  · cases e'; simp; omega
  · rw [List.mem_singleton.mp hr] at e'
    cases e'; simp; omega⟩
/-! ### the program's defs, asked of a sound floor -/
section
variable {aB : Addr} {n : Nat} {ls : List W3} {w1 w2 : W3} {Q : D → Prop} {Z : Addr → Prop}
theorem sound (hF : Flr n ls) (k1 : Wre n w1) (k2 : Wre n w2) : floorB (floorD n ls) (wD w1) (wD w2) = true := by
  rw [floor_ok hF, ware_ok k1, ware_ok k2]
  rfl
theorem floor_inj {n n' : Nat} {ls ls' : List W3} (h : floorD n ls = floorD n' ls') : n = n' ∧ ls = ls' := by
  simp only [floorD, D.tup.injEq, List.cons.injEq, D.int.injEq, D.lst.injEq, and_true] at h
  refine ⟨by omega, ?_⟩
  exact (List.map_inj_right fun a b h => by
    simp at h
    exact Prod.ext h.1 (Prod.ext h.2.1 h.2.2)).mp h.2
theorem w_inj {w w' : W3} (h : wD w = wD w') : w = w' := by
  simp at h
  exact Prod.ext h.1 (Prod.ext h.2.1 h.2.2)
theorem both_go_at (hF : Flr n ls) (k1 : Wre n w1) (k2 : Wre n w2) (hd : ∀ xs ys, Dbl ls w1 w2 xs ys → Q (.tup [.str "double", .tup [rowD xs, rowD ys]])) (hc : ∀ S, Cut n ls w1 w2 S → Q (.tup [.str "cut", intsD S])) : sp_both_go aB [floorD n ls, wD w1, wD w2] Q Z := by
  have := hF.len
  refine ⟨_, _, _, rfl, floorD_form (by omega), by simp, by simp, fun z => ?_, fun n' ls' v1 v2 e1 e2 e3 _ _ _ => ?_⟩
  · rw [sound hF k1 k2] at z; cases z
  · obtain ⟨rfl, rfl⟩ := floor_inj e1
    obtain rfl := w_inj e2
    obtain rfl := w_inj e3
    exact ⟨hd, hc⟩
theorem cut_bars_at (hF : Flr n ls) (k1 : Wre n w1) (k2 : Wre n w2) {S : List Int} (h1 : S.Pairwise (· < ·)) (h2 : ∀ v ∈ S, 0 ≤ v ∧ v < n) (h3 : S.length ≤ 1000) (q : Q (.bl (barsB ls w1 w2 S))) : sp_cut_bars aB [floorD n ls, wD w1, wD w2, intsD S] Q Z := by
  have := hF.len
  refine ⟨_, _, _, _, rfl, floorD_form (by omega), by simp, by simp, cutF_ints h3, fun z => ?_, fun n' ls' v1 v2 e1 e2 e3 _ _ _ => ⟨fun z => ?_, fun T _ e => ?_⟩⟩
  · rw [sound hF k1 k2] at z; cases z
  · obtain ⟨rfl, rfl⟩ := floor_inj e1
    rw [cut_ok h1 h2] at z; cases z
  · obtain ⟨rfl, rfl⟩ := floor_inj e1
    obtain rfl := w_inj e2
    obtain rfl := w_inj e3
    have e' : S = T := (List.map_inj_right fun a b h => by simpa using h).mp (D.lst.inj e)
    rw [← e']
    exact q
theorem cut_bars_odd (hF : Flr n ls) (k1 : Wre n w1) (k2 : Wre n w2) {d : D} (hd : CutF d) (h : cutB n d = false) (q : Q (.bl false)) : sp_cut_bars aB [floorD n ls, wD w1, wD w2, d] Q Z := by
  have := hF.len
  refine ⟨_, _, _, _, rfl, floorD_form (by omega), by simp, by simp, hd, fun z => ?_, fun n' ls' v1 v2 e1 e2 e3 _ _ _ => ⟨fun _ => q, fun T z e => ?_⟩⟩
  · rw [sound hF k1 k2] at z; cases z
  · obtain ⟨rfl, rfl⟩ := floor_inj e1
    rw [h] at z; cases z
theorem double_goes_at (hF : Flr n ls) (k1 : Wre n w1) (k2 : Wre n w2) {xs ys : List Rat} (hR : Rws ls xs ys) (q : Q (.bl (goesB n ls w1 w2 xs ys))) : sp_double_goes aB [floorD n ls, wD w1, wD w2, .tup [rowD xs, rowD ys]] Q Z := by
  have := hF.len
  have := hR.lx
  have := hR.ly
  refine ⟨_, _, _, _, rfl, floorD_form (by omega), by simp, by simp, dblF_rows (by omega) (by omega), fun z => ?_, fun n' ls' v1 v2 e1 e2 e3 _ _ _ => ⟨fun z => ?_, fun _ => ⟨xs, ys, rfl, ?_⟩⟩⟩
  · rw [sound hF k1 k2] at z; cases z
  · obtain ⟨rfl, rfl⟩ := floor_inj e1
    rw [twoB_rows hR] at z; cases z
  · obtain ⟨rfl, rfl⟩ := floor_inj e1
    obtain rfl := w_inj e2
    obtain rfl := w_inj e3
    exact ⟨hR, q⟩
theorem double_goes_odd (hF : Flr n ls) (k1 : Wre n w1) (k2 : Wre n w2) {d : D} (hd : DblF d) (h : twoB ls.length d = false) (q : Q (.bl false)) : sp_double_goes aB [floorD n ls, wD w1, wD w2, d] Q Z := by
  have := hF.len
  refine ⟨_, _, _, _, rfl, floorD_form (by omega), by simp, by simp, hd, fun z => ?_, fun n' ls' v1 v2 e1 e2 e3 _ _ _ => ⟨fun _ => q, fun z => ?_⟩⟩
  · rw [sound hF k1 k2] at z; cases z
  · obtain ⟨rfl, rfl⟩ := floor_inj e1
    rw [h] at z; cases z
end
/-! ### looked_right -/
def oddCuts : List D := [.non, .lst [.int 9], .lst [.int 1, .int 0], .lst [.int 0, .int 0], .tup [.int 0], .lst [.bl true]]
theorem odd_cut {n : Nat} (h : n ≤ 8) : ∀ d ∈ oddCuts, CutF d ∧ cutB n d = false := by
  intro d hd
  simp only [oddCuts, List.mem_cons, List.not_mem_nil, or_false] at hd
  rcases hd with rfl | rfl | rfl | rfl | rfl | rfl
  · exact ⟨⟨by simp, fun l e => nomatch e⟩, rfl⟩
  · exact ⟨⟨by simp, fun l e => by cases e; simp⟩, by simp [cutB, cnt]; omega⟩
  · exact ⟨⟨by simp, fun l e => by cases e; simp⟩, by simp [cutB, cnt]⟩
  · exact ⟨⟨by simp, fun l e => by cases e; simp⟩, by simp [cutB, cnt]⟩
  · exact ⟨⟨by simp, fun l e => nomatch e⟩, rfl⟩
  · exact ⟨⟨by simp, fun l e => by cases e; simp⟩, by simp [cutB, cnt]⟩
def oddDoubles : List D := [.non, .tup [.lst [], .lst [], .lst []], .tup [.lst [.non], .lst [.non]], .tup [.lst (List.replicate 17 (.tup [.int 1, .int 2])), .lst []], .lst [.lst [], .lst []]]
theorem odd_double {k : Nat} (h : k ≤ 16) : ∀ d ∈ oddDoubles, DblF d ∧ twoB k d = false := by
  intro d hd
  have F : ∀ a b : List D, a.length ≤ 100 → b.length ≤ 100 → ∀ l, D.tup [.lst a, .lst b] = .tup l → ∀ r ∈ l, ∀ l', r = .lst l' → l'.length ≤ 1000000 := fun a b h1 h2 l e r hr l' e' => by
    cases e
    rcases List.mem_cons.mp hr with rfl | hr
    · cases e'; omega
    · rw [List.mem_singleton.mp hr] at e'
      cases e'; omega
  simp only [oddDoubles, List.mem_cons, List.not_mem_nil, or_false] at hd
  rcases hd with rfl | rfl | rfl | rfl | rfl
  · exact ⟨⟨by simp, fun l e => nomatch e⟩, rfl⟩
  · exact ⟨⟨by simp, fun l e r hr l' e' => by
      cases e
      simp at hr
      rw [hr] at e'
      cases e'
      simp⟩, rfl⟩
  · exact ⟨⟨by simp, F _ _ (by simp) (by simp)⟩, by simp [twoB, rowB, fracB]⟩
  · exact ⟨⟨by simp, F _ _ (by simp) (by simp)⟩, by simp [twoB, rowB]; omega⟩
  · exact ⟨⟨by simp, fun l e => nomatch e⟩, rfl⟩
theorem ix_any {l : List D} {z : Int} {K R : D → Prop} (h0 : 0 ≤ z) (h1 : z < l.length) (hK : ∀ d ∈ l, K d) (hR : ∀ d, K d → R d) : ∃ d, atI l z = some d ∧ R d := by
  obtain ⟨i, rfl⟩ := Int.eq_ofNat_of_zero_le h0
  have hi : i < l.length := by omega
  exact ⟨l[i], atI_of (List.getElem?_eq_getElem hi), hR _ (hK _ (List.getElem_mem hi))⟩
def sp__law_looked_right : Spc := fun ds Q _ => ∃ (n : Nat) (ls : List W3) (w1 w2 : W3) (more : Int), ds = [floorD n ls, wD w1, wD w2, .int more] ∧ Flr n ls ∧ Wre n w1 ∧ Wre n w2 ∧ Q (.bl true)
theorem len__law_looked_right : ∀ ds Q Z, sp__law_looked_right ds Q Z → ds.length = 4 := len4 (fun ds Q Z ⟨_, _, _, _, _, e, _⟩ => ⟨_, _, _, _, e⟩)
def g__law_looked_right (a_BadFloor : Addr) : DS := (dSeq2 (dSet 4 (dCall (sp_both_go a_BadFloor) (dCons (dVar 0) (dCons (dVar 1) (dCons (dVar 2) dNil)))))
    (dSeq2 (dSet 5 (dCall sp__law_cuts (dCons (dOp ixD (dVar 0) (dC (.int 0))) dNil)))
    (dSeq2 (dFor (dRng1 (dCons (dC (.int 5)) dNil)) (gdName 6)
    (dSeq2 (dSet 7 (dCall sp__law_drawn (dCons (dVar 3) (dCons (dOp addD (dC (.int 70)) (dVar 6)) dNil))))
    (dSeq2 (dSet 8 (dOp ixD (dVar 5) (dOp modD (dVar 7) (dCB lenD (dCons (dVar 5) dNil)))))
    (dSeq2 (dSet 9 (dCall (sp_cut_bars a_BadFloor) (dCons (dVar 0) (dCons (dVar 1) (dCons (dVar 2) (dCons (dVar 8) dNil))))))
    (dSeq2 (dIf (dOrT (dNotT (dTest (dIsi "bool" (dVar 9)))) (dTest (dOp neD (dVar 9) (dCall sp__law_bars (dCons (dVar 0) (dCons (dVar 1) (dCons (dVar 2) (dCons (dVar 8) dNil))))))))
    (dRet (dC (.bl false)))
    dSkip)
    (dIf (dAndT (dTest (dOp eqD (dOp ixD (dVar 4) (dC (.int 0))) (dC (.str "double")))) (dTest (dOp neD (dOp ixD (dVar 0) (dC (.int 1))) (dLst dNil))))
    (dSeq2 (dSetR 10 (dSeq (dOp ixD (dVar 4) (dC (.int 1)))) (gdName 15) dYes (dCopy (dVar 15)) [15])
    (dSeq2 (dSet 11 (dOp modD (dOp fdivD (dVar 7) (dC (.int 512))) (dCB lenD (dCons (dOp ixD (dVar 0) (dC (.int 1))) dNil))))
    (dSeq2 (dSet 12 (dOp ixD (dLst (dCons (dTup (dCons (dC (.int 1)) (dCons (dC (.int 2)) dNil))) (dCons (dTup (dCons (dUn negD (dC (.int 1))) (dCons (dC (.int 1)) dNil))) (dCons (dTup (dCons (dC (.int 0)) (dCons (dC (.int 1)) dNil))) (dCons (dTup (dCons (dC (.int 3)) (dCons (dC (.int 1)) dNil))) dNil))))) (dOp modD (dOp fdivD (dVar 7) (dC (.int 64))) (dC (.int 4)))))
    (dSeq2 (dPutR 10 (dOp modD (dVar 7) (dC (.int 2))) (dVar 11) (dCall sp__law_plus (dCons (dIxR 10 (dOp modD (dVar 7) (dC (.int 2))) (dVar 11)) (dCons (dVar 12) dNil))))
    (dFrz 10 (dSeq2 (dSet 13 (dOp ixD (dLst (dCons (dTup (dCons (dOp ixD (dVar 10) (dC (.int 0))) (dCons (dOp ixD (dVar 10) (dC (.int 1))) dNil))) (dCons (dTup (dCons (dOp ixD (dVar 10) (dC (.int 1))) (dCons (dOp ixD (dVar 10) (dC (.int 0))) dNil))) dNil))) (dOp modD (dOp fdivD (dVar 7) (dOp powD (dC (.int 2)) (dC (.int 20)))) (dC (.int 2)))))
    (dIf (dTest (dOp neD (dCall (sp_double_goes a_BadFloor) (dCons (dVar 0) (dCons (dVar 1) (dCons (dVar 2) (dCons (dVar 13) dNil))))) (dCall sp__law_goes (dCons (dVar 0) (dCons (dVar 1) (dCons (dVar 2) (dCons (dVar 13) dNil)))))))
    (dRet (dC (.bl false)))
    dSkip)))))))
    dSkip))))))
    (dSeq2 (dSet 14 (dLst (dCons (dC .non) (dCons (dTup (dCons (dLst dNil) (dCons (dLst dNil) (dCons (dLst dNil) dNil)))) (dCons (dTup (dCons (dLst (dCons (dC .non) dNil)) (dCons (dLst (dCons (dC .non) dNil)) dNil))) (dCons (dTup (dCons (dOp mulD (dLst (dCons (dTup (dCons (dC (.int 1)) (dCons (dC (.int 2)) dNil))) dNil)) (dC (.int 17))) (dCons (dLst dNil) dNil))) (dCons (dLst (dCons (dLst dNil) (dCons (dLst dNil) dNil))) dNil)))))))
    (dSeq2 (dIf (dTest (dOp notBD (dCall (sp_double_goes a_BadFloor) (dCons (dVar 0) (dCons (dVar 1) (dCons (dVar 2) (dCons (dOp ixD (dVar 14) (dOp modD (dVar 3) (dC (.int 5)))) dNil))))) (dC (.bl false))))
    (dRet (dC (.bl false)))
    dSkip)
    (dRet (dOp isBD (dCall (sp_cut_bars a_BadFloor) (dCons (dVar 0) (dCons (dVar 1) (dCons (dVar 2) (dCons (dOp ixD (dLst (dCons (dC .non) (dCons (dLst (dCons (dC (.int 9)) dNil)) (dCons (dLst (dCons (dC (.int 1)) (dCons (dC (.int 0)) dNil))) (dCons (dLst (dCons (dC (.int 0)) (dCons (dC (.int 0)) dNil))) (dCons (dTup (dCons (dC (.int 0)) dNil)) (dCons (dLst (dCons (dC (.bl true)) dNil)) dNil))))))) (dOp modD (dOp fdivD (dVar 3) (dC (.int 8))) (dC (.int 6)))) dNil))))) (dC (.bl false)))))))))
theorem lcR_mapE {α : Type} {g : DG} {te : DA} {ρ : List Sl} {xs : List α} {e : α → D} {P : List (List D) → Prop} (F : α → List D) (h : ∀ a ∈ xs, ∀ Q : List D → Prop, Q (F a) → g (e a) ρ fun ρ2 => te ρ2 Q) (p : P (xs.map F)) : lcRI g dYes te ρ (xs.map e) P := by
  refine ⟨fun rest acc => ∃ done left, done ++ left = xs ∧ rest = left.map e ∧ acc = done.map F, ⟨[], xs, rfl, rfl, rfl⟩, ?_, ?_⟩
  · rintro x rest acc ⟨done, left, e1, e2, rfl⟩
    cases left with
    | nil => cases e2
    | cons a left =>
      simp only [List.map_cons, List.cons.injEq] at e2
      obtain ⟨rfl, rfl⟩ := e2
      simp only [dYes, if_true]
      refine h a (by rw [← e1]; simp) _ ⟨done ++ [a], left, by simpa using e1, rfl, by simp⟩
  · rintro acc ⟨done, left, e1, e2, rfl⟩
    cases left with
    | cons _ _ => cases e2
    | nil =>
      rw [List.append_nil] at e1
      subst e1
      exact p
theorem changes : ∀ d ∈ [D.tup [D.int 1, D.int 2], D.tup [D.int (-1), D.int 1], D.tup [D.int 0, D.int 1], D.tup [D.int 3, D.int 1]], ∃ q, d = fr q ∧ Lat 2 6 q := by
  intro d hd
  have I : ∀ i : Int, i.natAbs ≤ 3 → ∃ q, D.tup [.int i, .int 1] = fr q ∧ Lat 2 6 q := fun i hi => ⟨(i : Rat), fr_int i, by decide, i * 2, by rw [half_mk, Rat.intCast_mul]; grind, by omega⟩
  simp only [List.mem_cons, List.not_mem_nil, or_false] at hd
  rcases hd with rfl | rfl | rfl | rfl
  · exact ⟨mkRat 1 2, by rw [fr_mkRat _ _ (by decide)]; rfl, by decide, 1, rfl, by decide⟩
  · exact I _ (by decide)
  · exact I _ (by decide)
  · exact I _ (by decide)
structure Rw2 (ls : List W3) (xs ys : List Rat) : Prop where
  lx : xs.length = ls.length
  ly : ys.length = ls.length
  ax : ∀ q ∈ xs, Lat 2 100 q
  ay : ∀ q ∈ ys, Lat 2 100 q
theorem _root_.Dy.Dbl.rw2 {ls : List W3} {w1 w2 : W3} {xs ys : List Rat} (h : Dbl ls w1 w2 xs ys) : Rw2 ls xs ys := ⟨(within_len h.w).1, (within_len h.w).2, h.lx, h.ly⟩
theorem Rw2.swap {ls : List W3} {xs ys : List Rat} (h : Rw2 ls xs ys) : Rw2 ls ys xs := ⟨h.ly, h.lx, h.ay, h.ax⟩
theorem rws_set {ls : List W3} {xs ys : List Rat} (h : Rw2 ls xs ys) {i : Nat} (hi : i < xs.length) {c : Rat} (hc : Lat 2 6 c) : Rws ls (xs.set i (xs[i] + c)) ys := by
  refine ⟨by rw [List.length_set]; exact h.lx, h.ly, fun q hq => ?_, fun q hq => (h.ay q hq).mono (by omega)⟩
  rcases List.mem_or_eq_of_mem_set hq with z | z
  · exact (h.ax q z).mono (by omega)
  · rw [z]
    exact ((h.ax _ (List.getElem_mem hi)).add hc).mono (by omega)
theorem ixN_nat {k i : Nat} (h : i < k) : ixN k (i : Int) = some i := by
  unfold ixN
  rw [if_pos (by omega), if_pos (by omega)]
  simp
/-- what both_go tells -/
def TB (ls : List W3) (w1 w2 : W3) (d : D) : Prop := (∃ xs ys, Dbl ls w1 w2 xs ys ∧ d = .tup [.str "double", .tup [rowD xs, rowD ys]]) ∨ ∃ S, d = .tup [.str "cut", intsD S]
theorem both_go_tb {aB : Addr} {n : Nat} {ls : List W3} {w1 w2 : W3} {Q : D → Prop} {Z : Addr → Prop} (hF : Flr n ls) (k1 : Wre n w1) (k2 : Wre n w2) (h : ∀ d, TB ls w1 w2 d → Q d) : sp_both_go aB [floorD n ls, wD w1, wD w2] Q Z :=
  both_go_at hF k1 k2 (fun xs ys hD => h _ (.inl ⟨xs, ys, hD, rfl⟩)) (fun S _ => h _ (.inr ⟨S, rfl⟩))
theorem pure__law_looked_right (aB : Addr) : ∀ ds Q Z, sp__law_looked_right ds Q Z → g__law_looked_right aB { nx := fun _ => Q .non, rt := Q } (startS ["_law_floor_here", "_law_one", "_law_other", "_law_more", "_law_told_here", "_law_cuts_here", "_law_j", "_law_here", "_law_cut", "_law_found", "_law_rows", "_law_at", "_law_change", "_law_bent", "_law_odd", "_law_row"] ds) := by
  rintro ds Q Z ⟨n, ls, w1, w2, more, rfl, hF, k1, k2, h⟩
  have n8 := hF.n8
  have n2 := hF.n2
  have ln := hF.len
  have sD : PyData.strOk "double" = true := by decide +kernel
  have sC : PyData.strOk "cut" = true := by decide +kernel
  simp only [g__law_looked_right, dSeq2, dSeq, and_assoc]
  simp
  refine both_go_tb hF k1 k2 fun d hd => ?_
  simp [floorD, and_assoc]
  refine ⟨n, rfl, n8, ?_⟩
  simp [and_assoc]
  refine for_E (fun done left ρ => ∃ x6 x7 x8 x9 x10 x11 x12 x13 x14 x15, ρ = [.d (floorD n ls), .d (wD w1), .d (wD w2), .d (.int more), .d d, .d (.lst ((M40.cuts n).map intsD)), x6, x7, x8, x9, x10, x11, x12, x13, x14, x15]) ⟨_, _, _, _, _, _, _, _, _, _, rfl⟩ ?_ ?_
  · rintro done j left ρ N e ⟨x6, x7, x8, x9, x10, x11, x12, x13, x14, x15, rfl⟩ hN
    have hcl := cuts_le (Nat.le_refl n)
    have hcl2 := M40.cuts_len n
    have hcp : 2 ^ n ≤ 2 ^ 8 := Nat.pow_le_pow_right (by decide) n8
    have hc0 : 0 < 2 ^ n := Nat.two_pow_pos n
    simp [floorD, and_assoc]
    refine drawn_atI (by omega) fun v => ?_
    simp [floorD, and_assoc]
    have m0 : 0 ≤ (v : Int) % ((M40.cuts n).length : Int) := Int.emod_nonneg _ (by omega)
    have m1 : (v : Int) % ((M40.cuts n).length : Int) < ((M40.cuts n).length : Int) := Int.emod_lt_of_pos _ (by omega)
    refine ⟨by omega, ix_any (K := fun d => ∃ S ∈ M40.cuts n, d = intsD S) m0 (by simpa using m1) (fun d hd => by
      obtain ⟨S, hS, rfl⟩ := List.mem_map.mp hd
      exact ⟨S, hS, rfl⟩) fun dd hdd => ?_⟩
    obtain ⟨S, hS, rfl⟩ := hdd
    have hSo := M40.cuts_ok hS
    have hSl := cut_len hS
    refine cut_bars_at hF k1 k2 hSo.1 hSo.2 (by omega) ?_
    simp [floorD, and_assoc]
    refine ⟨n, ls, w1, w2, S, rfl, by omega, ?_⟩
    simp [floorD, and_assoc]
    rcases hd with ⟨xs, ys, hD, rfl⟩ | ⟨S', rfl⟩
    · have hR := dbl_rows hD
      simp [and_assoc]
      refine ⟨sD, ?_⟩
      by_cases h0 : ls = []
      · rw [if_pos h0]
        exact hN _ ⟨_, _, _, _, _, _, _, _, _, _, rfl⟩
      · rw [if_neg h0]
        have hl0 : 0 < ls.length := List.length_pos_iff.mpr h0
        refine lcR_mapE (xs := [xs, ys]) (e := rowD) (fun r => r.map fr) (fun r hr Q q => ?_) ?_
        · simp [rowD]
          exact q
        · refine ⟨divSm (by decide) (small_lt (by decide)), hl0, divC (by decide) (by decide), ix_any (K := fun d => ∃ q, d = fr q ∧ Lat 2 6 q) (by omega) (by simp; omega) changes fun dc hdc => ?_⟩
          obtain ⟨c, rfl, hc⟩ := hdc
          obtain ⟨i, hi⟩ := Int.eq_ofNat_of_zero_le (a := (v : Int) / 512 % (ls.length : Int)) (Int.emod_nonneg _ (by omega))
          have hi2 : i < ls.length := by have := Int.emod_lt_of_pos ((v : Int) / 512) (b := (ls.length : Int)) (by omega); omega
          rw [hi]
          have lx := hR.lx
          have ly := hR.ly
          have b1 : 2 < bD := hb2
          have b2 : 2000 < bN := hb3
          have sc : Sz c := hc.sz b1 (by omega)
          rcases (show (v : Int) % 2 = 0 ∨ (v : Int) % 2 = 1 by omega) with z | z
          · rw [z]
            refine ⟨_, atI0 _ _, fr xs[i], atI_of (by rw [List.getElem?_map, List.getElem?_eq_getElem (by omega)]; rfl), ?_⟩
            simp
            have la := hR.ax xs[i] (List.getElem_mem _)
            refine ⟨la.sz b1 (by omega), sc, 0, rfl, _, rfl, i, ixN_nat (by simp; omega), ?_⟩
            simp only [List.set_cons_zero]
            rw [← List.map_set]
            have hR' : Rws ls (xs.set i (xs[i] + c)) ys := rws_set hD.rw2 (by omega) hc
            refine ⟨trivial, _, atI0 _ _, _, atI1 _ _ _, _, atI1 _ _ _, _, atI0 _ _, by unfold CPow; decide, divSm (by decide) (small_lt (by decide)), ix_any (K := fun d => ∃ A B, Rws ls A B ∧ d = .tup [rowD A, rowD B]) (by omega) (by simp; omega) (fun d hd => by
              simp only [List.mem_cons, List.not_mem_nil, or_false] at hd
              rcases hd with rfl | rfl
              · exact ⟨_, _, hR', rfl⟩
              · exact ⟨_, _, hR'.swap, rfl⟩) fun d hd => ?_⟩
            obtain ⟨A, B, hAB, rfl⟩ := hd
            refine double_goes_at hF k1 k2 hAB ?_
            simp
            refine ⟨n, ls, w1, w2, A, B, rfl, hF, k1, k2, hAB, ?_⟩
            simp
            exact hN _ ⟨_, _, _, _, _, _, _, _, _, _, rfl⟩
          · rw [z]
            refine ⟨_, atI1 _ _ _, fr ys[i], atI_of (by rw [List.getElem?_map, List.getElem?_eq_getElem (by omega)]; rfl), ?_⟩
            simp
            have la := hR.ay ys[i] (List.getElem_mem _)
            refine ⟨la.sz b1 (by omega), sc, 1, rfl, _, rfl, i, ixN_nat (by simp; omega), ?_⟩
            simp only [List.set_cons_succ, List.set_cons_zero]
            rw [← List.map_set]
            have hR' : Rws ls xs (ys.set i (ys[i] + c)) := (rws_set hD.rw2.swap (by omega) hc).swap
            refine ⟨trivial, _, atI0 _ _, _, atI1 _ _ _, _, atI1 _ _ _, _, atI0 _ _, by unfold CPow; decide, divSm (by decide) (small_lt (by decide)), ix_any (K := fun d => ∃ A B, Rws ls A B ∧ d = .tup [rowD A, rowD B]) (by omega) (by simp; omega) (fun d hd => by
              simp only [List.mem_cons, List.not_mem_nil, or_false] at hd
              rcases hd with rfl | rfl
              · exact ⟨_, _, hR', rfl⟩
              · exact ⟨_, _, hR'.swap, rfl⟩) fun d hd => ?_⟩
            obtain ⟨A, B, hAB, rfl⟩ := hd
            refine double_goes_at hF k1 k2 hAB ?_
            simp
            refine ⟨n, ls, w1, w2, A, B, rfl, hF, k1, k2, hAB, ?_⟩
            simp
            exact hN _ ⟨_, _, _, _, _, _, _, _, _, _, rfl⟩
    · simp
      have ne : ¬ Str.ofString "cut" = Str.ofString "double" := by decide +kernel
      rw [if_neg ne]
      exact ⟨sC, sD, hN _ ⟨_, _, _, _, _, _, _, _, _, _, rfl⟩⟩
  · rintro ρ ⟨x6, x7, x8, x9, x10, x11, x12, x13, x14, x15, rfl⟩
    simp [floorD, and_assoc]
    refine ix_any (K := fun d => DblF d ∧ twoB ls.length d = false) (by omega) (by simp; omega) (odd_double ln) fun d2 hd2 => ?_
    refine double_goes_odd hF k1 k2 hd2.1 hd2.2 ?_
    simp
    refine ⟨divC (by decide) (by decide), ix_any (K := fun d => CutF d ∧ cutB n d = false) (by omega) (by simp; omega) (odd_cut n8) fun d3 hd3 => ?_⟩
    refine cut_bars_odd hF k1 k2 hd3.1 hd3.2 ?_
    simpa using h
end Dy.K4

/-! # word(e): its reading; told bundled. -/
namespace Dy
variable [Tn]
open PySem PySem.Spec PyProof.Rows L2
/-- the three classes' words -/
def Word3 (aN aF aL : Addr) (C : Addr) (w : Str) : Prop := (C = aN ∧ w = "BadNet") ∨ (C = aF ∧ w = "BadFlow") ∨ (C = aL ∧ w = "BadFloor")
/-- which flags are up -/
def Flags3 (b1 b2 b3 : Bool) (w : Str) : Prop := (b1 = true ∧ b2 = false ∧ b3 = false ∧ w = "BadNet") ∨ (b1 = false ∧ b2 = true ∧ b3 = false ∧ w = "BadFlow") ∨ (b1 = false ∧ b2 = false ∧ b3 = true ∧ w = "BadFloor")
def tWord (K : PySem.W.Frag) (C a aN aF aL : Addr) : TS := tSeq
  (tAsg (tLst (tCons (tCB (rIsE K C a) (tCons (tVar 0) (tCons (tC (.ref aN)) tNil))) (tCons (tCB (rIsE K C a) (tCons (tVar 0) (tCons (tC (.ref aF)) tNil))) (tCons (tCB (rIsE K C a) (tCons (tVar 0) (tCons (tC (.ref aL)) tNil))) tNil)))) (gName 1))
  (tSeq (tIfS (tOr (tTest (tOp rNe (tCB (rHotSum K) (tCons (tHotInts K (tVar 1)) tNil)) (tC (.int 1)))) (tNot (tB (tCB (rIsE K C a) (tCons (tVar 0) (tCons (tC (.ty "ValueError")) tNil)))))) (tRet (tC (.str "other"))) tNext)
    (tRet (tOp (rIxL K) (tLst (tCons (tC (.str "BadNet")) (tCons (tC (.str "BadFlow")) (tCons (tC (.str "BadFloor")) tNil)))) (tBM K "list" (rIndex K) (tVar 1) (tCons (tC (.bl true)) tNil)))))
theorem ref_rel {a : Addr} : ∀ u, RelV (.ref a) u → u = Value.ref a := fun _ h => h
theorem ty_rel {n : String} : ∀ u, RelV (.ty n) u → u = Value.type n := fun _ h => h
theorem word_reads {K : PySem.W.Frag} {C a aN aF aL : Addr} {b1 b2 b3 : Bool} {w : Str} {H : Hp} {Q : VK} {σ0 : St} (k1 : PySem.W.kitOne K (.ref C) (.ref aN) = some b1) (k2 : PySem.W.kitOne K (.ref C) (.ref aF) = some b2) (k3 : PySem.W.kitOne K (.ref C) (.ref aL) = some b3)
    (kv : PySem.W.kitOne K (.ref C) (.type "ValueError") = some true) (hw : Flags3 b1 b2 b3 w) (hs : σ0[0]? = some (some (.ref a))) (hl : σ0.length = 2) (q : ∀ H', More H H' → Q (.str w) H') : tWord K C a aN aF aL { nx := fun _ H' => Q .non H', rt := Q } σ0 H := by
  have hset : ∀ v, (σ0.set 1 v)[0]? = some (some (.ref a)) := fun v => by rw [List.getElem?_set_ne (by decide)]; exact hs
  have hset1 : ∀ v, (σ0.set 1 v)[1]? = some v := fun v => by rw [List.getElem?_set_self (by omega)]
  refine ⟨.ref a, hs, .ref aN, _, b1, rfl, ref_rel, k1, .ref a, hs, .ref aF, _, b2, rfl, ref_rel, k2, .ref a, hs, .ref aL, _, b3, rfl, ref_rel, k3, Nat.le_of_lt (small1000 (by show 3 ≤ 1000; omega)), fun p hp => ?_⟩
  have sum1 : ([b1, b2, b3].map b01).sum = 1 := by
    rcases hw with ⟨rfl, rfl, rfl, _⟩ | ⟨rfl, rfl, rfl, _⟩ | ⟨rfl, rfl, rfl, _⟩ <;> rfl
  refine ⟨.ref p, hset1 _, p, [b1, b2, b3], rfl, SqL.of upd_same, fun r hr => ⟨r, [b1, b2, b3], rfl, SqL.of upd_same, (by show 3 ≤ 1000; omega), rfl, false, ?_, ?_⟩⟩
  · rw [sum1]
    rfl
  · refine ⟨.ref a, hset _, .ty "ValueError", _, true, rfl, ty_rel, kv, true, rfl, ?_⟩
    refine ⟨Nat.le_of_lt (small1000 (by decide)), fun t ht => ⟨.ref p, hset1 _, .inl ⟨rfl, [V.bl b1, V.bl b2, V.bl b3], ?_⟩, p, [V.bl b1, V.bl b2, V.bl b3], V.bl true, ?_⟩⟩
    · have hpr : p ≠ r := fun z => by subst z; rw [upd_same] at hr; cases hr
      have hpt : p ≠ t := fun z => by subst z; rw [upd_ne hpr, upd_same] at ht; cases ht
      exact SqL.of (by rw [upd_ne hpt, upd_ne hpr, upd_same])
    · have hpr : p ≠ r := fun z => by subst z; rw [upd_same] at hr; cases hr
      have hpt : p ≠ t := fun z => by subst z; rw [upd_ne hpr, upd_same] at ht; cases ht
      have mo : More H (upd (upd (upd H p (.lst [V.bl b1, V.bl b2, V.bl b3])) r (.lst (([b1, b2, b3].map b01).map V.int))) t (.lst [V.str "BadNet", V.str "BadFlow", V.str "BadFloor"])) :=
        ((More.alloc (o := .lst _) hp trivial).trans (More.alloc (o := .lst _) hr trivial)).trans (More.alloc (o := .lst _) ht trivial)
      have sq : SqL K (upd (upd (upd H p (.lst [V.bl b1, V.bl b2, V.bl b3])) r (.lst (([b1, b2, b3].map b01).map V.int))) t (.lst [V.str "BadNet", V.str "BadFlow", V.str "BadFloor"])) p [V.bl b1, V.bl b2, V.bl b3] := SqL.of (by rw [upd_ne hpt, upd_ne hpr, upd_same])
      rcases hw with ⟨rfl, rfl, rfl, e⟩ | ⟨rfl, rfl, rfl, e⟩ | ⟨rfl, rfl, rfl, e⟩ <;> subst e
      · exact ⟨0, .bl true, rfl, rfl, sq, rfl, rfl, rfl, rfl, fun m z' h => absurd h (by omega), t, _, _, _, rfl, rfl, SqL.of upd_same, rfl, q _ mo⟩
      · refine ⟨1, .bl true, rfl, rfl, sq, rfl, rfl, rfl, rfl, fun m z' h e => ?_, t, _, _, _, rfl, rfl, SqL.of upd_same, rfl, q _ mo⟩
        obtain rfl : m = 0 := by omega
        cases e
        rfl
      · refine ⟨2, .bl true, rfl, rfl, sq, rfl, rfl, rfl, rfl, fun m z' h e => ?_, t, _, _, _, rfl, rfl, SqL.of upd_same, rfl, q _ mo⟩
        obtain rfl | rfl : m = 0 ∨ m = 1 := by omega
        all_goals
          cases e
          rfl
/-- the call of word in the suite -/
theorem word_call {Z : Cx} {wn n a0 : Str} {st : Stmt} {f a C aN aF aL : Addr} {fd : FuncData} {oe : Obj} {k : Nat} {b1 b2 b3 : Bool} {w : Str} {N : List Str} {p5 p6 p7 : Pos} {x0 x1 : Str} (F : Fun Z.K wn wn st f fd) (hb : Binds Z.K fd [x0] []) (hN : N = [x0, x1]) (S : FnScope N [x0] (defScope st)) (gm : Z.mg wn = some (.ref f)) (hg : Gl Z wn) (hdb : (wn == ("__debug__" : Str)) = false)
    (hZN : Z.N = NTold a0 n) (hv : Vis Z.env.scope n) (hd : (n == ("__debug__" : Str)) = false) (hcd : (n == ("__classdict__" : Str)) = false) (hst : starEach [.Name n p6] Z.env = (false, eval (.Name n p6) Z.env) :: starEach [] Z.env) (he : HotE Z a oe C) (hr : L2H.RoomH (k + 1) Z.A)
    (k1 : PySem.W.kitOne Z.K (.ref C) (.ref aN) = some b1) (k2 : PySem.W.kitOne Z.K (.ref C) (.ref aF) = some b2) (k3 : PySem.W.kitOne Z.K (.ref C) (.ref aL) = some b3) (kv : PySem.W.kitOne Z.K (.ref C) (.type "ValueError") = some true) (hw : Flags3 b1 b2 b3 w)
    (hbody : ∀ (cdv : Value) (s : Shared) (H : Hp), HotE (L2H.cxH CX0 Z.prog Z.w Z.K Z.mg Z.base N wn (defScope st) f cdv Z.A Z.stack s H E0 (a, oe)) a oe C → PSs (L2H.cxH CX0 Z.prog Z.w Z.K Z.mg Z.base N wn (defScope st) f cdv Z.A Z.stack s H E0 (a, oe)) (defBody st) (tWord Z.K C a aN aF aL)) :
    PE Z (.Call (.Name wn p5) [.Name n p6] [] p7) (fun σ H Q => σ[1]? = some (some (.ref a)) ∧ ∀ H', More H H' → Q (.str w) H') := by
  refine ⟨fun pins s σ H Q I ⟨h1, h2⟩ => ?_⟩
  have ha : PA Z [.Name n p6] (tCons (tVar 1) tNil) := pa_cons (pe_var (by rw [hZN]; rfl) hv hd hcd) pa_nil hst
  refine wpAny_Call_Name_kw (ld_glob I hg gm ?_ hdb)
  refine PySem.W.callWith_K (h₀ := Z.base) I.ok.mod.kin F.kp (thn (ha.run p7 pins s σ H (fun vs H1 => vs = [V.ref a] ∧ H1 = H) I ⟨.ref a, h1, rfl, rfl⟩) fun us s1 ⟨vs, H1, I1, r, ev, eH⟩ => ⟨I1.kIn, ?_⟩) hst (by rfl)
  subst ev
  rw [eH] at I1
  refine run_hot F S hb he hr I1 r rfl fun cdv hr' => ⟨_, hbody cdv s1 H ⟨he.hh, List.mem_cons_self, he.z, he.fl⟩, ?_⟩
  subst hN
  exact word_reads k1 k2 k3 kv hw rfl rfl h2
/-- told, with what the text has left -/
structure ToldOk (K : PySem.W.Frag) (mg : Str → Option Value) (k : Nat) (wd : Addr → Str → Prop) : Prop where
  ex : ∃ (st : Stmt) (g CW : Addr) (fdg : FuncData) (p1 p2 p3 p4 p5 p6 p7 p8 p9 p10 : Pos), Fun K "_law_told" "_law_told" st g fdg ∧ Binds K fdg ["_law_deed"] [] ∧ FnScope (NTold "_law_deed" "_law_e") ["_law_deed"] (defScope st) ∧
    defBody st = [.Try [.Return (some (.Call (.Name "_law_deed" p1) [] [] p2)) p3] [.ExceptHandler (some (.Name "WareError" p4)) (some "_law_e") [.Return (some (.Call (.Name "_law_word" p5) [.Name "_law_e" p6] [] p7)) p8] p9] [] [] p10] ∧
    (defScope st).names.lookup ("_law_e" : Str) = some .local ∧ (defScope st).names.lookup ("_law_deed" : Str) = some .local ∧ (defScope st).names.lookup ("WareError" : Str) = some .globalImplicit ∧ mg "WareError" = some (.ref CW) ∧ mg "_law_told" = some (.ref g) ∧
    (∀ C w, wd C w → PySem.W.exmOne K (.ref C) (.ref CW) = some true) ∧
    ∀ (Z : Cx) (a1 C : Addr) (w : Str) (oe : Obj), Z.K = K → Z.mg = mg → Z.N = NTold "_law_deed" "_law_e" → Z.env.scope = defScope st → wd C w → HotE Z a1 oe C → L2H.RoomH k Z.A → PE Z (.Call (.Name "_law_word" p5) [.Name "_law_e" p6] [] p7) (fun σ H Q => σ[1]? = some (some (.ref a1)) ∧ ∀ H', More H H' → Q (.str w) H')
theorem ed_tell {X : Cx} {c P : Addr} {k n : Nat} {params : Arguments} {body : Expr} {scope : Scope} {f : DX} {wd : Addr → Str → Prop} {p lpos pos : Pos} (T : ToldOk X.K X.mg k wd) (TB : LamX.TabB X.base X.mg c P) (hmT : (P, X.env.qual ++ "<lambda>") ∈ Tn.ns) (hu : ∀ p ∈ Tn.ns, p.1 = P → p.2 = X.env.qual ++ "<lambda>") (hr : Room n X.A)
    (hbody : ∀ (A : Around) (outer : List Env) (s : Shared) (H : Hp) (E : XK) (f1 c' : Addr), Room k (A.deeper (LamX.lamEnv X scope s.heap.objs.size f1 c')) → XD (lamN X A outer s H E scope f1 c') E body f) (hn : k + 2 ≤ n := by decide) (hcode : X.env.code = .ref c := by rfl) (L : LamX.LamS X.env.scope scope := by exact LamX.lamS_by (by kernel_rfl)) (hg : Gl X "_law_told" := by rfl)
    (hdef : defaultsOf params X.env = ([], []) := by rfl) (hbind : ∀ (q : Str) (cl : List (Str × Addr)) (pm cv ctv : Value), bindArgs (PySem.W.kla_fn "<lambda>" q params body scope cl pm cv ctv) ⟨[], []⟩ = pure [] := by intro _ _ _ _ _; rfl) :
    ED X (.Call (.Name "_law_told" p) [.Lambda params body scope lpos] [] pos) (dTold wd f) := by
  obtain ⟨st, g, CW, fdg, p1, p2, p3, p4, p5, p6, p7, p8, p9, p10, F, hb, S, hst, l1, l2, l3, gW, gm, hx, hw⟩ := T.ex
  exact ed_told F hb S hst l1 l2 l3 gW (by decide) hx hw hg gm TB hcode hmT hu (hr.mono hn) L hbody hdef hbind
/-- the name of a lambda made in the def x -/
def lamQ (x : Str) : Str := x ++ ".<locals>." ++ "<lambda>"
/-- a def that makes lambdas: its code object is known -/
theorem fnC {P : Program} {w : World} {K : PySem.W.Frag} {mg : Str → Option Value} {base : Heap} {x : Str} {st : Stmt} {f c : Addr} {fd : FuncData} {N ps : List Str} {k : Nat} {φ : Spc} (F : Fun K x x st f fd) (S : FnScope N ps (defScope st)) (hc : fd.code = .ref c) (len : ∀ ds P Z, φ ds P Z → ds.length = ps.length)
    (body : ∀ (A : Around) (outer : List Env) (s : Shared) (H : Hp) (E : XK), Room k (A.deeper (envOfC x (defScope st) s.heap.objs.size f (.ref c))) →
      ∃ g : DS, SsD (cxOf CX0 P w K mg base N x (defScope st) f (.ref c) A outer s H E).nox E0 (defBody st) g ∧ ∀ ds Q Z, φ ds Q Z → g { nx := fun _ => Q .non, rt := Q } (startS N ds)) : FnOk P w K mg base CX0 (k + 1) f fd ps (spD K φ) := by
  obtain ⟨oc, od, kV, doc, pm, an, cdv, ct, osl, rfl, lk, hcd⟩ := F.ex
  have e : cdv = .ref c := hc
  subst e
  refine fn_of lk hcd S (fun vs H Q E ⟨F', ds, P', Z, s, n, r, h, _⟩ => by rw [← r.length]; exact len ds P' Z h) (fun A outer s H vs Q E hr ⟨F', ds, P', Z, sm, n, r, h, fin, _⟩ => ?_)
  obtain ⟨g, hg, q⟩ := body A outer s H E hr
  exact ⟨_, PSs.nox hg, F', H, F', _, _, stR_start N sm n r, q ds P' Z h, ⟨fun ρ' F2 σ' H' p _ S' => fin .non p .non F2 H' S'.ext .non, fun _ _ _ _ z => z.elim, fun _ _ _ _ z => z.elim, fun _ d v F2 _ H' p S' r' => fin d p v F2 H' S'.ext r', fun _ _ _ z => z.elim⟩⟩
end Dy

/-! # The law of two wares. -/
namespace Dy.K4
variable [Tn]
open PySem PySem.Spec PyProof.Rows L2
structure WdOk (wd : Addr → Str → Prop) (aB : Addr) : Prop where
  f : wd aB "BadFloor"
theorem floor_okD {n : Nat} {ls : List W3} {one other : D} (hF : Flr n ls) : floorB (floorD n ls) one other = (wayB one n 0 200 && wayB other n 0 200) := by
  have h1 := hF.n2
  have h2 := hF.n8
  have h3 := hF.len
  have h4 := sortB_of hF.ds
  have h5 : (ls.map wD).all (fun w => wayB w n 1 20 && upB w) = true := by
    rw [List.all_eq_true]
    intro x hx
    obtain ⟨l, hl, rfl⟩ := List.mem_map.mp hx
    obtain ⟨⟨k1, k2, k3⟩, k4, k5⟩ := hF.l l hl
    have k6 : 0 ≤ l.2.1 := by omega
    have k7 : l.1 ≤ (n : Int) - 1 := by omega
    have k8 : l.2.1 ≤ (n : Int) - 1 := by omega
    have k9 : ¬ l.1 = l.2.1 := by omega
    simp [wayB, cnt, upB, k1, k2, k4, k5, k6, k7, k8, k9]
  have h6 : (2 : Int) ≤ n := by omega
  have h7 : (n : Int) ≤ 8 := by omega
  simp only [floorB, floorD, h4, h5, h6, h7, List.length_map, h3, and_self, decide_true, Bool.true_and]
def badFloors : List D := [.tup [.int 1, .lst []], .tup [.int 9, .lst []], .tup [.int 2, .lst [wD (1, 0, 1)]], .tup [.int 2, .lst [wD (0, 1, 0)]], .tup [.int 2, .lst [wD (0, 1, 1), wD (0, 1, 2)]], .tup [.int 2, .lst [.lst [.int 0, .int 1, .int 1]]], .tup [.int 2, .lst [wD (0, 2, 1)]]]
theorem bad_floor : ∀ d ∈ badFloors, FloorF d ∧ floorB d (wD (0, 1, 1)) (wD (0, 1, 1)) = false := by
  intro d hd
  have F : ∀ {p : D} {a : List D}, pl 50 p = true → a.all (pl 50) = true → a.length ≤ 1000 → FloorF (.tup [p, .lst a]) := fun h1 h2 h3 => ⟨_, _, rfl, h1, h2, h3⟩
  simp only [badFloors, List.mem_cons, List.not_mem_nil, or_false] at hd
  rcases hd with rfl | rfl | rfl | rfl | rfl | rfl | rfl
  · exact ⟨F (by simp) (by simp) (by simp), by simp [floorB]⟩
  · exact ⟨F (by simp) (by simp) (by simp), by simp [floorB]⟩
  · exact ⟨F (by simp) (by simp) (by simp), by simp [floorB, wayB, cnt, upB]⟩
  · exact ⟨F (by simp) (by simp) (by simp), by simp [floorB, wayB, cnt, upB]⟩
  · exact ⟨F (by simp) (by simp) (by simp), by simp [floorB, sortB, keyD, HT.lexLt]⟩
  · exact ⟨F (by simp) (by simp) (by simp), by simp [floorB, wayB, cnt, upB]⟩
  · exact ⟨F (by simp) (by simp) (by simp), by simp [floorB, wayB, cnt, upB]⟩
def oddWares : List D := [wD (0, 0, 1), wD (0, 1, -1), wD (0, 1, 201), wD (0, 8, 1), .tup [.int 0, .int 1], .lst [.int 0, .int 1, .int 1]]
theorem odd_ware {n : Nat} (h : n ≤ 8) : ∀ d ∈ oddWares, pl 50 d = true ∧ wayB d n 0 200 = false := by
  intro d hd
  simp only [oddWares, List.mem_cons, List.not_mem_nil, or_false] at hd
  rcases hd with rfl | rfl | rfl | rfl | rfl | rfl
  · exact ⟨by simp, by simp [wayB, cnt]⟩
  · exact ⟨by simp, by simp [wayB, cnt]⟩
  · exact ⟨by simp, by simp [wayB, cnt]⟩
  · exact ⟨by simp, by simp [wayB, cnt]; omega⟩
  · exact ⟨by simp, by simp [wayB]⟩
  · exact ⟨by simp, by simp [wayB]⟩
section
variable {aB : Addr} {Q : D → Prop} {Z : Addr → Prop} {d one other x : D}
theorem form_of (h : floorB d one other = false) {n : Nat} {ls : List W3} {w1 w2 : W3} (e1 : d = floorD n ls) (e2 : one = wD w1) (e3 : other = wD w2) (hF : Flr n ls) (k1 : Wre n w1) (k2 : Wre n w2) : False := by
  subst e1 e2 e3
  rw [sound hF k1 k2] at h
  cases h
theorem both_bad (h1 : FloorF d) (h2 : pl 50 one = true) (h3 : pl 50 other = true) (h : floorB d one other = false) (z : Z aB) : sp_both_go aB [d, one, other] Q Z :=
  ⟨_, _, _, rfl, h1, h2, h3, fun _ => z, fun n ls w1 w2 e1 e2 e3 hF k1 k2 => (form_of h e1 e2 e3 hF k1 k2).elim⟩
theorem double_bad (h1 : FloorF d) (h2 : pl 50 one = true) (h3 : pl 50 other = true) (hx : DblF x) (h : floorB d one other = false) (z : Z aB) : sp_double_goes aB [d, one, other, x] Q Z :=
  ⟨_, _, _, _, rfl, h1, h2, h3, hx, fun _ => z, fun n ls w1 w2 e1 e2 e3 hF k1 k2 => (form_of h e1 e2 e3 hF k1 k2).elim⟩
theorem cut_bad (h1 : FloorF d) (h2 : pl 50 one = true) (h3 : pl 50 other = true) (hx : CutF x) (h : floorB d one other = false) (z : Z aB) : sp_cut_bars aB [d, one, other, x] Q Z :=
  ⟨_, _, _, _, rfl, h1, h2, h3, hx, fun _ => z, fun n ls w1 w2 e1 e2 e3 hF k1 k2 => (form_of h e1 e2 e3 hF k1 k2).elim⟩
end
theorem dblF_non : DblF .non := ⟨by simp, fun l e => nomatch e⟩
theorem cutF_non : CutF .non := ⟨by simp, fun l e => nomatch e⟩
/-- what both_go tells, whole -/
def TW (n : Nat) (ls : List W3) (w1 w2 : W3) (d : D) : Prop := (∃ xs ys, Dbl ls w1 w2 xs ys ∧ d = .tup [.str "double", .tup [rowD xs, rowD ys]]) ∨ ∃ S, Cut n ls w1 w2 S ∧ d = .tup [.str "cut", intsD S]
theorem both_go_tw {aB : Addr} {n : Nat} {ls : List W3} {w1 w2 : W3} {Q : D → Prop} {Z : Addr → Prop} (hF : Flr n ls) (k1 : Wre n w1) (k2 : Wre n w2) (h : ∀ d, TW n ls w1 w2 d → Q d) : sp_both_go aB [floorD n ls, wD w1, wD w2] Q Z :=
  both_go_at hF k1 k2 (fun xs ys hD => h _ (.inl ⟨xs, ys, hD, rfl⟩)) (fun S hS => h _ (.inr ⟨S, hS, rfl⟩))
def sp_law : Spc := fun ds Q _ => ∃ ns : List Int, ds = [.scr ns] ∧ ns.length ≤ 1000 ∧ Q (.bl true)
theorem len_law : ∀ ds Q Z, sp_law ds Q Z → ds.length = 1 := len1 (fun ds Q Z ⟨_, e, _⟩ => ⟨_, e⟩)
def g_law (a_BadFloor : Addr) (wd : Addr → Str → Prop) : DS := (dSeq2 (dFor (dRng1 (dCons (dCB max2D (dCons (dC (.int 1)) (dCons (dCB min2D (dCons (dC (.int 4)) (dCons (dCB lenD (dCons (dVar 0) dNil)) dNil))) dNil))) dNil)) (gdName 1)
    (dSeq2 (dSet 2 (dCall sp__law_drawn (dCons (dCall sp__law_cell (dCons (dVar 0) (dCons (dVar 1) dNil))) (dCons (dVar 1) dNil))))
    (dSeq2 (dSet 3 (dCall sp__law_floor (dCons (dVar 2) dNil)))
    (dSeq2 (dSet 4 (dCall sp__law_ware (dCons (dOp fdivD (dVar 2) (dC (.int 512))) (dCons (dOp ixD (dVar 3) (dC (.int 0))) dNil))))
    (dSeq2 (dSet 5 (dCall sp__law_ware (dCons (dOp fdivD (dVar 2) (dOp powD (dC (.int 2)) (dC (.int 30)))) (dCons (dOp ixD (dVar 3) (dC (.int 0))) dNil))))
    (dSeq2 (dSet 6 (dTold wd (dXCall (sp_both_go a_BadFloor) (dCons (dVar 3) (dCons (dVar 4) (dCons (dVar 5) dNil))))))
    (dSeq2 (dIf (dOrT (dNotT (dTest (dIsi "tuple" (dVar 6)))) (dTest (dOp neD (dCB lenD (dCons (dVar 6) dNil)) (dC (.int 2)))))
    (dRet (dC (.bl false)))
    dSkip)
    (dSeq2 (dSet 7 (dCB anyD (dCons (dFz (dLc (dSeq (dCall sp__law_cuts (dCons (dOp ixD (dVar 3) (dC (.int 0))) dNil))) (gdName 12) dYes (dCall sp__law_bars (dCons (dVar 3) (dCons (dVar 4) (dCons (dVar 5) (dCons (dVar 12) dNil))))) [12])) dNil)))
    (dSeq2 (dIf (dTest (dOp eqD (dOp ixD (dVar 6) (dC (.int 0))) (dC (.str "cut"))))
    (dSeq2 (dIf (dOrT (dNotT (dTest (dVar 7))) (dNotT (dTest (dCall sp__law_bars (dCons (dVar 3) (dCons (dVar 4) (dCons (dVar 5) (dCons (dOp ixD (dVar 6) (dC (.int 1))) dNil))))))))
    (dRet (dC (.bl false)))
    dSkip)
    (dIf (dTest (dOp notBD (dCall (sp_cut_bars a_BadFloor) (dCons (dVar 3) (dCons (dVar 4) (dCons (dVar 5) (dCons (dOp ixD (dVar 6) (dC (.int 1))) dNil))))) (dC (.bl true))))
    (dRet (dC (.bl false)))
    dSkip))
    (dIf (dOrT (dTest (dOp neD (dOp ixD (dVar 6) (dC (.int 0))) (dC (.str "double")))) (dOrT (dTest (dVar 7)) (dNotT (dTest (dCall sp__law_goes (dCons (dVar 3) (dCons (dVar 4) (dCons (dVar 5) (dCons (dOp ixD (dVar 6) (dC (.int 1))) dNil)))))))))
    (dRet (dC (.bl false)))
    (dIf (dNotT (dTest (dCB allD (dCons (dFz (dLc (dSeq (dOp ixD (dVar 6) (dC (.int 1)))) (gdName 13) dYes (dCB allD (dCons (dFz (dLc (dSeq (dVar 13)) (gdName 14) dYes (dOp ltD (dOp ixD (dVar 14) (dC (.int 1))) (dC (.int 3))) [14])) dNil)) [13])) dNil))))
    (dRet (dC (.bl false)))
    (dIf (dTest (dOp notBD (dCall (sp_double_goes a_BadFloor) (dCons (dVar 3) (dCons (dVar 4) (dCons (dVar 5) (dCons (dOp ixD (dVar 6) (dC (.int 1))) dNil))))) (dC (.bl true))))
    (dRet (dC (.bl false)))
    dSkip))))
    (dSeq2 (dIf (dNotT (dTest (dCall sp__law_looked_right (dCons (dVar 3) (dCons (dVar 4) (dCons (dVar 5) (dCons (dOp fdivD (dVar 2) (dOp powD (dC (.int 2)) (dC (.int 50)))) dNil)))))))
    (dRet (dC (.bl false)))
    dSkip)
    (dSeq2 (dSet 8 (dLst (dCons (dTup (dCons (dC (.int 1)) (dCons (dLst dNil) dNil))) (dCons (dTup (dCons (dC (.int 9)) (dCons (dLst dNil) dNil))) (dCons (dTup (dCons (dC (.int 2)) (dCons (dLst (dCons (dTup (dCons (dC (.int 1)) (dCons (dC (.int 0)) (dCons (dC (.int 1)) dNil)))) dNil)) dNil))) (dCons (dTup (dCons (dC (.int 2)) (dCons (dLst (dCons (dTup (dCons (dC (.int 0)) (dCons (dC (.int 1)) (dCons (dC (.int 0)) dNil)))) dNil)) dNil))) dNil))))))
    (dSeq2 (dSet 8 (dOp addD (dVar 8) (dLst (dCons (dTup (dCons (dC (.int 2)) (dCons (dLst (dCons (dTup (dCons (dC (.int 0)) (dCons (dC (.int 1)) (dCons (dC (.int 1)) dNil)))) (dCons (dTup (dCons (dC (.int 0)) (dCons (dC (.int 1)) (dCons (dC (.int 2)) dNil)))) dNil))) dNil))) (dCons (dTup (dCons (dC (.int 2)) (dCons (dLst (dCons (dLst (dCons (dC (.int 0)) (dCons (dC (.int 1)) (dCons (dC (.int 1)) dNil)))) dNil)) dNil))) (dCons (dTup (dCons (dC (.int 2)) (dCons (dLst (dCons (dTup (dCons (dC (.int 0)) (dCons (dC (.int 2)) (dCons (dC (.int 1)) dNil)))) dNil)) dNil))) dNil))))))
    (dSeq2 (dSet 9 (dOp ixD (dVar 8) (dOp modD (dOp fdivD (dVar 2) (dOp powD (dC (.int 2)) (dC (.int 60)))) (dC (.int 7)))))
    (dSeq2 (dSet 10 (dOp ixD (dLst (dCons (dTup (dCons (dC (.int 0)) (dCons (dC (.int 0)) (dCons (dC (.int 1)) dNil)))) (dCons (dTup (dCons (dC (.int 0)) (dCons (dC (.int 1)) (dCons (dUn negD (dC (.int 1))) dNil)))) (dCons (dTup (dCons (dC (.int 0)) (dCons (dC (.int 1)) (dCons (dC (.int 201)) dNil)))) (dCons (dTup (dCons (dC (.int 0)) (dCons (dC (.int 8)) (dCons (dC (.int 1)) dNil)))) (dCons (dTup (dCons (dC (.int 0)) (dCons (dC (.int 1)) dNil))) (dCons (dLst (dCons (dC (.int 0)) (dCons (dC (.int 1)) (dCons (dC (.int 1)) dNil)))) dNil))))))) (dOp modD (dOp fdivD (dVar 2) (dOp powD (dC (.int 2)) (dC (.int 64)))) (dC (.int 6)))))
    (dSeq2 (dSetL 11 (dLstL (dCons (dTold wd (dXCall (sp_both_go a_BadFloor) (dCons (dVar 9) (dCons (dTup (dCons (dC (.int 0)) (dCons (dC (.int 1)) (dCons (dC (.int 1)) dNil)))) (dCons (dTup (dCons (dC (.int 0)) (dCons (dC (.int 1)) (dCons (dC (.int 1)) dNil)))) dNil))))) dNil)))
    (dSeq2 (dApp 11 (dTold wd (dXCall (sp_both_go a_BadFloor) (dCons (dVar 3) (dCons (dVar 10) (dCons (dVar 5) dNil))))))
    (dSeq2 (dApp 11 (dTold wd (dXCall (sp_double_goes a_BadFloor) (dCons (dVar 3) (dCons (dVar 4) (dCons (dVar 10) (dCons (dC .non) dNil)))))))
    (dSeq2 (dApp 11 (dTold wd (dXCall (sp_cut_bars a_BadFloor) (dCons (dVar 3) (dCons (dVar 10) (dCons (dVar 4) (dCons (dC .non) dNil)))))))
    (dFrz 11 (dIf (dTest (dOp neD (dVar 11) (dOp mulD (dLst (dCons (dC (.str "BadFloor")) dNil)) (dC (.int 4)))))
    (dRet (dC (.bl false)))
    dSkip))))))))))))))))))))
    (dRet (dC (.bl true))))
theorem pure_law (aB : Addr) (wd : Addr → Str → Prop) (W : WdOk wd aB) : ∀ ds Q Z, sp_law ds Q Z → g_law aB wd { nx := fun _ => Q .non, rt := Q } (startS ["_law_script", "_law_k", "_law_more", "_law_floor_here", "_law_one", "_law_other", "_law_told_here", "_law_barred", "_law_bad", "_law_none", "_law_odd", "_law_some", "_law_cut", "_law_row", "_law_much"] ds) := by
  rintro ds Q Z ⟨ns, rfl, hns, h⟩
  have sD : PyData.strOk "double" = true := by decide +kernel
  have sC : PyData.strOk "cut" = true := by decide +kernel
  have sB : PyData.strOk "BadFloor" = true := by decide +kernel
  simp only [g_law, dSeq2, dSeq, and_assoc]
  simp
  generalize hm : (if (if (ns.length : Int) < 4 then (ns.length : Int) else 4) > 1 then (if (ns.length : Int) < 4 then (ns.length : Int) else 4) else 1) = m
  have m1 : 1 ≤ m := by rw [← hm]; split <;> omega
  have m4 : m ≤ 4 := by rw [← hm]; split <;> (try split) <;> omega
  refine ⟨by omega, by omega, for_E (fun done left ρ => ∃ x1 x2 x3 x4 x5 x6 x7 x8 x9 x10 x11 x12 x13 x14, ρ = [.d (.scr ns), x1, x2, x3, x4, x5, x6, x7, x8, x9, x10, x11, x12, x13, x14]) ⟨_, _, _, _, _, _, _, _, _, _, _, _, _, _, rfl⟩ ?_ ?_⟩
  · rintro done k left ρ N e ⟨x1, x2, x3, x4, x5, x6, x7, x8, x9, x10, x11, x12, x13, x14, rfl⟩ hN
    have hk : k < m.toNat := List.mem_range.mp (by rw [← e]; simp)
    simp [and_assoc]
    refine ⟨ns, k, rfl, by omega, hns, fun v => drawn_at fun more => ⟨more, rfl, fun n ls hF => ?_⟩⟩
    have n2 := hF.n2
    have n8 := hF.n8
    have ln := hF.len
    simp [floorD, and_assoc]
    refine ⟨divC (by decide) (by decide), _, n, rfl, n2, n8, fun w1 k1 => ?_⟩
    simp [floorD, and_assoc]
    refine ⟨by unfold CPow; decide, divSm (by decide) (small_lt (by decide)), _, n, rfl, n2, n8, fun w2 k2 => ?_⟩
    refine both_go_tw hF k1 k2 fun d hd => ?_
    rcases hd with ⟨xs, ys, hD, rfl⟩ | ⟨S, hS, rfl⟩
    · simp [and_assoc]
      refine .inl ⟨n, rfl, n8, ?_⟩
      have hcl := cuts_le (Nat.le_refl n)
      have hcp : 2 ^ n ≤ 2 ^ 8 := Nat.pow_le_pow_right (by decide) n8
      simp [and_assoc]
      refine ⟨by omega, lc_mapE (fun S => .bl (barsB ls w1 w2 S)) (fun S hS Q q => ?_) ⟨(M40.cuts n).map (barsB ls w1 w2), by simp, ?_⟩⟩
      · simp
        exact ⟨n, ls, w1, w2, S, rfl, by omega, q⟩
      · have ne : ¬ Str.ofString "double" = Str.ofString "cut" := by decide +kernel
        have hb : ¬ true ∈ (M40.cuts n).map (barsB ls w1 w2) := fun z => by
          obtain ⟨S, hS, e⟩ := List.mem_map.mp z
          rw [dbl_bars hD hS] at e
          cases e
        have hR := dbl_rows hD
        rw [if_neg ne, if_neg hb]
        refine ⟨sD, sC, sD, n, ls, w1, w2, xs, ys, rfl, hF, k1, k2, hR, ?_⟩
        rw [dbl_goes hD]
        simp
        refine lc_mapE (xs := [xs, ys]) (e := rowD) (fun _ => .bl true) (fun r hr Q q => ?_) ⟨[true, true], rfl, ?_⟩
        · have hr2 : ∀ q ∈ r, Lat 2 100 q := by
            simp only [List.mem_cons, List.not_mem_nil, or_false] at hr
            rcases hr with rfl | rfl
            · exact hD.lx
            · exact hD.ly
          have hrl : r.length ≤ 1000000 := by
            simp only [List.mem_cons, List.not_mem_nil, or_false] at hr
            rcases hr with rfl | rfl
            · have := hR.lx; omega
            · have := hR.ly; omega
          simp [rowD]
          refine ⟨hrl, lc_mapE (fun _ => .bl true) (fun q hq Q p => ?_) ⟨r.map fun _ => true, by simp, ?_⟩⟩
          · have := lat_den (hr2 q hq)
            have h3 : (q.den : Int) < 3 := by omega
            simp [fr, h3]
            exact p
          · have e : (r.all fun _ => true) = true := List.all_eq_true.mpr fun _ _ => rfl
            simpa [e] using q
        simp
        refine double_goes_at hF k1 k2 hR ?_
        rw [dbl_goes hD]
        simp
        refine ⟨by unfold CPow; decide, divSm (by decide) (small_lt (by decide)), n, ls, w1, w2, _, rfl, hF, k1, k2, ?_⟩
        simp [and_assoc]
        refine ⟨by unfold CPow; decide, divSm (by decide) (small_lt (by decide)), ix_any (K := fun d => FloorF d ∧ floorB d (wD (0, 1, 1)) (wD (0, 1, 1)) = false) (by omega) (by simp; omega) bad_floor fun d1 hd1 => ⟨by unfold CPow; decide, divSm (by decide) (small_lt (by decide)), ix_any (K := fun d => pl 50 d = true ∧ wayB d n 0 200 = false) (by omega) (by simp; omega) (odd_ware n8) fun d2 hd2 => ?_⟩⟩
        have hFF := floorD_form (n := n) (ls := ls) (by omega)
        have lB : lay 59 (.str "BadFloor") = true := by simp [lay, sB]
        have eB : eqv (.lst [.str "BadFloor", .str "BadFloor", .str "BadFloor", .str "BadFloor"]) (.lst [.str "BadFloor", .str "BadFloor", .str "BadFloor", .str "BadFloor"]) = true := eqv_self (by simp [lay, sB])
        have w1F : pl 50 (wD w1) = true := by simp
        have w2F : pl 50 (wD w2) = true := by simp
        refine both_bad hd1.1 (by simp) (by simp) hd1.2 ⟨_, W.f, ?_⟩
        refine both_bad hFF hd2.1 w2F ((floor_okD hF).trans (by rw [hd2.2]; rfl)) ⟨_, W.f, ?_⟩
        refine double_bad hFF w1F hd2.1 dblF_non ((floor_okD hF).trans (by rw [hd2.2, Bool.and_false])) ⟨_, W.f, ?_⟩
        refine cut_bad hFF hd2.1 w1F cutF_non ((floor_okD hF).trans (by rw [hd2.2]; rfl)) ⟨_, W.f, ?_⟩
        refine ⟨fun x hx => by rcases hx with (rfl | rfl) | rfl <;> exact lB, sB, sB, ?_⟩
        rw [if_pos eB]
        exact hN _ ⟨_, _, _, _, _, _, _, _, _, _, _, _, _, _, rfl⟩
    · simp [and_assoc]
      refine .inl ⟨n, rfl, n8, ?_⟩
      have hcl := cuts_le (Nat.le_refl n)
      have hcp : 2 ^ n ≤ 2 ^ 8 := Nat.pow_le_pow_right (by decide) n8
      simp [and_assoc]
      refine ⟨by omega, lc_mapE (fun S => .bl (barsB ls w1 w2 S)) (fun S hS Q q => ?_) ⟨(M40.cuts n).map (barsB ls w1 w2), by simp, ?_⟩⟩
      · simp
        exact ⟨n, ls, w1, w2, S, rfl, by omega, q⟩
      · have hbS : barsB ls w1 w2 S = true := bars_iff.mpr hS.bar
        have hSm := cut_mem hS.up hS.inn
        have hSl := cut_len hSm
        have hb : true ∈ (M40.cuts n).map (barsB ls w1 w2) := List.mem_map.mpr ⟨S, hSm, hbS⟩
        rw [if_pos hb]
        refine ⟨sC, n, ls, w1, w2, S, rfl, by omega, ?_⟩
        rw [hbS]
        simp
        refine cut_bars_at hF k1 k2 hS.up hS.inn (by omega) ?_
        rw [hbS]
        simp
        refine ⟨by unfold CPow; decide, divSm (by decide) (small_lt (by decide)), n, ls, w1, w2, _, rfl, hF, k1, k2, ?_⟩
        simp [and_assoc]
        refine ⟨by unfold CPow; decide, divSm (by decide) (small_lt (by decide)), ix_any (K := fun d => FloorF d ∧ floorB d (wD (0, 1, 1)) (wD (0, 1, 1)) = false) (by omega) (by simp; omega) bad_floor fun d1 hd1 => ⟨by unfold CPow; decide, divSm (by decide) (small_lt (by decide)), ix_any (K := fun d => pl 50 d = true ∧ wayB d n 0 200 = false) (by omega) (by simp; omega) (odd_ware n8) fun d2 hd2 => ?_⟩⟩
        have hFF := floorD_form (n := n) (ls := ls) (by omega)
        have lB : lay 59 (.str "BadFloor") = true := by simp [lay, sB]
        have eB : eqv (.lst [.str "BadFloor", .str "BadFloor", .str "BadFloor", .str "BadFloor"]) (.lst [.str "BadFloor", .str "BadFloor", .str "BadFloor", .str "BadFloor"]) = true := eqv_self (by simp [lay, sB])
        have w1F : pl 50 (wD w1) = true := by simp
        have w2F : pl 50 (wD w2) = true := by simp
        refine both_bad hd1.1 (by simp) (by simp) hd1.2 ⟨_, W.f, ?_⟩
        refine both_bad hFF hd2.1 w2F ((floor_okD hF).trans (by rw [hd2.2]; rfl)) ⟨_, W.f, ?_⟩
        refine double_bad hFF w1F hd2.1 dblF_non ((floor_okD hF).trans (by rw [hd2.2, Bool.and_false])) ⟨_, W.f, ?_⟩
        refine cut_bad hFF hd2.1 w1F cutF_non ((floor_okD hF).trans (by rw [hd2.2]; rfl)) ⟨_, W.f, ?_⟩
        refine ⟨fun x hx => by rcases hx with (rfl | rfl) | rfl <;> exact lB, sB, sB, ?_⟩
        rw [if_pos eB]
        exact hN _ ⟨_, _, _, _, _, _, _, _, _, _, _, _, _, _, rfl⟩
  · rintro ρ ⟨x1, x2, x3, x4, x5, x6, x7, x8, x9, x10, x11, x12, x13, x14, rfl⟩
    simpa using h
end Dy.K4

/-! # The program's text, def by def. -/
namespace Dy.K4
variable [Tn]
open PySem PySem.Spec PyProof.Rows L2
def topS (i : Nat) : Stmt := PySem.Challenge.pw_sharedways_k40_whole_two_on_lines.main.body.getD i (.Pass ⟨0, 0, 0, 0⟩)
def inClass (s : Stmt) (i : Nat) : Stmt := match s with
  | .ClassDef _ _ _ body .. => body.getD i (.Pass ⟨0, 0, 0, 0⟩)
  | _ => .Pass ⟨0, 0, 0, 0⟩
structure Blt (mg : Str → Option Value) : Prop where
  isinstance : mg "isinstance" = none
  n_len : mg "len" = none
  n_abs : mg "abs" = none
  n_all : mg "all" = none
  n_any : mg "any" = none
  n_sum : mg "sum" = none
  n_int : mg "int" = none
  n_bool : mg "bool" = none
  n_tuple : mg "tuple" = none
  n_list : mg "list" = none
  n_range : mg "range" = none
  n_enumerate : mg "enumerate" = none
  n_zip : mg "zip" = none
  n_max : mg "max" = none
  n_min : mg "min" = none
  n_ValueError : mg "ValueError" = none
/-- an exception's class that stands in the module -/
structure ExcD (K : PySem.W.Frag) (mg : Str → Option Value) (x : Str) (C : Addr) : Prop where
  g : mg x = some (.ref C)
  k : PySem.W.keepIn K (.ref C) = true
  x : PySem.W.excIn K C [.type "ValueError", .type "Exception", .type "BaseException", .type "object"] "ValueError.__new__" = true
  b : PySem.W.subIn K (.ref C) (.type "BaseException") = some true
  t : PySem.W.typeIn K (.ref C) = some (.type "type")
section
variable {P : Program} {w : World} {K : PySem.W.Frag} {mg : Str → Option Value} {base : Heap}
abbrev s_common : Stmt := topS 7
abbrev N_common : List Str := ["one", "other"]
theorem sc_common : FnScope N_common ["one", "other"] (defScope s_common) := ⟨rfl, rfl, rfl, by decide +kernel, rfl, by decide +kernel, by decide +kernel⟩
theorem ok_common (B : Blt mg) {f : Addr} {fd : FuncData} (F : Fun K "common" "common" s_common f fd) (gm : mg "common" = some (.ref f)) : DefD P w K mg base CX0 "common" 1 sp_common := by
  refine fnD F sc_common gm (F.binds fun _ _ _ _ _ _ us hl => match us, hl with | [_, _], _ => rfl) len_common (fun cdv A outer s H E hr => ⟨g_common, ?_, pure_common⟩)
  exact (sd_cons (sd_while PassesOwn.never (td_cmp oGt (ed_var 1) ed_int (nomark _))
    (sd_one (sd_par 0 1 rfl sc_common.nd (ad_cons (ed_var 1) (ad_cons (ed_op oMod (ed_var 0) (ed_var 1)) ad_nil)))))
    (sd_one (sd_ret (ed_var 0))))
abbrev s_fraction : Stmt := topS 8
abbrev N_fraction : List Str := ["top", "under", "part"]
theorem sc_fraction : FnScope N_fraction ["top", "under"] (defScope s_fraction) := ⟨rfl, rfl, rfl, by decide +kernel, rfl, by decide +kernel, by decide +kernel⟩
theorem ok_fraction (B : Blt mg) {f : Addr} {fd : FuncData} (F : Fun K "fraction" "fraction" s_fraction f fd) (gm : mg "fraction" = some (.ref f)) (D_common : DefD P w K mg base CX0 "common" 1 sp_common) : DefD P w K mg base CX0 "fraction" 2 sp_fraction := by
  refine fnD F sc_fraction gm (F.binds fun _ _ _ _ _ _ us hl => match us, hl with | [_, _], _ => rfl) len_fraction (fun cdv A outer s H E hr => ⟨g_fraction, ?_, pure_fraction⟩)
  exact (sd_cons (sd_set 2 sc_fraction.nd (ed_call D_common hr pass0 (ad_cons (ed_callB (cAbs) B.n_abs (by decide +kernel) (ad_cons (ed_var 0) ad_nil)) (ad_cons (ed_var 1) ad_nil))))
    (sd_one (sd_ret (ed_tup (ad_cons (ed_op oFdiv (ed_var 0) (ed_var 2)) (ad_cons (ed_op oFdiv (ed_var 1) (ed_var 2)) ad_nil))))))
abbrev s_plus : Stmt := topS 9
abbrev N_plus : List Str := ["one", "other"]
theorem sc_plus : FnScope N_plus ["one", "other"] (defScope s_plus) := ⟨rfl, rfl, rfl, by decide +kernel, rfl, by decide +kernel, by decide +kernel⟩
theorem ok_plus (B : Blt mg) {f : Addr} {fd : FuncData} (F : Fun K "plus" "plus" s_plus f fd) (gm : mg "plus" = some (.ref f)) (D_fraction : DefD P w K mg base CX0 "fraction" 2 sp_fraction) : DefD P w K mg base CX0 "plus" 3 sp_plus := by
  refine fnD F sc_plus gm (F.binds fun _ _ _ _ _ _ us hl => match us, hl with | [_, _], _ => rfl) len_plus (fun cdv A outer s H E hr => ⟨g_plus, ?_, pure_plus⟩)
  exact (sd_one (sd_ret (ed_call D_fraction hr pass0 (ad_cons (ed_op oAdd (ed_op oMul (ed_ix (ed_var 0) ed_int) (ed_ix (ed_var 1) ed_int)) (ed_op oMul (ed_ix (ed_var 1) ed_int) (ed_ix (ed_var 0) ed_int))) (ad_cons (ed_op oMul (ed_ix (ed_var 0) ed_int) (ed_ix (ed_var 1) ed_int)) ad_nil)))))
abbrev s_minus : Stmt := topS 10
abbrev N_minus : List Str := ["one", "other"]
theorem sc_minus : FnScope N_minus ["one", "other"] (defScope s_minus) := ⟨rfl, rfl, rfl, by decide +kernel, rfl, by decide +kernel, by decide +kernel⟩
theorem ok_minus (B : Blt mg) {f : Addr} {fd : FuncData} (F : Fun K "minus" "minus" s_minus f fd) (gm : mg "minus" = some (.ref f)) (D_fraction : DefD P w K mg base CX0 "fraction" 2 sp_fraction) : DefD P w K mg base CX0 "minus" 3 sp_minus := by
  refine fnD F sc_minus gm (F.binds fun _ _ _ _ _ _ us hl => match us, hl with | [_, _], _ => rfl) len_minus (fun cdv A outer s H E hr => ⟨g_minus, ?_, pure_minus⟩)
  exact (sd_one (sd_ret (ed_call D_fraction hr pass0 (ad_cons (ed_op oSub (ed_op oMul (ed_ix (ed_var 0) ed_int) (ed_ix (ed_var 1) ed_int)) (ed_op oMul (ed_ix (ed_var 1) ed_int) (ed_ix (ed_var 0) ed_int))) (ad_cons (ed_op oMul (ed_ix (ed_var 0) ed_int) (ed_ix (ed_var 1) ed_int)) ad_nil)))))
abbrev s_is_less : Stmt := topS 11
abbrev N_is_less : List Str := ["one", "other"]
theorem sc_is_less : FnScope N_is_less ["one", "other"] (defScope s_is_less) := ⟨rfl, rfl, rfl, by decide +kernel, rfl, by decide +kernel, by decide +kernel⟩
theorem ok_is_less (B : Blt mg) {f : Addr} {fd : FuncData} (F : Fun K "is_less" "is_less" s_is_less f fd) (gm : mg "is_less" = some (.ref f)) : DefD P w K mg base CX0 "is_less" 1 sp_is_less := by
  refine fnD F sc_is_less gm (F.binds fun _ _ _ _ _ _ us hl => match us, hl with | [_, _], _ => rfl) len_is_less (fun cdv A outer s H E hr => ⟨g_is_less, ?_, pure_is_less⟩)
  exact (sd_one (sd_ret (ed_cmp (oLt hr.units0) (ed_op oMul (ed_ix (ed_var 0) ed_int) (ed_ix (ed_var 1) ed_int)) (ed_op oMul (ed_ix (ed_var 1) ed_int) (ed_ix (ed_var 0) ed_int)) (nomark _))))
abbrev s_total : Stmt := topS 12
abbrev N_total : List Str := ["some", "found", "one"]
theorem sc_total : FnScope N_total ["some"] (defScope s_total) := ⟨rfl, rfl, rfl, by decide +kernel, rfl, by decide +kernel, by decide +kernel⟩
theorem ok_total (B : Blt mg) {f : Addr} {fd : FuncData} (F : Fun K "total" "total" s_total f fd) (gm : mg "total" = some (.ref f)) (C_NOUGHT : Gc K mg "NOUGHT" c_NOUGHT) (D_plus : DefD P w K mg base CX0 "plus" 3 sp_plus) : DefD P w K mg base CX0 "total" 4 sp_total := by
  refine fnD F sc_total gm (F.binds fun _ _ _ _ _ _ us hl => match us, hl with | [_], _ => rfl) len_total (fun cdv A outer s H E hr => ⟨g_total, ?_, pure_total⟩)
  exact (sd_cons (sd_set 1 sc_total.nd (ed_glob C_NOUGHT))
    (sd_cons (sd_for PassesOwn.never rfl (id_seq (ed_var 0)) (gd_name 2 sc_total.nd)
    (sd_one (sd_set 1 sc_total.nd (ed_call D_plus hr pass0 (ad_cons (ed_var 1) (ad_cons (ed_var 2) ad_nil))))))
    (sd_one (sd_ret (ed_var 1)))))
abbrev s_is_fraction : Stmt := topS 13
abbrev N_is_fraction : List Str := ["thing", "part"]
theorem sc_is_fraction : FnScope N_is_fraction ["thing"] (defScope s_is_fraction) := ⟨rfl, rfl, rfl, by decide +kernel, rfl, by decide +kernel, by decide +kernel⟩
theorem ok_is_fraction (B : Blt mg) {f : Addr} {fd : FuncData} (F : Fun K "is_fraction" "is_fraction" s_is_fraction f fd) (gm : mg "is_fraction" = some (.ref f)) (D_common : DefD P w K mg base CX0 "common" 1 sp_common) : DefD P w K mg base CX0 "is_fraction" 2 sp_is_fraction := by
  refine fnD F sc_is_fraction gm (F.binds fun _ _ _ _ _ _ us hl => match us, hl with | [_], _ => rfl) len_is_fraction (fun cdv A outer s H E hr => ⟨g_is_fraction, ?_, pure_is_fraction⟩)
  exact (sd_cons (sd_if (PW.pt (wd_or (td_not (td_val (ed_isi (Ts := "tuple") (ed_var 0) (by decide) B.isinstance B.n_tuple (by decide +kernel)))) (wd_or1 (td_cmp (oNe hr.units) (ed_callB (cLen) B.n_len PySem.boot_len (ad_cons (ed_var 0) ad_nil)) ed_int (nomark _)))))
    (sd_one (sd_ret ed_bl))
    sd_nil)
    (sd_cons (sd_if (td_not (td_val (ed_callB (cAll rfl) B.n_all (by decide +kernel) (ad_cons (ed_fresh (ld_lc (own := [("part", 1)]) rfl sc_is_fraction.nd (id_seq (ed_var 0)) (blkOk_by (N := N_is_fraction) (sc := defScope s_is_fraction) (by decide +kernel)) (fun _ _ _ _ _ => (gd_name 1 sc_is_fraction.nd)) (fun _ _ _ _ _ => tsd_nil) (fun _ _ _ _ _ => (ed_and (ed_isi (Ts := "int") (ed_var 1) (by decide) B.isinstance B.n_int (by decide +kernel)) (ed_one (ed_not (ed_isi (Ts := "bool") (ed_var 1) (by decide) B.isinstance B.n_bool (by decide +kernel)))))))) ad_nil))))
    (sd_one (sd_ret ed_bl))
    sd_nil)
    (sd_one (sd_ret (ed_and (ed_cmp oGt (ed_ix (ed_var 0) ed_int) ed_int (nomark _)) (ed_one (ed_cmp (oEq hr.units) (ed_call D_common hr pass0 (ad_cons (ed_callB (cAbs) B.n_abs (by decide +kernel) (ad_cons (ed_ix (ed_var 0) ed_int) ad_nil)) (ad_cons (ed_ix (ed_var 0) ed_int) ad_nil))) ed_int (nomark _))))))))
abbrev s_is_count : Stmt := topS 16
abbrev N_is_count : List Str := ["thing", "least", "most"]
theorem sc_is_count : FnScope N_is_count ["thing", "least", "most"] (defScope s_is_count) := ⟨rfl, rfl, rfl, by decide +kernel, rfl, by decide +kernel, by decide +kernel⟩
theorem ok_is_count (B : Blt mg) {f : Addr} {fd : FuncData} (F : Fun K "is_count" "is_count" s_is_count f fd) (gm : mg "is_count" = some (.ref f)) : DefD P w K mg base CX0 "is_count" 1 sp_is_count := by
  refine fnD F sc_is_count gm (F.binds fun _ _ _ _ _ _ us hl => match us, hl with | [_, _, _], _ => rfl) len_is_count (fun cdv A outer s H E hr => ⟨g_is_count, ?_, pure_is_count⟩)
  exact (sd_one (sd_ret (ed_and (ed_isi (Ts := "int") (ed_var 0) (by decide) B.isinstance B.n_int (by decide +kernel)) (ed_and (ed_not (ed_isi (Ts := "bool") (ed_var 0) (by decide) B.isinstance B.n_bool (by decide +kernel))) (ed_one (ed_chain oLe oLe (ed_var 1) (ed_var 0) (ed_var 2)))))))
abbrev s_is_way : Stmt := topS 17
abbrev N_is_way : List Str := ["thing", "places", "least", "most", "place"]
theorem sc_is_way : FnScope N_is_way ["thing", "places", "least", "most"] (defScope s_is_way) := ⟨rfl, rfl, rfl, by decide +kernel, rfl, by decide +kernel, by decide +kernel⟩
theorem ok_is_way (B : Blt mg) {f : Addr} {fd : FuncData} (F : Fun K "is_way" "is_way" s_is_way f fd) (gm : mg "is_way" = some (.ref f)) (D_is_count : DefD P w K mg base CX0 "is_count" 1 sp_is_count) : DefD P w K mg base CX0 "is_way" 2 sp_is_way := by
  refine fnD F sc_is_way gm (F.binds fun _ _ _ _ _ _ us hl => match us, hl with | [_, _, _, _], _ => rfl) len_is_way (fun cdv A outer s H E hr => ⟨g_is_way, ?_, pure_is_way⟩)
  exact (sd_cons (sd_if (PW.pt (wd_or (td_not (td_val (ed_isi (Ts := "tuple") (ed_var 0) (by decide) B.isinstance B.n_tuple (by decide +kernel)))) (wd_or1 (td_cmp (oNe hr.units) (ed_callB (cLen) B.n_len PySem.boot_len (ad_cons (ed_var 0) ad_nil)) ed_int (nomark _)))))
    (sd_one (sd_ret ed_bl))
    sd_nil)
    (sd_cons (sd_if (PW.pt (wd_or (td_not (td_val (ed_callB (cAll rfl) B.n_all (by decide +kernel) (ad_cons (ed_fresh (ld_lc (own := [("place", 4)]) rfl sc_is_way.nd (id_seq (ed_slice (ed_var 0) od_none (od_some ed_int))) (blkOk_by (N := N_is_way) (sc := defScope s_is_way) (by decide +kernel)) (fun _ _ _ _ _ => (gd_name 4 sc_is_way.nd)) (fun _ _ _ _ _ => tsd_nil) (fun _ _ _ _ _ => (ed_call D_is_count hr pass0 (ad_cons (ed_var 4) (ad_cons ed_int (ad_cons (ed_op oSub (ed_var 1) ed_int) ad_nil))))))) ad_nil)))) (wd_or1 (td_cmp (oEq hr.units) (ed_ix (ed_var 0) ed_int) (ed_ix (ed_var 0) ed_int) (nomark _)))))
    (sd_one (sd_ret ed_bl))
    sd_nil)
    (sd_one (sd_ret (ed_call D_is_count hr pass0 (ad_cons (ed_ix (ed_var 0) ed_int) (ad_cons (ed_var 2) (ad_cons (ed_var 3) ad_nil))))))))
abbrev s_need : Stmt := topS 22
abbrev N_need : List Str := ["good"]
theorem sc_need : FnScope N_need ["good"] (defScope s_need) := ⟨rfl, rfl, rfl, by decide +kernel, rfl, by decide +kernel, by decide +kernel⟩
theorem ok_need (B : Blt mg) {f : Addr} {fd : FuncData} (F : Fun K "need" "need" s_need f fd) (gm : mg "need" = some (.ref f)) {a_BadFloor : Addr} (X_BadFloor : ExcD K mg "BadFloor" a_BadFloor) : DefD P w K mg base (L2N.CX P w) "need" 1 (sp_need a_BadFloor) := by
  refine fnN F sc_need gm (F.binds fun _ _ _ _ _ _ us hl => match us, hl with | [_], _ => rfl) (len_need _) (fun cdv A outer s H E hr => ⟨(g_need a_BadFloor), ?_, (pure_need _)⟩)
  exact (sd_one (sd_if (td_not (td_val (ed_var 0)))
    (sd_one (sd_raiseN rfl (L2N.takes_of rfl rfl rfl rfl) PySem.F.excBase_ValueError X_BadFloor.x X_BadFloor.g X_BadFloor.k (raises_own X_BadFloor.b X_BadFloor.t)))
    sd_nil))
abbrev s_need_floor : Stmt := topS 23
abbrev N_need_floor : List Str := ["floor", "one", "other", "places", "lines", "line", "first", "second"]
theorem sc_need_floor : FnScope N_need_floor ["floor", "one", "other"] (defScope s_need_floor) := ⟨rfl, rfl, rfl, by decide +kernel, rfl, by decide +kernel, by decide +kernel⟩
theorem ok_need_floor (B : Blt mg) {f : Addr} {fd : FuncData} (F : Fun K "need_floor" "need_floor" s_need_floor f fd) (gm : mg "need_floor" = some (.ref f)) {a_BadFloor : Addr} (C_MOST : Gc K mg "MOST" c_MOST) (C_MOST_LINES : Gc K mg "MOST_LINES" c_MOST_LINES) (C_MOST_PLACES : Gc K mg "MOST_PLACES" c8_MOST_PLACES) (C_MOST_WANT : Gc K mg "MOST_WANT" c_MOST_WANT) (D_is_count : DefD P w K mg base CX0 "is_count" 1 sp_is_count) (D_need : DefD P w K mg base (L2N.CX P w) "need" 1 (sp_need a_BadFloor)) (D_is_way : DefD P w K mg base CX0 "is_way" 2 sp_is_way) : DefD P w K mg base (L2N.CX P w) "need_floor" 3 (sp_need_floor a_BadFloor) := by
  refine fnN F sc_need_floor gm (F.binds fun _ _ _ _ _ _ us hl => match us, hl with | [_, _, _], _ => rfl) (len_need_floor _) (fun cdv A outer s H E hr => ⟨(g_need_floor a_BadFloor), ?_, (pure_need_floor _)⟩)
  exact (sd_cons (sd_asg (ed_var 0) (gd_tup 2 rfl (gsd_cons (gd_name 3 sc_need_floor.nd) (gsd_cons (gd_name 4 sc_need_floor.nd) gsd_nil))))
    (sd_cons (sd_callX D_need hr passN (ad_cons (ed_and (ed_call D_is_count hr pass0 (ad_cons (ed_var 3) (ad_cons ed_int (ad_cons (ed_glob C_MOST_PLACES) ad_nil)))) (ed_one (ed_cmp oLe (ed_callB (cLen) B.n_len PySem.boot_len (ad_cons (ed_var 4) ad_nil)) (ed_glob C_MOST_LINES) (nomark _)))) ad_nil))
    (sd_cons (sd_callX D_need hr passN (ad_cons (ed_callB (cAll rfl) B.n_all (by decide +kernel) (ad_cons (ed_fresh (ld_lc (own := [("line", 5)]) rfl sc_need_floor.nd (id_seq (ed_var 4)) (blkOk_by (N := N_need_floor) (sc := defScope s_need_floor) (by decide +kernel)) (fun _ _ _ _ _ => (gd_name 5 sc_need_floor.nd)) (fun _ _ _ _ _ => tsd_nil) (fun _ _ _ _ _ => (ed_and (ed_call D_is_way hr pass0 (ad_cons (ed_var 5) (ad_cons (ed_var 3) (ad_cons ed_int (ad_cons (ed_glob C_MOST) ad_nil))))) (ed_one (ed_cmp (oLt hr.units0) (ed_ix (ed_var 5) ed_int) (ed_ix (ed_var 5) ed_int) (nomark _))))))) ad_nil)) ad_nil))
    (sd_cons (sd_callX D_need hr passN (ad_cons (ed_callB (cAll rfl) B.n_all (by decide +kernel) (ad_cons (ed_fresh (ld_lc (own := [("first", 6), ("second", 7)]) rfl sc_need_floor.nd (id_zip (ad_cons (ed_var 4) (ad_cons (ed_slice (ed_var 4) (od_some ed_int) od_none) ad_nil)) B.n_zip) (blkOk_by (N := N_need_floor) (sc := defScope s_need_floor) (by decide +kernel)) (fun _ _ _ _ _ => (gd_tup 2 rfl (gsd_cons (gd_name 6 sc_need_floor.nd) (gsd_cons (gd_name 7 sc_need_floor.nd) gsd_nil)))) (fun _ _ _ _ _ => tsd_nil) (fun _ _ _ _ _ => (ed_cmp (oLt hr.units0) (ed_slice (ed_var 6) od_none (od_some ed_int)) (ed_slice (ed_var 7) od_none (od_some ed_int)) (nomark _))))) ad_nil)) ad_nil))
    (sd_one (sd_callX D_need hr passN (ad_cons (ed_and (ed_call D_is_way hr pass0 (ad_cons (ed_var 1) (ad_cons (ed_var 3) (ad_cons ed_int (ad_cons (ed_glob C_MOST_WANT) ad_nil))))) (ed_one (ed_call D_is_way hr pass0 (ad_cons (ed_var 2) (ad_cons (ed_var 3) (ad_cons ed_int (ad_cons (ed_glob C_MOST_WANT) ad_nil))))))) ad_nil)))))))
abbrev s_Rooms___init__ : Stmt := inClass (topS 24) 0
abbrev N_Rooms___init__ : List Str := ["self", "floor", "ends", "one", "other", "room", "first", "second", "much"]
theorem sc_Rooms___init__ : FnScope N_Rooms___init__ ["self", "floor", "ends"] (defScope s_Rooms___init__) := ⟨rfl, rfl, rfl, by decide +kernel, rfl, by decide +kernel, by decide +kernel⟩
theorem ok_Rooms___init__ (B : Blt mg) {f : Addr} {fd : FuncData} {a_Rooms : Addr} (Y_Rooms : Cls K a_Rooms) (n_Rooms_left : NoAttr K a_Rooms "left") (F : Fun K "__init__" "Rooms.__init__" s_Rooms___init__ f fd) (M : Mk K a_Rooms f) (gC : mg "Rooms" = some (.ref a_Rooms)) : MakD P w K mg base CX0 "Rooms" a_Rooms 1 sp_Rooms___init__ := by
  refine ⟨f, fd, _, fnM_ok F sc_Rooms___init__ len_Rooms___init__ (fun cdv A outer s H E hr => ⟨(g_Rooms___init__ a_Rooms), ?_, (pure_Rooms___init__ _)⟩), M, gC, F.binds fun _ _ _ _ _ _ us hl => match us, hl with | [_, _, _], _ => rfl⟩
  exact (sd_cons (sd_fnew 0 Y_Rooms n_Rooms_left)
    (sd_cons (sd_for PassesOwn.never rfl (id_seq (ed_ix (ed_var 1) ed_int)) (gd_tup 3 rfl (gsd_cons (gd_name 3 sc_Rooms___init__.nd) (gsd_cons (gd_name 4 sc_Rooms___init__.nd) (gsd_cons (gd_name 5 sc_Rooms___init__.nd) gsd_nil))))
    (sd_cons (sd_dput 0 (hu_of hr) Y_Rooms n_Rooms_left (ed_tpl (ad_cons (ed_var 3) (ad_cons (ed_var 4) ad_nil))) (ed_var 5))
    (sd_one (sd_dput 0 (hu_of hr) Y_Rooms n_Rooms_left (ed_tpl (ad_cons (ed_var 4) (ad_cons (ed_var 3) ad_nil))) (ed_var 5)))))
    (sd_one (sd_for PassesOwn.never rfl (id_seq (ed_var 2)) (gd_tup 3 rfl (gsd_cons (gd_name 6 sc_Rooms___init__.nd) (gsd_cons (gd_name 7 sc_Rooms___init__.nd) (gsd_cons (gd_name 8 sc_Rooms___init__.nd) gsd_nil))))
    (sd_cons (sd_dput 0 (hu_of hr) Y_Rooms n_Rooms_left (ed_tpl (ad_cons (ed_var 6) (ad_cons (ed_var 7) ad_nil))) (ed_op oAdd (ed_dget2 0 (hu_of hr) Y_Rooms n_Rooms_left (ed_tpl (ad_cons (ed_var 6) (ad_cons (ed_var 7) ad_nil))) ed_int ⟨rfl, rfl, rfl, rfl⟩) (ed_var 8)))
    (sd_one (sd_dput 0 (hu_of hr) Y_Rooms n_Rooms_left (ed_tpl (ad_cons (ed_var 7) (ad_cons (ed_var 6) ad_nil))) (ed_dget2 0 (hu_of hr) Y_Rooms n_Rooms_left (ed_tpl (ad_cons (ed_var 7) (ad_cons (ed_var 6) ad_nil))) ed_int ⟨rfl, rfl, rfl, rfl⟩))))))))
abbrev s_Rooms_reached : Stmt := inClass (topS 24) 1
abbrev N_Rooms_reached : List Str := ["self", "found", "waiting", "place", "pair"]
theorem sc_Rooms_reached : FnScope N_Rooms_reached ["self"] (defScope s_Rooms_reached) := ⟨rfl, rfl, rfl, by decide +kernel, rfl, by decide +kernel, by decide +kernel⟩
theorem ok_Rooms_reached (B : Blt mg) {f : Addr} {fd : FuncData} {a_Rooms : Addr} (Y_Rooms : Cls K a_Rooms) (n_Rooms_left : NoAttr K a_Rooms "left") (F : Fun K "reached" "Rooms.reached" s_Rooms_reached f fd) (M : Meth K a_Rooms "reached" f) : MetD P w K mg base CX0 a_Rooms "reached" 1 sp_Rooms_reached := by
  refine ⟨f, fd, _, fnM_ok F sc_Rooms_reached len_Rooms_reached (fun cdv A outer s H E hr => ⟨(g_Rooms_reached a_Rooms), ?_, (pure_Rooms_reached _)⟩), M, Y_Rooms, F.binds fun _ _ _ _ _ _ us hl => match us, hl with | [_], _ => rfl⟩
  exact (sd_cons (sd_dic1 1 sc_Rooms_reached.nd ed_str ed_non)
    (sd_cons (sd_setL 2 sc_Rooms_reached.nd (ld_lst (ad_cons ed_str ad_nil)))
    (sd_cons (sd_while PassesOwn.never (td_neNil 2 hr.units)
    (sd_cons (sd_pop0 3 2 sc_Rooms_reached.nd)
    (sd_one (sd_forK 0 PassesOwn.never rfl Y_Rooms n_Rooms_left (gd_name 4 sc_Rooms_reached.nd)
    (sd_one (sd_if (PW.pt (wd_and (td_cmp (oEq hr.units) (ed_ix (ed_var 4) ed_int) (ed_var 3) (nomark _)) (wd_and (td_cmp oGt (ed_dget 0 (hu_of hr) Y_Rooms n_Rooms_left (ed_var 4)) ed_int (nomark _)) (wd_and1 (td_knotin 1 (hu_of hr) (ed_ix (ed_var 4) ed_int))))))
    (sd_cons (sd_kput 1 (hu_of hr) (ed_ix (ed_var 4) ed_int) (ed_var 3))
    (sd_one (sd_app 2 (ed_ix (ed_var 4) ed_int))))
    sd_nil))))))
    (sd_frz 1 (sd_one (sd_ret (ed_var 1)))))))
abbrev s_Rooms_push : Stmt := inClass (topS 24) 2
abbrev N_Rooms_push : List Str := ["self", "found", "row", "pairs", "much", "pair"]
theorem sc_Rooms_push : FnScope N_Rooms_push ["self", "found"] (defScope s_Rooms_push) := ⟨rfl, rfl, rfl, by decide +kernel, rfl, by decide +kernel, by decide +kernel⟩
theorem ok_Rooms_push (B : Blt mg) {f : Addr} {fd : FuncData} {a_Rooms : Addr} (Y_Rooms : Cls K a_Rooms) (n_Rooms_left : NoAttr K a_Rooms "left") (F : Fun K "push" "Rooms.push" s_Rooms_push f fd) (M : Meth K a_Rooms "push" f) : MetD P w K mg base CX0 a_Rooms "push" 1 sp_Rooms_push := by
  refine ⟨f, fd, _, fnM_ok F sc_Rooms_push len_Rooms_push (fun cdv A outer s H E hr => ⟨(g_Rooms_push a_Rooms), ?_, (pure_Rooms_push _)⟩), M, Y_Rooms, F.binds fun _ _ _ _ _ _ us hl => match us, hl with | [_, _], _ => rfl⟩
  exact (sd_cons (sd_set 2 sc_Rooms_push.nd (ed_lst (ad_cons ed_str ad_nil)))
    (sd_cons (sd_while PassesOwn.never (td_cmp (oNe hr.units) (ed_ix (ed_var 2) ed_int) ed_str (nomark _))
    (sd_one (sd_set 2 sc_Rooms_push.nd (ed_op oAdd (ed_lst (ad_cons (ed_fget (hu_of hr) (ed_var 1) (ed_ix (ed_var 2) ed_int)) ad_nil)) (ed_var 2)))))
    (sd_cons (sd_set 3 sc_Rooms_push.nd (ed_lzip B.n_list B.n_zip (ad_cons (ed_var 2) (ad_cons (ed_slice (ed_var 2) (od_some ed_int) od_none) ad_nil)) rfl))
    (sd_cons (sd_set 4 sc_Rooms_push.nd (ed_callB (cMinL rfl) B.n_min (by decide +kernel) (ad_cons (ed_fresh (ld_lc (own := [("pair", 5)]) rfl sc_Rooms_push.nd (id_seq (ed_var 3)) (blkOk_by (N := N_Rooms_push) (sc := defScope s_Rooms_push) (by decide +kernel)) (fun _ _ _ _ _ => (gd_name 5 sc_Rooms_push.nd)) (fun _ _ _ _ _ => tsd_nil) (fun _ _ _ _ _ => (ed_dget 0 (hu_of hr) Y_Rooms n_Rooms_left (ed_var 5))))) ad_nil)))
    (sd_cons (sd_for PassesOwn.never rfl (id_seq (ed_var 3)) (gd_name 5 sc_Rooms_push.nd)
    (sd_cons (sd_dput 0 (hu_of hr) Y_Rooms n_Rooms_left (ed_var 5) (ed_op oSub (ed_dget 0 (hu_of hr) Y_Rooms n_Rooms_left (ed_var 5)) (ed_var 4)))
    (sd_one (sd_dput 0 (hu_of hr) Y_Rooms n_Rooms_left (ed_tpl (ad_cons (ed_ix (ed_var 5) ed_int) (ad_cons (ed_ix (ed_var 5) ed_int) ad_nil))) (ed_op oAdd (ed_dget 0 (hu_of hr) Y_Rooms n_Rooms_left (ed_tpl (ad_cons (ed_ix (ed_var 5) ed_int) (ad_cons (ed_ix (ed_var 5) ed_int) ad_nil)))) (ed_var 4))))))
    (sd_one (sd_ret (ed_var 4))))))))
abbrev s_sent : Stmt := topS 25
abbrev N_sent : List Str := ["floor", "ends", "rooms", "found", "flow", "one", "other", "room", "place"]
theorem sc_sent : FnScope N_sent ["floor", "ends"] (defScope s_sent) := ⟨rfl, rfl, rfl, by decide +kernel, rfl, by decide +kernel, by decide +kernel⟩
theorem ok_sent (B : Blt mg) {f : Addr} {fd : FuncData} (F : Fun K "sent" "sent" s_sent f fd) (gm : mg "sent" = some (.ref f)) {a_Rooms : Addr} (Y_Rooms : Cls K a_Rooms) (n_Rooms_left : NoAttr K a_Rooms "left") (D_Rooms___init__ : MakD P w K mg base CX0 "Rooms" a_Rooms 1 sp_Rooms___init__) (D_Rooms_reached : MetD P w K mg base CX0 a_Rooms "reached" 1 sp_Rooms_reached) (D_Rooms_push : MetD P w K mg base CX0 a_Rooms "push" 1 sp_Rooms_push) : DefD P w K mg base CX0 "sent" 3 (sp_sent a_Rooms) := by
  refine fnD F sc_sent gm (F.binds fun _ _ _ _ _ _ us hl => match us, hl with | [_, _], _ => rfl) (len_sent _) (fun cdv A outer s H E hr => ⟨(g_sent a_Rooms), ?_, (pure_sent _)⟩)
  exact (sd_cons (sd_makeS 2 sc_sent.nd D_Rooms___init__ hr pass0 (ad_cons (ed_var 0) (ad_cons (ed_var 1) ad_nil)))
    (sd_cons (sd_setM0 3 2 sc_sent.nd D_Rooms_reached hr pass0)
    (sd_cons (sd_while PassesOwn.never (td_fin (hu_of hr) ed_str (ed_var 3))
    (sd_cons (sd_callM 2 D_Rooms_push hr pass0 (ad_cons (ed_var 3) ad_nil))
    (sd_one (sd_setM0 3 2 sc_sent.nd D_Rooms_reached hr pass0))))
    (sd_cons (sd_setLc 4 (own := [("one", 5), ("other", 6), ("room", 7)]) rfl sc_sent.nd rfl (sw_true rfl rfl rfl (by decide +kernel)) (id_seq (ed_ix (ed_var 0) ed_int)) (blkOk_by (N := N_sent) (sc := defScope s_sent) (by decide +kernel)) (fun _ _ _ _ _ => (gd_tup 3 rfl (gsd_cons (gd_name 5 sc_sent.nd) (gsd_cons (gd_name 6 sc_sent.nd) (gsd_cons (gd_name 7 sc_sent.nd) gsd_nil))))) (fun _ _ _ _ _ => tsd_nil) (fun _ _ _ _ _ => (ed_op oSub (ed_var 7) (ed_dget 2 (hu_of hr) Y_Rooms n_Rooms_left (ed_tpl (ad_cons (ed_var 5) (ad_cons (ed_var 6) ad_nil)))))))
    (sd_frz 2 (sd_one (sd_ret (ed_tup (ad_cons (ed_var 4) (ad_cons (ed_fresh (ld_lc (own := [("place", 8)]) rfl sc_sent.nd (id_range1 (ad_cons (ed_ix (ed_var 0) ed_int) ad_nil) B.n_range) (blkOk_by (N := N_sent) (sc := defScope s_sent) (by decide +kernel)) (fun _ _ _ _ _ => (gd_name 8 sc_sent.nd)) (fun _ _ _ _ _ => (tsd_one (td_fin (hu_of hr) (ed_var 8) (ed_var 3)))) (fun _ _ _ _ _ => (ed_var 8)))) (ad_cons (ed_var 2) ad_nil)))))))))))
abbrev s_one_ware : Stmt := topS 26
abbrev N_one_ware : List Str := ["floor", "one", "other", "ends", "flow", "places", "rooms", "ware"]
theorem sc_one_ware : FnScope N_one_ware ["floor", "one", "other"] (defScope s_one_ware) := ⟨rfl, rfl, rfl, by decide +kernel, rfl, by decide +kernel, by decide +kernel⟩
theorem ok_one_ware (B : Blt mg) {f : Addr} {fd : FuncData} (F : Fun K "one_ware" "one_ware" s_one_ware f fd) (gm : mg "one_ware" = some (.ref f)) {a_Rooms : Addr} (Y_Rooms : Cls K a_Rooms) (n_Rooms_left : NoAttr K a_Rooms "left") (D_sent : DefD P w K mg base CX0 "sent" 3 (sp_sent a_Rooms)) : DefD P w K mg base CX0 "one_ware" 4 sp_one_ware := by
  refine fnD F sc_one_ware gm (F.binds fun _ _ _ _ _ _ us hl => match us, hl with | [_, _, _], _ => rfl) len_one_ware (fun cdv A outer s H E hr => ⟨(g_one_ware a_Rooms), ?_, (pure_one_ware _)⟩)
  exact (sd_cons (sd_set 3 sc_one_ware.nd (ed_lst (ad_cons (ed_tup (ad_cons ed_str (ad_cons (ed_ix (ed_var 1) ed_int) (ad_cons (ed_ix (ed_var 1) ed_int) ad_nil)))) (ad_cons (ed_tup (ad_cons (ed_ix (ed_var 1) ed_int) (ad_cons ed_str (ad_cons (ed_ix (ed_var 1) ed_int) ad_nil)))) (ad_cons (ed_tup (ad_cons ed_str (ad_cons (ed_ix (ed_var 2) ed_int) (ad_cons (ed_ix (ed_var 2) ed_int) ad_nil)))) (ad_cons (ed_tup (ad_cons (ed_ix (ed_var 2) ed_int) (ad_cons ed_str (ad_cons (ed_ix (ed_var 2) ed_int) ad_nil)))) ad_nil))))))
    (sd_cons (sd_asg (ed_call D_sent hr pass0 (ad_cons (ed_var 0) (ad_cons (ed_var 3) ad_nil))) (gd_tup 3 rfl (gsd_cons (gd_name 4 sc_one_ware.nd) (gsd_cons (gd_name 5 sc_one_ware.nd) (gsd_cons (gd_name 6 sc_one_ware.nd) gsd_nil)))))
    (sd_cons (sd_if (td_val (ed_callB (cAny rfl) B.n_any (by decide +kernel) (ad_cons (ed_fresh (ld_lc (own := [("ware", 7)]) rfl sc_one_ware.nd (id_seq (ed_tup (ad_cons (ed_var 1) (ad_cons (ed_var 2) ad_nil)))) (blkOk_by (N := N_one_ware) (sc := defScope s_one_ware) (by decide +kernel)) (fun _ _ _ _ _ => (gd_name 7 sc_one_ware.nd)) (fun _ _ _ _ _ => tsd_nil) (fun _ _ _ _ _ => (ed_cmp oGt (ed_fget (hu_of hr) (ed_ins Y_Rooms n_Rooms_left (ed_var 6)) (ed_tpl (ad_cons ed_str (ad_cons (ed_ix (ed_var 7) ed_int) ad_nil)))) ed_int (nomark _))))) ad_nil)))
    (sd_one (sd_ret (ed_tup (ad_cons ed_non (ad_cons (ed_var 5) ad_nil)))))
    sd_nil)
    (sd_one (sd_ret (ed_tup (ad_cons (ed_var 4) (ad_cons ed_non ad_nil))))))))
abbrev s_both_go : Stmt := topS 27
abbrev N_both_go : List Str := ["floor", "one", "other", "first", "places", "second", "half", "rest", "a", "b"]
theorem sc_both_go : FnScope N_both_go ["floor", "one", "other"] (defScope s_both_go) := ⟨rfl, rfl, rfl, by decide +kernel, rfl, by decide +kernel, by decide +kernel⟩
theorem ok_both_go (B : Blt mg) {f : Addr} {fd : FuncData} (F : Fun K "both_go" "both_go" s_both_go f fd) (gm : mg "both_go" = some (.ref f)) {a_BadFloor : Addr} (D_need_floor : DefD P w K mg base (L2N.CX P w) "need_floor" 3 (sp_need_floor a_BadFloor)) (D_one_ware : DefD P w K mg base CX0 "one_ware" 4 sp_one_ware) (D_fraction : DefD P w K mg base CX0 "fraction" 2 sp_fraction) : DefD P w K mg base (L2N.CX P w) "both_go" 5 (sp_both_go a_BadFloor) := by
  refine fnN F sc_both_go gm (F.binds fun _ _ _ _ _ _ us hl => match us, hl with | [_, _, _], _ => rfl) (len_both_go _) (fun cdv A outer s H E hr => ⟨(g_both_go a_BadFloor), ?_, (pure_both_go _)⟩)
  exact (sd_cons (sd_callX D_need_floor hr passN (ad_cons (ed_var 0) (ad_cons (ed_var 1) (ad_cons (ed_var 2) ad_nil))))
    (sd_cons (sd_asg (ed_call D_one_ware hr pass0 (ad_cons (ed_var 0) (ad_cons (ed_var 1) (ad_cons (ed_var 2) ad_nil)))) (gd_tup 2 rfl (gsd_cons (gd_name 3 sc_both_go.nd) (gsd_cons (gd_name 4 sc_both_go.nd) gsd_nil))))
    (sd_cons (sd_if (td_cmp oIsN (ed_var 3) ed_non (nomark _))
    (sd_one (sd_ret (ed_tup (ad_cons ed_str (ad_cons (ed_var 4) ad_nil)))))
    sd_nil)
    (sd_cons (sd_asg (ed_call D_one_ware hr pass0 (ad_cons (ed_var 0) (ad_cons (ed_var 1) (ad_cons (ed_tup (ad_cons (ed_ix (ed_var 2) ed_int) (ad_cons (ed_ix (ed_var 2) ed_int) (ad_cons (ed_ix (ed_var 2) ed_int) ad_nil)))) ad_nil)))) (gd_tup 2 rfl (gsd_cons (gd_name 5 sc_both_go.nd) (gsd_cons (gd_name 4 sc_both_go.nd) gsd_nil))))
    (sd_cons (sd_if (td_cmp oIsN (ed_var 5) ed_non (nomark _))
    (sd_one (sd_ret (ed_tup (ad_cons ed_str (ad_cons (ed_var 4) ad_nil)))))
    sd_nil)
    (sd_cons (sd_setLc 6 (own := [("a", 8), ("b", 9)]) rfl sc_both_go.nd rfl (sw_true rfl rfl rfl (by decide +kernel)) (id_zip (ad_cons (ed_var 3) (ad_cons (ed_var 5) ad_nil)) B.n_zip) (blkOk_by (N := N_both_go) (sc := defScope s_both_go) (by decide +kernel)) (fun _ _ _ _ _ => (gd_tup 2 rfl (gsd_cons (gd_name 8 sc_both_go.nd) (gsd_cons (gd_name 9 sc_both_go.nd) gsd_nil)))) (fun _ _ _ _ _ => tsd_nil) (fun _ _ _ _ _ => (ed_call D_fraction hr pass0 (ad_cons (ed_op oAdd (ed_var 8) (ed_var 9)) (ad_cons ed_int ad_nil)))))
    (sd_cons (sd_setLc 7 (own := [("a", 8), ("b", 9)]) rfl sc_both_go.nd rfl (sw_true rfl rfl rfl (by decide +kernel)) (id_zip (ad_cons (ed_var 3) (ad_cons (ed_var 5) ad_nil)) B.n_zip) (blkOk_by (N := N_both_go) (sc := defScope s_both_go) (by decide +kernel)) (fun _ _ _ _ _ => (gd_tup 2 rfl (gsd_cons (gd_name 8 sc_both_go.nd) (gsd_cons (gd_name 9 sc_both_go.nd) gsd_nil)))) (fun _ _ _ _ _ => tsd_nil) (fun _ _ _ _ _ => (ed_call D_fraction hr pass0 (ad_cons (ed_op oSub (ed_var 8) (ed_var 9)) (ad_cons ed_int ad_nil)))))
    (sd_one (sd_ret (ed_tup (ad_cons ed_str (ad_cons (ed_tup (ad_cons (ed_var 6) (ad_cons (ed_var 7) ad_nil))) ad_nil))))))))))))
abbrev s_gain_at : Stmt := topS 28
abbrev N_gain_at : List Str := ["floor", "row", "place", "left", "much", "line"]
theorem sc_gain_at : FnScope N_gain_at ["floor", "row", "place"] (defScope s_gain_at) := ⟨rfl, rfl, rfl, by decide +kernel, rfl, by decide +kernel, by decide +kernel⟩
theorem ok_gain_at (B : Blt mg) {f : Addr} {fd : FuncData} (F : Fun K "gain_at" "gain_at" s_gain_at f fd) (gm : mg "gain_at" = some (.ref f)) (D_total : DefD P w K mg base CX0 "total" 4 sp_total) (D_minus : DefD P w K mg base CX0 "minus" 3 sp_minus) : DefD P w K mg base CX0 "gain_at" 5 sp_gain_at := by
  refine fnD F sc_gain_at gm (F.binds fun _ _ _ _ _ _ us hl => match us, hl with | [_, _, _], _ => rfl) len_gain_at (fun cdv A outer s H E hr => ⟨g_gain_at, ?_, pure_gain_at⟩)
  exact (sd_cons (sd_set 3 sc_gain_at.nd (ed_call D_total hr pass0 (ad_cons (ed_fresh (ld_lc (own := [("much", 4), ("line", 5)]) rfl sc_gain_at.nd (id_zip (ad_cons (ed_var 1) (ad_cons (ed_ix (ed_var 0) ed_int) ad_nil)) B.n_zip) (blkOk_by (N := N_gain_at) (sc := defScope s_gain_at) (by decide +kernel)) (fun _ _ _ _ _ => (gd_tup 2 rfl (gsd_cons (gd_name 4 sc_gain_at.nd) (gsd_cons (gd_name 5 sc_gain_at.nd) gsd_nil)))) (fun _ _ _ _ _ => (tsd_one (td_cmp (oEq hr.units) (ed_ix (ed_var 5) ed_int) (ed_var 2) (nomark _)))) (fun _ _ _ _ _ => (ed_var 4)))) ad_nil)))
    (sd_one (sd_ret (ed_call D_minus hr pass0 (ad_cons (ed_var 3) (ad_cons (ed_call D_total hr pass0 (ad_cons (ed_fresh (ld_lc (own := [("much", 4), ("line", 5)]) rfl sc_gain_at.nd (id_zip (ad_cons (ed_var 1) (ad_cons (ed_ix (ed_var 0) ed_int) ad_nil)) B.n_zip) (blkOk_by (N := N_gain_at) (sc := defScope s_gain_at) (by decide +kernel)) (fun _ _ _ _ _ => (gd_tup 2 rfl (gsd_cons (gd_name 4 sc_gain_at.nd) (gsd_cons (gd_name 5 sc_gain_at.nd) gsd_nil)))) (fun _ _ _ _ _ => (tsd_one (td_cmp (oEq hr.units) (ed_ix (ed_var 5) ed_int) (ed_var 2) (nomark _)))) (fun _ _ _ _ _ => (ed_var 4)))) ad_nil)) ad_nil))))))
abbrev s_is_row : Stmt := topS 29
abbrev N_is_row : List Str := ["floor", "row", "one"]
theorem sc_is_row : FnScope N_is_row ["floor", "row"] (defScope s_is_row) := ⟨rfl, rfl, rfl, by decide +kernel, rfl, by decide +kernel, by decide +kernel⟩
theorem ok_is_row (B : Blt mg) {f : Addr} {fd : FuncData} (F : Fun K "is_row" "is_row" s_is_row f fd) (gm : mg "is_row" = some (.ref f)) (D_is_fraction : DefD P w K mg base CX0 "is_fraction" 2 sp_is_fraction) : DefD P w K mg base CX0 "is_row" 3 sp_is_row := by
  refine fnD F sc_is_row gm (F.binds fun _ _ _ _ _ _ us hl => match us, hl with | [_, _], _ => rfl) len_is_row (fun cdv A outer s H E hr => ⟨g_is_row, ?_, pure_is_row⟩)
  exact (sd_one (sd_ret (ed_and (ed_isi (Ts := "list") (ed_var 1) (by decide) B.isinstance B.n_list (by decide +kernel)) (ed_and (ed_cmp (oEq hr.units) (ed_callB (cLen) B.n_len PySem.boot_len (ad_cons (ed_var 1) ad_nil)) (ed_callB (cLen) B.n_len PySem.boot_len (ad_cons (ed_ix (ed_var 0) ed_int) ad_nil)) (nomark _)) (ed_one (ed_callB (cAll rfl) B.n_all (by decide +kernel) (ad_cons (ed_fresh (ld_lc (own := [("one", 2)]) rfl sc_is_row.nd (id_seq (ed_var 1)) (blkOk_by (N := N_is_row) (sc := defScope s_is_row) (by decide +kernel)) (fun _ _ _ _ _ => (gd_name 2 sc_is_row.nd)) (fun _ _ _ _ _ => tsd_nil) (fun _ _ _ _ _ => (ed_call D_is_fraction hr pass0 (ad_cons (ed_var 2) ad_nil))))) ad_nil)))))))
abbrev s_due_at : Stmt := topS 30
abbrev N_due_at : List Str := ["ware", "place"]
theorem sc_due_at : FnScope N_due_at ["ware", "place"] (defScope s_due_at) := ⟨rfl, rfl, rfl, by decide +kernel, rfl, by decide +kernel, by decide +kernel⟩
theorem ok_due_at (B : Blt mg) {f : Addr} {fd : FuncData} (F : Fun K "due_at" "due_at" s_due_at f fd) (gm : mg "due_at" = some (.ref f)) : DefD P w K mg base CX0 "due_at" 1 sp_due_at := by
  refine fnD F sc_due_at gm (F.binds fun _ _ _ _ _ _ us hl => match us, hl with | [_, _], _ => rfl) len_due_at (fun cdv A outer s H E hr => ⟨g_due_at, ?_, pure_due_at⟩)
  exact (sd_one (sd_ret (ed_tup (ad_cons (ed_op oMul (ed_ix (ed_var 0) ed_int) (ed_op oSub (ed_callTy (cInt) B.n_int (by decide +kernel) (ad_cons (ed_cmp (oEq hr.units) (ed_var 1) (ed_ix (ed_var 0) ed_int) (nomark _)) ad_nil)) (ed_callTy (cInt) B.n_int (by decide +kernel) (ad_cons (ed_cmp (oEq hr.units) (ed_var 1) (ed_ix (ed_var 0) ed_int) (nomark _)) ad_nil)))) (ad_cons ed_int ad_nil)))))
abbrev s_double_goes : Stmt := topS 31
abbrev N_double_goes : List Str := ["floor", "one", "other", "double", "ware", "row", "line", "first", "second", "place"]
theorem sc_double_goes : FnScope N_double_goes ["floor", "one", "other", "double"] (defScope s_double_goes) := ⟨rfl, rfl, rfl, by decide +kernel, rfl, by decide +kernel, by decide +kernel⟩
theorem ok_double_goes (B : Blt mg) {f : Addr} {fd : FuncData} (F : Fun K "double_goes" "double_goes" s_double_goes f fd) (gm : mg "double_goes" = some (.ref f)) {a_BadFloor : Addr} (D_need_floor : DefD P w K mg base (L2N.CX P w) "need_floor" 3 (sp_need_floor a_BadFloor)) (D_is_row : DefD P w K mg base CX0 "is_row" 3 sp_is_row) (D_gain_at : DefD P w K mg base CX0 "gain_at" 5 sp_gain_at) (D_due_at : DefD P w K mg base CX0 "due_at" 1 sp_due_at) (D_plus : DefD P w K mg base CX0 "plus" 3 sp_plus) (D_is_less : DefD P w K mg base CX0 "is_less" 1 sp_is_less) : DefD P w K mg base (L2N.CX P w) "double_goes" 6 (sp_double_goes a_BadFloor) := by
  refine fnN F sc_double_goes gm (F.binds fun _ _ _ _ _ _ us hl => match us, hl with | [_, _, _, _], _ => rfl) (len_double_goes _) (fun cdv A outer s H E hr => ⟨(g_double_goes a_BadFloor), ?_, (pure_double_goes _)⟩)
  exact (sd_cons (sd_callX D_need_floor hr passN (ad_cons (ed_var 0) (ad_cons (ed_var 1) (ad_cons (ed_var 2) ad_nil))))
    (sd_cons (sd_if (PW.pt (wd_or (td_not (td_val (ed_isi (Ts := "tuple") (ed_var 3) (by decide) B.isinstance B.n_tuple (by decide +kernel)))) (wd_or (td_cmp (oNe hr.units) (ed_callB (cLen) B.n_len PySem.boot_len (ad_cons (ed_var 3) ad_nil)) ed_int (nomark _)) (wd_or1 (td_not (td_val (ed_callB (cAll rfl) B.n_all (by decide +kernel) (ad_cons (ed_fresh (ld_lc (own := [("row", 5)]) rfl sc_double_goes.nd (id_seq (ed_var 3)) (blkOk_by (N := N_double_goes) (sc := defScope s_double_goes) (by decide +kernel)) (fun _ _ _ _ _ => (gd_name 5 sc_double_goes.nd)) (fun _ _ _ _ _ => tsd_nil) (fun _ _ _ _ _ => (ed_call D_is_row hr pass0 (ad_cons (ed_var 0) (ad_cons (ed_var 5) ad_nil)))))) ad_nil))))))))
    (sd_one (sd_ret ed_bl))
    sd_nil)
    (sd_cons (sd_for (passes_of rfl) rfl (id_zip (ad_cons (ed_tup (ad_cons (ed_var 1) (ad_cons (ed_var 2) ad_nil))) (ad_cons (ed_var 3) ad_nil)) B.n_zip) (gd_tup 2 rfl (gsd_cons (gd_name 4 sc_double_goes.nd) (gsd_cons (gd_name 5 sc_double_goes.nd) gsd_nil)))
    (sd_one (sd_if (td_val (ed_callB (cAny rfl) B.n_any (by decide +kernel) (ad_cons (ed_fresh (ld_lc (own := [("place", 9)]) rfl sc_double_goes.nd (id_range1 (ad_cons (ed_ix (ed_var 0) ed_int) ad_nil) B.n_range) (blkOk_by (N := N_double_goes) (sc := defScope s_double_goes) (by decide +kernel)) (fun _ _ _ _ _ => (gd_name 9 sc_double_goes.nd)) (fun _ _ _ _ _ => tsd_nil) (fun _ _ _ _ _ => (ed_cmp (oNe hr.units) (ed_call D_gain_at hr pass0 (ad_cons (ed_var 0) (ad_cons (ed_var 5) (ad_cons (ed_var 9) ad_nil)))) (ed_call D_due_at hr pass0 (ad_cons (ed_var 4) (ad_cons (ed_var 9) ad_nil))) (nomark _))))) ad_nil)))
    (sd_one (sd_ret ed_bl))
    sd_nil)))
    (sd_cons (sd_for (passes_of rfl) rfl (id_zip3 (ad_cons (ed_ix (ed_var 0) ed_int) (ad_cons (ed_ix (ed_var 3) ed_int) (ad_cons (ed_ix (ed_var 3) ed_int) ad_nil))) B.n_zip) (gd_tup 3 rfl (gsd_cons (gd_name 6 sc_double_goes.nd) (gsd_cons (gd_name 7 sc_double_goes.nd) (gsd_cons (gd_name 8 sc_double_goes.nd) gsd_nil))))
    (sd_one (sd_if (td_val (ed_call D_is_less hr pass0 (ad_cons (ed_tup (ad_cons (ed_ix (ed_var 6) ed_int) (ad_cons ed_int ad_nil))) (ad_cons (ed_call D_plus hr pass0 (ad_cons (ed_tup (ad_cons (ed_callB (cAbs) B.n_abs (by decide +kernel) (ad_cons (ed_ix (ed_var 7) ed_int) ad_nil)) (ad_cons (ed_ix (ed_var 7) ed_int) ad_nil))) (ad_cons (ed_tup (ad_cons (ed_callB (cAbs) B.n_abs (by decide +kernel) (ad_cons (ed_ix (ed_var 8) ed_int) ad_nil)) (ad_cons (ed_ix (ed_var 8) ed_int) ad_nil))) ad_nil))) ad_nil))))
    (sd_one (sd_ret ed_bl))
    sd_nil)))
    (sd_one (sd_ret ed_bl))))))
abbrev s_cut_bars : Stmt := topS 32
abbrev N_cut_bars : List Str := ["floor", "one", "other", "cut", "room", "place", "first", "second", "line", "ware"]
theorem sc_cut_bars : FnScope N_cut_bars ["floor", "one", "other", "cut"] (defScope s_cut_bars) := ⟨rfl, rfl, rfl, by decide +kernel, rfl, by decide +kernel, by decide +kernel⟩
theorem ok_cut_bars (B : Blt mg) {f : Addr} {fd : FuncData} (F : Fun K "cut_bars" "cut_bars" s_cut_bars f fd) (gm : mg "cut_bars" = some (.ref f)) {a_BadFloor : Addr} (D_need_floor : DefD P w K mg base (L2N.CX P w) "need_floor" 3 (sp_need_floor a_BadFloor)) (D_is_count : DefD P w K mg base CX0 "is_count" 1 sp_is_count) : DefD P w K mg base (L2N.CX P w) "cut_bars" 4 (sp_cut_bars a_BadFloor) := by
  refine fnN F sc_cut_bars gm (F.binds fun _ _ _ _ _ _ us hl => match us, hl with | [_, _, _, _], _ => rfl) (len_cut_bars _) (fun cdv A outer s H E hr => ⟨(g_cut_bars a_BadFloor), ?_, (pure_cut_bars _)⟩)
  exact (sd_cons (sd_callX D_need_floor hr passN (ad_cons (ed_var 0) (ad_cons (ed_var 1) (ad_cons (ed_var 2) ad_nil))))
    (sd_cons (sd_if (PW.pt (wd_or (td_not (td_val (ed_isi (Ts := "list") (ed_var 3) (by decide) B.isinstance B.n_list (by decide +kernel)))) (wd_or1 (td_not (td_val (ed_callB (cAll rfl) B.n_all (by decide +kernel) (ad_cons (ed_fresh (ld_lc (own := [("place", 5)]) rfl sc_cut_bars.nd (id_seq (ed_var 3)) (blkOk_by (N := N_cut_bars) (sc := defScope s_cut_bars) (by decide +kernel)) (fun _ _ _ _ _ => (gd_name 5 sc_cut_bars.nd)) (fun _ _ _ _ _ => tsd_nil) (fun _ _ _ _ _ => (ed_call D_is_count hr pass0 (ad_cons (ed_var 5) (ad_cons ed_int (ad_cons (ed_op oSub (ed_ix (ed_var 0) ed_int) ed_int) ad_nil))))))) ad_nil)))))))
    (sd_one (sd_ret ed_bl))
    sd_nil)
    (sd_cons (sd_if (td_not (td_val (ed_callB (cAll rfl) B.n_all (by decide +kernel) (ad_cons (ed_fresh (ld_lc (own := [("first", 6), ("second", 7)]) rfl sc_cut_bars.nd (id_zip (ad_cons (ed_var 3) (ad_cons (ed_slice (ed_var 3) (od_some ed_int) od_none) ad_nil)) B.n_zip) (blkOk_by (N := N_cut_bars) (sc := defScope s_cut_bars) (by decide +kernel)) (fun _ _ _ _ _ => (gd_tup 2 rfl (gsd_cons (gd_name 6 sc_cut_bars.nd) (gsd_cons (gd_name 7 sc_cut_bars.nd) gsd_nil)))) (fun _ _ _ _ _ => tsd_nil) (fun _ _ _ _ _ => (ed_cmp (oLt hr.units0) (ed_var 6) (ed_var 7) (nomark _))))) ad_nil))))
    (sd_one (sd_ret ed_bl))
    sd_nil)
    (sd_cons (sd_set 4 sc_cut_bars.nd (ed_callB (cSum rfl) B.n_sum (by decide +kernel) (ad_cons (ed_fresh (ld_lc (own := [("line", 8)]) rfl sc_cut_bars.nd (id_seq (ed_ix (ed_var 0) ed_int)) (blkOk_by (N := N_cut_bars) (sc := defScope s_cut_bars) (by decide +kernel)) (fun _ _ _ _ _ => (gd_name 8 sc_cut_bars.nd)) (fun _ _ _ _ _ => (tsd_one (td_cmp (oNe hr.units) (ed_cmp oIn (ed_ix (ed_var 8) ed_int) (ed_var 3) (by rfl)) (ed_cmp oIn (ed_ix (ed_var 8) ed_int) (ed_var 3) (by rfl)) (nomark _)))) (fun _ _ _ _ _ => (ed_ix (ed_var 8) ed_int)))) ad_nil)))
    (sd_one (sd_ret (ed_cmp (oLt hr.units0) (ed_var 4) (ed_callB (cSum rfl) B.n_sum (by decide +kernel) (ad_cons (ed_fresh (ld_lc (own := [("ware", 9)]) rfl sc_cut_bars.nd (id_seq (ed_tup (ad_cons (ed_var 1) (ad_cons (ed_var 2) ad_nil)))) (blkOk_by (N := N_cut_bars) (sc := defScope s_cut_bars) (by decide +kernel)) (fun _ _ _ _ _ => (gd_name 9 sc_cut_bars.nd)) (fun _ _ _ _ _ => (tsd_one (td_cmp (oNe hr.units) (ed_cmp oIn (ed_ix (ed_var 9) ed_int) (ed_var 3) (by rfl)) (ed_cmp oIn (ed_ix (ed_var 9) ed_int) (ed_var 3) (by rfl)) (nomark _)))) (fun _ _ _ _ _ => (ed_ix (ed_var 9) ed_int)))) ad_nil)) (nomark _))))))))
abbrev s__law_cell : Stmt := topS 34
abbrev N__law_cell : List Str := ["_law_script", "_law_k"]
theorem sc__law_cell : FnScope N__law_cell ["_law_script", "_law_k"] (defScope s__law_cell) := ⟨rfl, rfl, rfl, by decide +kernel, rfl, by decide +kernel, by decide +kernel⟩
theorem ok__law_cell (B : Blt mg) {f : Addr} {fd : FuncData} (F : Fun K "_law_cell" "_law_cell" s__law_cell f fd) (gm : mg "_law_cell" = some (.ref f)) : DefD P w K mg base CX0 "_law_cell" 1 sp__law_cell := by
  refine fnD F sc__law_cell gm (F.binds fun _ _ _ _ _ _ us hl => match us, hl with | [_, _], _ => rfl) len__law_cell (fun cdv A outer s H E hr => ⟨g__law_cell, ?_, pure__law_cell⟩)
  exact (sd_cons (sd_if (td_cmp (oEq hr.units) (ed_var 0) (ed_lst ad_nil) (nomark _))
    (sd_one (sd_ret (ed_op oMul (ed_var 1) ed_int)))
    sd_nil)
    (sd_one (sd_ret (ed_op oAdd (ed_ix (ed_var 0) (ed_op oMod (ed_var 1) (ed_callB (cLen) B.n_len PySem.boot_len (ad_cons (ed_var 0) ad_nil)))) (ed_op oMul (ed_op oFdiv (ed_var 1) (ed_callB (cLen) B.n_len PySem.boot_len (ad_cons (ed_var 0) ad_nil))) ed_int)))))
abbrev s__law_drawn : Stmt := topS 35
abbrev N__law_drawn : List Str := ["_law_cell_here", "_law_k", "_law_more"]
theorem sc__law_drawn : FnScope N__law_drawn ["_law_cell_here", "_law_k"] (defScope s__law_drawn) := ⟨rfl, rfl, rfl, by decide +kernel, rfl, by decide +kernel, by decide +kernel⟩
theorem ok__law_drawn (B : Blt mg) {f : Addr} {fd : FuncData} (F : Fun K "_law_drawn" "_law_drawn" s__law_drawn f fd) (gm : mg "_law_drawn" = some (.ref f)) : DefD P w K mg base CX0 "_law_drawn" 1 sp__law_drawn := by
  refine fnD F sc__law_drawn gm (F.binds fun _ _ _ _ _ _ us hl => match us, hl with | [_, _], _ => rfl) len__law_drawn (fun cdv A outer s H E hr => ⟨g__law_drawn, ?_, pure__law_drawn⟩)
  exact (sd_cons (sd_set 2 sc__law_drawn.nd (ed_op oMod (ed_op oAdd (ed_op oMul (ed_var 0) ed_int) (ed_op oMul (ed_op oAdd (ed_var 1) ed_int) ed_int)) ed_int))
    (sd_one (sd_ret (ed_op oMod (ed_op oMul (ed_var 2) (ed_var 2)) ed_int))))
abbrev s__law_made : Stmt := topS 38
abbrev N__law_made : List Str := ["_law_top", "_law_under_here", "_law_one", "_law_other"]
theorem sc__law_made : FnScope N__law_made ["_law_top", "_law_under_here"] (defScope s__law_made) := ⟨rfl, rfl, rfl, by decide +kernel, rfl, by decide +kernel, by decide +kernel⟩
theorem ok__law_made (B : Blt mg) {f : Addr} {fd : FuncData} (F : Fun K "_law_made" "_law_made" s__law_made f fd) (gm : mg "_law_made" = some (.ref f)) : DefD P w K mg base CX0 "_law_made" 1 sp__law_made := by
  refine fnD F sc__law_made gm (F.binds fun _ _ _ _ _ _ us hl => match us, hl with | [_, _], _ => rfl) len__law_made (fun cdv A outer s H E hr => ⟨g__law_made, ?_, pure__law_made⟩)
  exact (sd_cons (sd_par 2 3 rfl sc__law_made.nd (ad_cons (ed_callB (cAbs) B.n_abs (by decide +kernel) (ad_cons (ed_var 0) ad_nil)) (ad_cons (ed_var 1) ad_nil)))
    (sd_cons (sd_while PassesOwn.never (td_cmp oGt (ed_var 3) ed_int (nomark _))
    (sd_one (sd_par 2 3 rfl sc__law_made.nd (ad_cons (ed_var 3) (ad_cons (ed_op oMod (ed_var 2) (ed_var 3)) ad_nil)))))
    (sd_one (sd_ret (ed_tup (ad_cons (ed_op oFdiv (ed_var 0) (ed_var 2)) (ad_cons (ed_op oFdiv (ed_var 1) (ed_var 2)) ad_nil)))))))
abbrev s__law_plus : Stmt := topS 39
abbrev N__law_plus : List Str := ["_law_one", "_law_other"]
theorem sc__law_plus : FnScope N__law_plus ["_law_one", "_law_other"] (defScope s__law_plus) := ⟨rfl, rfl, rfl, by decide +kernel, rfl, by decide +kernel, by decide +kernel⟩
theorem ok__law_plus (B : Blt mg) {f : Addr} {fd : FuncData} (F : Fun K "_law_plus" "_law_plus" s__law_plus f fd) (gm : mg "_law_plus" = some (.ref f)) (D__law_made : DefD P w K mg base CX0 "_law_made" 1 sp__law_made) : DefD P w K mg base CX0 "_law_plus" 2 sp__law_plus := by
  refine fnD F sc__law_plus gm (F.binds fun _ _ _ _ _ _ us hl => match us, hl with | [_, _], _ => rfl) len__law_plus (fun cdv A outer s H E hr => ⟨g__law_plus, ?_, pure__law_plus⟩)
  exact (sd_one (sd_ret (ed_call D__law_made hr pass0 (ad_cons (ed_op oAdd (ed_op oMul (ed_ix (ed_var 0) ed_int) (ed_ix (ed_var 1) ed_int)) (ed_op oMul (ed_ix (ed_var 1) ed_int) (ed_ix (ed_var 0) ed_int))) (ad_cons (ed_op oMul (ed_ix (ed_var 0) ed_int) (ed_ix (ed_var 1) ed_int)) ad_nil)))))
abbrev s__law_times : Stmt := topS 40
abbrev N__law_times : List Str := ["_law_one", "_law_other"]
theorem sc__law_times : FnScope N__law_times ["_law_one", "_law_other"] (defScope s__law_times) := ⟨rfl, rfl, rfl, by decide +kernel, rfl, by decide +kernel, by decide +kernel⟩
theorem ok__law_times (B : Blt mg) {f : Addr} {fd : FuncData} (F : Fun K "_law_times" "_law_times" s__law_times f fd) (gm : mg "_law_times" = some (.ref f)) (D__law_made : DefD P w K mg base CX0 "_law_made" 1 sp__law_made) : DefD P w K mg base CX0 "_law_times" 2 sp__law_times := by
  refine fnD F sc__law_times gm (F.binds fun _ _ _ _ _ _ us hl => match us, hl with | [_, _], _ => rfl) len__law_times (fun cdv A outer s H E hr => ⟨g__law_times, ?_, pure__law_times⟩)
  exact (sd_one (sd_ret (ed_call D__law_made hr pass0 (ad_cons (ed_op oMul (ed_ix (ed_var 0) ed_int) (ed_ix (ed_var 1) ed_int)) (ad_cons (ed_op oMul (ed_ix (ed_var 0) ed_int) (ed_ix (ed_var 1) ed_int)) ad_nil)))))
abbrev s__law_under : Stmt := topS 42
abbrev N__law_under : List Str := ["_law_one", "_law_other"]
theorem sc__law_under : FnScope N__law_under ["_law_one", "_law_other"] (defScope s__law_under) := ⟨rfl, rfl, rfl, by decide +kernel, rfl, by decide +kernel, by decide +kernel⟩
theorem ok__law_under (B : Blt mg) {f : Addr} {fd : FuncData} (F : Fun K "_law_under" "_law_under" s__law_under f fd) (gm : mg "_law_under" = some (.ref f)) : DefD P w K mg base CX0 "_law_under" 1 sp__law_under := by
  refine fnD F sc__law_under gm (F.binds fun _ _ _ _ _ _ us hl => match us, hl with | [_, _], _ => rfl) len__law_under (fun cdv A outer s H E hr => ⟨g__law_under, ?_, pure__law_under⟩)
  exact (sd_one (sd_ret (ed_cmp (oLt hr.units0) (ed_op oMul (ed_ix (ed_var 0) ed_int) (ed_ix (ed_var 1) ed_int)) (ed_op oMul (ed_ix (ed_var 1) ed_int) (ed_ix (ed_var 0) ed_int)) (nomark _))))
abbrev s__law_floor : Stmt := topS 44
abbrev N__law_floor : List Str := ["_law_more", "_law_places", "_law_lines", "_law_one", "_law_other", "_law_here"]
theorem sc__law_floor : FnScope N__law_floor ["_law_more"] (defScope s__law_floor) := ⟨rfl, rfl, rfl, by decide +kernel, rfl, by decide +kernel, by decide +kernel⟩
theorem ok__law_floor (B : Blt mg) {f : Addr} {fd : FuncData} (F : Fun K "_law_floor" "_law_floor" s__law_floor f fd) (gm : mg "_law_floor" = some (.ref f)) (D__law_drawn : DefD P w K mg base CX0 "_law_drawn" 1 sp__law_drawn) : DefD P w K mg base CX0 "_law_floor" 2 sp__law_floor := by
  refine fnD F sc__law_floor gm (F.binds fun _ _ _ _ _ _ us hl => match us, hl with | [_], _ => rfl) len__law_floor (fun cdv A outer s H E hr => ⟨g__law_floor, ?_, pure__law_floor⟩)
  exact (sd_cons (sd_set 1 sc__law_floor.nd (ed_op oAdd ed_int (ed_op oMod (ed_var 0) ed_int)))
    (sd_cons (sd_setL 2 sc__law_floor.nd (ld_lst ad_nil))
    (sd_cons (sd_for PassesOwn.never rfl (id_range1 (ad_cons (ed_var 1) ad_nil) B.n_range) (gd_name 3 sc__law_floor.nd)
    (sd_one (sd_for PassesOwn.never rfl (id_range2 (ad_cons (ed_op oAdd (ed_var 3) ed_int) (ad_cons (ed_var 1) ad_nil)) B.n_range) (gd_name 4 sc__law_floor.nd)
    (sd_cons (sd_set 5 sc__law_floor.nd (ed_call D__law_drawn hr pass0 (ad_cons (ed_var 0) (ad_cons (ed_op oAdd (ed_op oMul ed_int (ed_var 3)) (ed_var 4)) ad_nil))))
    (sd_one (sd_if (PW.pt (wd_and (td_cmp (oLt hr.units0) (ed_op oMod (ed_var 5) ed_int) (ed_op oAdd ed_int (ed_op oMod (ed_op oFdiv (ed_var 0) ed_int) ed_int)) (nomark _)) (wd_and1 (td_cmp (oLt hr.units0) (ed_lenOwn 2 B.n_len) ed_int (nomark _)))))
    (sd_one (sd_app 2 (ed_tup (ad_cons (ed_var 3) (ad_cons (ed_var 4) (ad_cons (ed_op oAdd ed_int (ed_op oMod (ed_op oFdiv (ed_var 5) ed_int) (ed_ix (ed_lst (ad_cons ed_int (ad_cons ed_int ad_nil))) (ed_op oMod (ed_op oFdiv (ed_var 0) ed_int) ed_int)))) ad_nil))))))
    sd_nil))))))
    (sd_frz 2 (sd_one (sd_ret (ed_tup (ad_cons (ed_var 1) (ad_cons (ed_var 2) ad_nil)))))))))
abbrev s__law_ware : Stmt := topS 45
abbrev N__law_ware : List Str := ["_law_more", "_law_places", "_law_first"]
theorem sc__law_ware : FnScope N__law_ware ["_law_more", "_law_places"] (defScope s__law_ware) := ⟨rfl, rfl, rfl, by decide +kernel, rfl, by decide +kernel, by decide +kernel⟩
theorem ok__law_ware (B : Blt mg) {f : Addr} {fd : FuncData} (F : Fun K "_law_ware" "_law_ware" s__law_ware f fd) (gm : mg "_law_ware" = some (.ref f)) : DefD P w K mg base CX0 "_law_ware" 1 sp__law_ware := by
  refine fnD F sc__law_ware gm (F.binds fun _ _ _ _ _ _ us hl => match us, hl with | [_, _], _ => rfl) len__law_ware (fun cdv A outer s H E hr => ⟨g__law_ware, ?_, pure__law_ware⟩)
  exact (sd_cons (sd_set 2 sc__law_ware.nd (ed_op oMod (ed_var 0) (ed_var 1)))
    (sd_one (sd_ret (ed_tup (ad_cons (ed_var 2) (ad_cons (ed_op oMod (ed_op oAdd (ed_op oAdd (ed_var 2) ed_int) (ed_op oMod (ed_op oFdiv (ed_var 0) ed_int) (ed_op oSub (ed_var 1) ed_int))) (ed_var 1)) (ad_cons (ed_op oMod (ed_op oFdiv (ed_var 0) ed_int) (ed_ix (ed_lst (ad_cons ed_int (ad_cons ed_int (ad_cons ed_int ad_nil)))) (ed_op oMod (ed_op oFdiv (ed_var 0) ed_int) ed_int))) ad_nil)))))))
abbrev s__law_left : Stmt := topS 46
abbrev N__law_left : List Str := ["_law_floor_here", "_law_row", "_law_place", "_law_found", "_law_much", "_law_line"]
theorem sc__law_left : FnScope N__law_left ["_law_floor_here", "_law_row", "_law_place"] (defScope s__law_left) := ⟨rfl, rfl, rfl, by decide +kernel, rfl, by decide +kernel, by decide +kernel⟩
theorem ok__law_left (B : Blt mg) {f : Addr} {fd : FuncData} (F : Fun K "_law_left" "_law_left" s__law_left f fd) (gm : mg "_law_left" = some (.ref f)) (D__law_times : DefD P w K mg base CX0 "_law_times" 2 sp__law_times) (D__law_plus : DefD P w K mg base CX0 "_law_plus" 2 sp__law_plus) : DefD P w K mg base CX0 "_law_left" 3 sp__law_left := by
  refine fnD F sc__law_left gm (F.binds fun _ _ _ _ _ _ us hl => match us, hl with | [_, _, _], _ => rfl) len__law_left (fun cdv A outer s H E hr => ⟨g__law_left, ?_, pure__law_left⟩)
  exact (sd_cons (sd_set 3 sc__law_left.nd (ed_tup (ad_cons ed_int (ad_cons ed_int ad_nil))))
    (sd_cons (sd_for PassesOwn.never rfl (id_zip (ad_cons (ed_var 1) (ad_cons (ed_ix (ed_var 0) ed_int) ad_nil)) B.n_zip) (gd_tup 2 rfl (gsd_cons (gd_name 4 sc__law_left.nd) (gsd_cons (gd_name 5 sc__law_left.nd) gsd_nil)))
    (sd_one (sd_set 3 sc__law_left.nd (ed_call D__law_plus hr pass0 (ad_cons (ed_var 3) (ad_cons (ed_call D__law_times hr pass0 (ad_cons (ed_var 4) (ad_cons (ed_tup (ad_cons (ed_op oSub (ed_callTy (cInt) B.n_int (by decide +kernel) (ad_cons (ed_cmp (oEq hr.units) (ed_ix (ed_var 5) ed_int) (ed_var 2) (nomark _)) ad_nil)) (ed_callTy (cInt) B.n_int (by decide +kernel) (ad_cons (ed_cmp (oEq hr.units) (ed_ix (ed_var 5) ed_int) (ed_var 2) (nomark _)) ad_nil))) (ad_cons ed_int ad_nil))) ad_nil))) ad_nil))))))
    (sd_one (sd_ret (ed_var 3)))))
abbrev s__law_goes : Stmt := topS 47
abbrev N__law_goes : List Str := ["_law_floor_here", "_law_one", "_law_other", "_law_double", "_law_ware_here", "_law_row", "_law_place", "_law_due", "_law_line", "_law_a", "_law_b"]
theorem sc__law_goes : FnScope N__law_goes ["_law_floor_here", "_law_one", "_law_other", "_law_double"] (defScope s__law_goes) := ⟨rfl, rfl, rfl, by decide +kernel, rfl, by decide +kernel, by decide +kernel⟩
theorem ok__law_goes (B : Blt mg) {f : Addr} {fd : FuncData} (F : Fun K "_law_goes" "_law_goes" s__law_goes f fd) (gm : mg "_law_goes" = some (.ref f)) (D__law_left : DefD P w K mg base CX0 "_law_left" 3 sp__law_left) (D__law_plus : DefD P w K mg base CX0 "_law_plus" 2 sp__law_plus) (D__law_under : DefD P w K mg base CX0 "_law_under" 1 sp__law_under) : DefD P w K mg base CX0 "_law_goes" 4 sp__law_goes := by
  refine fnD F sc__law_goes gm (F.binds fun _ _ _ _ _ _ us hl => match us, hl with | [_, _, _, _], _ => rfl) len__law_goes (fun cdv A outer s H E hr => ⟨g__law_goes, ?_, pure__law_goes⟩)
  exact (sd_cons (sd_for PassesOwn.never rfl (id_zip (ad_cons (ed_tup (ad_cons (ed_var 1) (ad_cons (ed_var 2) ad_nil))) (ad_cons (ed_var 3) ad_nil)) B.n_zip) (gd_tup 2 rfl (gsd_cons (gd_name 4 sc__law_goes.nd) (gsd_cons (gd_name 5 sc__law_goes.nd) gsd_nil)))
    (sd_cons (sd_if (td_cmp (oNe hr.units) (ed_callB (cLen) B.n_len PySem.boot_len (ad_cons (ed_var 5) ad_nil)) (ed_callB (cLen) B.n_len PySem.boot_len (ad_cons (ed_ix (ed_var 0) ed_int) ad_nil)) (nomark _))
    (sd_one (sd_ret ed_bl))
    sd_nil)
    (sd_one (sd_for PassesOwn.never rfl (id_range1 (ad_cons (ed_ix (ed_var 0) ed_int) ad_nil) B.n_range) (gd_name 6 sc__law_goes.nd)
    (sd_cons (sd_set 7 sc__law_goes.nd (ed_op oMul (ed_ix (ed_var 4) ed_int) (ed_op oSub (ed_callTy (cInt) B.n_int (by decide +kernel) (ad_cons (ed_cmp (oEq hr.units) (ed_var 6) (ed_ix (ed_var 4) ed_int) (nomark _)) ad_nil)) (ed_callTy (cInt) B.n_int (by decide +kernel) (ad_cons (ed_cmp (oEq hr.units) (ed_var 6) (ed_ix (ed_var 4) ed_int) (nomark _)) ad_nil)))))
    (sd_one (sd_if (td_cmp (oNe hr.units) (ed_call D__law_left hr pass0 (ad_cons (ed_var 0) (ad_cons (ed_var 5) (ad_cons (ed_var 6) ad_nil)))) (ed_tup (ad_cons (ed_var 7) (ad_cons ed_int ad_nil))) (nomark _))
    (sd_one (sd_ret ed_bl))
    sd_nil)))))))
    (sd_cons (sd_for PassesOwn.never rfl (id_zip3 (ad_cons (ed_ix (ed_var 0) ed_int) (ad_cons (ed_ix (ed_var 3) ed_int) (ad_cons (ed_ix (ed_var 3) ed_int) ad_nil))) B.n_zip) (gd_tup 3 rfl (gsd_cons (gd_name 8 sc__law_goes.nd) (gsd_cons (gd_name 9 sc__law_goes.nd) (gsd_cons (gd_name 10 sc__law_goes.nd) gsd_nil))))
    (sd_one (sd_if (td_val (ed_call D__law_under hr pass0 (ad_cons (ed_tup (ad_cons (ed_ix (ed_var 8) ed_int) (ad_cons ed_int ad_nil))) (ad_cons (ed_call D__law_plus hr pass0 (ad_cons (ed_tup (ad_cons (ed_callB (cAbs) B.n_abs (by decide +kernel) (ad_cons (ed_ix (ed_var 9) ed_int) ad_nil)) (ad_cons (ed_ix (ed_var 9) ed_int) ad_nil))) (ad_cons (ed_tup (ad_cons (ed_callB (cAbs) B.n_abs (by decide +kernel) (ad_cons (ed_ix (ed_var 10) ed_int) ad_nil)) (ad_cons (ed_ix (ed_var 10) ed_int) ad_nil))) ad_nil))) ad_nil))))
    (sd_one (sd_ret ed_bl))
    sd_nil)))
    (sd_one (sd_ret ed_bl))))
abbrev s__law_bars : Stmt := topS 48
abbrev N__law_bars : List Str := ["_law_floor_here", "_law_one", "_law_other", "_law_cut", "_law_room", "_law_line", "_law_ware_here"]
theorem sc__law_bars : FnScope N__law_bars ["_law_floor_here", "_law_one", "_law_other", "_law_cut"] (defScope s__law_bars) := ⟨rfl, rfl, rfl, by decide +kernel, rfl, by decide +kernel, by decide +kernel⟩
theorem ok__law_bars (B : Blt mg) {f : Addr} {fd : FuncData} (F : Fun K "_law_bars" "_law_bars" s__law_bars f fd) (gm : mg "_law_bars" = some (.ref f)) : DefD P w K mg base CX0 "_law_bars" 1 sp__law_bars := by
  refine fnD F sc__law_bars gm (F.binds fun _ _ _ _ _ _ us hl => match us, hl with | [_, _, _, _], _ => rfl) len__law_bars (fun cdv A outer s H E hr => ⟨g__law_bars, ?_, pure__law_bars⟩)
  exact (sd_cons (sd_set 4 sc__law_bars.nd (ed_callB (cSum rfl) B.n_sum (by decide +kernel) (ad_cons (ed_fresh (ld_lc (own := [("_law_line", 5)]) rfl sc__law_bars.nd (id_seq (ed_ix (ed_var 0) ed_int)) (blkOk_by (N := N__law_bars) (sc := defScope s__law_bars) (by decide +kernel)) (fun _ _ _ _ _ => (gd_name 5 sc__law_bars.nd)) (fun _ _ _ _ _ => (tsd_one (td_cmp (oNe hr.units) (ed_cmp oIn (ed_ix (ed_var 5) ed_int) (ed_var 3) (by rfl)) (ed_cmp oIn (ed_ix (ed_var 5) ed_int) (ed_var 3) (by rfl)) (nomark _)))) (fun _ _ _ _ _ => (ed_ix (ed_var 5) ed_int)))) ad_nil)))
    (sd_one (sd_ret (ed_cmp (oLt hr.units0) (ed_var 4) (ed_callB (cSum rfl) B.n_sum (by decide +kernel) (ad_cons (ed_fresh (ld_lc (own := [("_law_ware_here", 6)]) rfl sc__law_bars.nd (id_seq (ed_tup (ad_cons (ed_var 1) (ad_cons (ed_var 2) ad_nil)))) (blkOk_by (N := N__law_bars) (sc := defScope s__law_bars) (by decide +kernel)) (fun _ _ _ _ _ => (gd_name 6 sc__law_bars.nd)) (fun _ _ _ _ _ => (tsd_one (td_cmp (oNe hr.units) (ed_cmp oIn (ed_ix (ed_var 6) ed_int) (ed_var 3) (by rfl)) (ed_cmp oIn (ed_ix (ed_var 6) ed_int) (ed_var 3) (by rfl)) (nomark _)))) (fun _ _ _ _ _ => (ed_ix (ed_var 6) ed_int)))) ad_nil)) (nomark _)))))
abbrev s__law_cuts : Stmt := topS 49
abbrev N__law_cuts : List Str := ["_law_places", "_law_found", "_law_place", "_law_cut"]
theorem sc__law_cuts : FnScope N__law_cuts ["_law_places"] (defScope s__law_cuts) := ⟨rfl, rfl, rfl, by decide +kernel, rfl, by decide +kernel, by decide +kernel⟩
theorem ok__law_cuts (B : Blt mg) {f : Addr} {fd : FuncData} (F : Fun K "_law_cuts" "_law_cuts" s__law_cuts f fd) (gm : mg "_law_cuts" = some (.ref f)) : DefD P w K mg base CX0 "_law_cuts" 1 sp__law_cuts := by
  refine fnD F sc__law_cuts gm (F.binds fun _ _ _ _ _ _ us hl => match us, hl with | [_], _ => rfl) len__law_cuts (fun cdv A outer s H E hr => ⟨g__law_cuts, ?_, pure__law_cuts⟩)
  exact (sd_cons (sd_set 1 sc__law_cuts.nd (ed_lst (ad_cons (ed_lst ad_nil) ad_nil)))
    (sd_cons (sd_for PassesOwn.never rfl (id_range1 (ad_cons (ed_var 0) ad_nil) B.n_range) (gd_name 2 sc__law_cuts.nd)
    (sd_one (sd_set 1 sc__law_cuts.nd (ed_op oAdd (ed_var 1) (ed_fresh (ld_lc (own := [("_law_cut", 3)]) rfl sc__law_cuts.nd (id_seq (ed_var 1)) (blkOk_by (N := N__law_cuts) (sc := defScope s__law_cuts) (by decide +kernel)) (fun _ _ _ _ _ => (gd_name 3 sc__law_cuts.nd)) (fun _ _ _ _ _ => tsd_nil) (fun _ _ _ _ _ => (ed_op oAdd (ed_var 3) (ed_lst (ad_cons (ed_var 2) ad_nil))))))))))
    (sd_one (sd_ret (ed_var 1)))))
abbrev s__law_looked_right : Stmt := topS 50
abbrev N__law_looked_right : List Str := ["_law_floor_here", "_law_one", "_law_other", "_law_more", "_law_told_here", "_law_cuts_here", "_law_j", "_law_here", "_law_cut", "_law_found", "_law_rows", "_law_at", "_law_change", "_law_bent", "_law_odd", "_law_row"]
theorem sc__law_looked_right : FnScope N__law_looked_right ["_law_floor_here", "_law_one", "_law_other", "_law_more"] (defScope s__law_looked_right) := ⟨rfl, rfl, rfl, by decide +kernel, rfl, by decide +kernel, by decide +kernel⟩
theorem ok__law_looked_right (B : Blt mg) {f : Addr} {fd : FuncData} (F : Fun K "_law_looked_right" "_law_looked_right" s__law_looked_right f fd) (gm : mg "_law_looked_right" = some (.ref f)) {a_BadFloor : Addr} (D_both_go : DefD P w K mg base (L2N.CX P w) "both_go" 5 (sp_both_go a_BadFloor)) (D__law_cuts : DefD P w K mg base CX0 "_law_cuts" 1 sp__law_cuts) (D__law_drawn : DefD P w K mg base CX0 "_law_drawn" 1 sp__law_drawn) (D_cut_bars : DefD P w K mg base (L2N.CX P w) "cut_bars" 4 (sp_cut_bars a_BadFloor)) (D__law_bars : DefD P w K mg base CX0 "_law_bars" 1 sp__law_bars) (D__law_plus : DefD P w K mg base CX0 "_law_plus" 2 sp__law_plus) (D_double_goes : DefD P w K mg base (L2N.CX P w) "double_goes" 6 (sp_double_goes a_BadFloor)) (D__law_goes : DefD P w K mg base CX0 "_law_goes" 4 sp__law_goes) : DefD P w K mg base CX0 "_law_looked_right" 7 sp__law_looked_right := by
  refine fnD F sc__law_looked_right gm (F.binds fun _ _ _ _ _ _ us hl => match us, hl with | [_, _, _, _], _ => rfl) len__law_looked_right (fun cdv A outer s H E hr => ⟨(g__law_looked_right a_BadFloor), ?_, (pure__law_looked_right _)⟩)
  exact (sd_cons (sd_set 4 sc__law_looked_right.nd (ed_call D_both_go hr passE (ad_cons (ed_var 0) (ad_cons (ed_var 1) (ad_cons (ed_var 2) ad_nil)))))
    (sd_cons (sd_set 5 sc__law_looked_right.nd (ed_call D__law_cuts hr pass0 (ad_cons (ed_ix (ed_var 0) ed_int) ad_nil)))
    (sd_cons (sd_for PassesOwn.never rfl (id_range1 (ad_cons ed_int ad_nil) B.n_range) (gd_name 6 sc__law_looked_right.nd)
    (sd_cons (sd_set 7 sc__law_looked_right.nd (ed_call D__law_drawn hr pass0 (ad_cons (ed_var 3) (ad_cons (ed_op oAdd ed_int (ed_var 6)) ad_nil))))
    (sd_cons (sd_set 8 sc__law_looked_right.nd (ed_ix (ed_var 5) (ed_op oMod (ed_var 7) (ed_callB (cLen) B.n_len PySem.boot_len (ad_cons (ed_var 5) ad_nil)))))
    (sd_cons (sd_set 9 sc__law_looked_right.nd (ed_call D_cut_bars hr passE (ad_cons (ed_var 0) (ad_cons (ed_var 1) (ad_cons (ed_var 2) (ad_cons (ed_var 8) ad_nil))))))
    (sd_cons (sd_if (PW.pt (wd_or (td_not (td_val (ed_isi (Ts := "bool") (ed_var 9) (by decide) B.isinstance B.n_bool (by decide +kernel)))) (wd_or1 (td_cmp (oNe hr.units) (ed_var 9) (ed_call D__law_bars hr pass0 (ad_cons (ed_var 0) (ad_cons (ed_var 1) (ad_cons (ed_var 2) (ad_cons (ed_var 8) ad_nil))))) (nomark _)))))
    (sd_one (sd_ret ed_bl))
    sd_nil)
    (sd_one (sd_if (PW.pt (wd_and (td_cmp (oEq hr.units) (ed_ix (ed_var 4) ed_int) ed_str (nomark _)) (wd_and1 (td_cmp (oNe hr.units) (ed_ix (ed_var 0) ed_int) (ed_lst ad_nil) (nomark _)))))
    (sd_cons (sd_setRc 10 (own := [("_law_row", 15)]) rfl sc__law_looked_right.nd rfl (sw_true rfl rfl rfl (by decide +kernel)) (id_seq (ed_ix (ed_var 4) ed_int)) (blkOk_by (N := N__law_looked_right) (sc := defScope s__law_looked_right) (by decide +kernel)) (fun _ _ _ _ _ => (gd_name 15 sc__law_looked_right.nd)) (fun _ _ _ _ _ => tsd_nil) (fun _ _ _ _ _ => (ld_copy B.n_list (ed_var 15))))
    (sd_cons (sd_set 11 sc__law_looked_right.nd (ed_op oMod (ed_op oFdiv (ed_var 7) ed_int) (ed_callB (cLen) B.n_len PySem.boot_len (ad_cons (ed_ix (ed_var 0) ed_int) ad_nil))))
    (sd_cons (sd_set 12 sc__law_looked_right.nd (ed_ix (ed_lst (ad_cons (ed_tup (ad_cons ed_int (ad_cons ed_int ad_nil))) (ad_cons (ed_tup (ad_cons (ed_un uNeg ed_int) (ad_cons ed_int ad_nil))) (ad_cons (ed_tup (ad_cons ed_int (ad_cons ed_int ad_nil))) (ad_cons (ed_tup (ad_cons ed_int (ad_cons ed_int ad_nil))) ad_nil))))) (ed_op oMod (ed_op oFdiv (ed_var 7) ed_int) ed_int)))
    (sd_cons (sd_putR 10 (ed_op oMod (ed_var 7) ed_int) (ed_var 11) (ed_call D__law_plus hr pass0 (ad_cons (ed_ixR 10 (ed_op oMod (ed_var 7) ed_int) (ed_var 11)) (ad_cons (ed_var 12) ad_nil))))
    (sd_frz 10 (sd_cons (sd_set 13 sc__law_looked_right.nd (ed_ix (ed_lst (ad_cons (ed_tup (ad_cons (ed_ix (ed_var 10) ed_int) (ad_cons (ed_ix (ed_var 10) ed_int) ad_nil))) (ad_cons (ed_tup (ad_cons (ed_ix (ed_var 10) ed_int) (ad_cons (ed_ix (ed_var 10) ed_int) ad_nil))) ad_nil))) (ed_op oMod (ed_op oFdiv (ed_var 7) (ed_op oPow ed_int ed_int)) ed_int)))
    (sd_one (sd_if (td_cmp (oNe hr.units) (ed_call D_double_goes hr passE (ad_cons (ed_var 0) (ad_cons (ed_var 1) (ad_cons (ed_var 2) (ad_cons (ed_var 13) ad_nil))))) (ed_call D__law_goes hr pass0 (ad_cons (ed_var 0) (ad_cons (ed_var 1) (ad_cons (ed_var 2) (ad_cons (ed_var 13) ad_nil))))) (nomark _))
    (sd_one (sd_ret ed_bl))
    sd_nil))))))))
    sd_nil)))))))
    (sd_cons (sd_set 14 sc__law_looked_right.nd (ed_lst (ad_cons ed_non (ad_cons (ed_tup (ad_cons (ed_lst ad_nil) (ad_cons (ed_lst ad_nil) (ad_cons (ed_lst ad_nil) ad_nil)))) (ad_cons (ed_tup (ad_cons (ed_lst (ad_cons ed_non ad_nil)) (ad_cons (ed_lst (ad_cons ed_non ad_nil)) ad_nil))) (ad_cons (ed_tup (ad_cons (ed_op oMul (ed_lst (ad_cons (ed_tup (ad_cons ed_int (ad_cons ed_int ad_nil))) ad_nil)) ed_int) (ad_cons (ed_lst ad_nil) ad_nil))) (ad_cons (ed_lst (ad_cons (ed_lst ad_nil) (ad_cons (ed_lst ad_nil) ad_nil))) ad_nil)))))))
    (sd_cons (sd_if (td_cmp oNotB (ed_call D_double_goes hr passE (ad_cons (ed_var 0) (ad_cons (ed_var 1) (ad_cons (ed_var 2) (ad_cons (ed_ix (ed_var 14) (ed_op oMod (ed_var 3) ed_int)) ad_nil))))) ed_bl (nomark _))
    (sd_one (sd_ret ed_bl))
    sd_nil)
    (sd_one (sd_ret (ed_cmp oIsB (ed_call D_cut_bars hr passE (ad_cons (ed_var 0) (ad_cons (ed_var 1) (ad_cons (ed_var 2) (ad_cons (ed_ix (ed_lst (ad_cons ed_non (ad_cons (ed_lst (ad_cons ed_int ad_nil)) (ad_cons (ed_lst (ad_cons ed_int (ad_cons ed_int ad_nil))) (ad_cons (ed_lst (ad_cons ed_int (ad_cons ed_int ad_nil))) (ad_cons (ed_tup (ad_cons ed_int ad_nil)) (ad_cons (ed_lst (ad_cons ed_bl ad_nil)) ad_nil))))))) (ed_op oMod (ed_op oFdiv (ed_var 3) ed_int) ed_int)) ad_nil))))) ed_bl (nomark _)))))))))
abbrev s_law : Stmt := topS 51
abbrev N_law : List Str := ["_law_script", "_law_k", "_law_more", "_law_floor_here", "_law_one", "_law_other", "_law_told_here", "_law_barred", "_law_bad", "_law_none", "_law_odd", "_law_some", "_law_cut", "_law_row", "_law_much"]
theorem sc_law : FnScope N_law ["_law_script"] (defScope s_law) := ⟨rfl, rfl, rfl, by decide +kernel, rfl, by decide +kernel, by decide +kernel⟩
theorem ok_law (B : Blt mg) {f : Addr} {fd : FuncData} (F : Fun K "law" "law" s_law f fd) (gm : mg "law" = some (.ref f)) {a_BadFloor : Addr} (D__law_cell : DefD P w K mg base CX0 "_law_cell" 1 sp__law_cell) (D__law_drawn : DefD P w K mg base CX0 "_law_drawn" 1 sp__law_drawn) (D__law_floor : DefD P w K mg base CX0 "_law_floor" 2 sp__law_floor) (D__law_ware : DefD P w K mg base CX0 "_law_ware" 1 sp__law_ware) (D_both_go : DefD P w K mg base (L2N.CX P w) "both_go" 5 (sp_both_go a_BadFloor)) (D__law_cuts : DefD P w K mg base CX0 "_law_cuts" 1 sp__law_cuts) (D__law_bars : DefD P w K mg base CX0 "_law_bars" 1 sp__law_bars) (D_cut_bars : DefD P w K mg base (L2N.CX P w) "cut_bars" 4 (sp_cut_bars a_BadFloor)) (D__law_goes : DefD P w K mg base CX0 "_law_goes" 4 sp__law_goes) (D_double_goes : DefD P w K mg base (L2N.CX P w) "double_goes" 6 (sp_double_goes a_BadFloor)) (D__law_looked_right : DefD P w K mg base CX0 "_law_looked_right" 7 sp__law_looked_right) {c Pt : Addr} {wd : Addr → Str → Prop} (TT : ToldOk K mg 6 wd) (TB : LamX.TabB base mg c Pt) (hm : (Pt, lamQ "law") ∈ Tn.ns) (hu : ∀ p ∈ Tn.ns, p.1 = Pt → p.2 = lamQ "law") (hc : fd.code = .ref c) (hW : WdOk wd a_BadFloor) : FnOk P w K mg base CX0 9 f fd ["_law_script"] (spD K (sp_law)) := by
  refine fnC F sc_law hc len_law (fun A outer s H E hr => ⟨(g_law a_BadFloor wd), ?_, (pure_law _ _ hW)⟩)
  exact (sd_cons (sd_for PassesOwn.never rfl (id_range1 (ad_cons (ed_callB (cMax2 rfl) B.n_max (by decide +kernel) (ad_cons ed_int (ad_cons (ed_callB (cMin2 rfl) B.n_min (by decide +kernel) (ad_cons ed_int (ad_cons (ed_callB (cLen) B.n_len PySem.boot_len (ad_cons (ed_var 0) ad_nil)) ad_nil))) ad_nil))) ad_nil) B.n_range) (gd_name 1 sc_law.nd)
    (sd_cons (sd_set 2 sc_law.nd (ed_call D__law_drawn hr pass0 (ad_cons (ed_call D__law_cell hr pass0 (ad_cons (ed_var 0) (ad_cons (ed_var 1) ad_nil))) (ad_cons (ed_var 1) ad_nil))))
    (sd_cons (sd_set 3 sc_law.nd (ed_call D__law_floor hr pass0 (ad_cons (ed_var 2) ad_nil)))
    (sd_cons (sd_set 4 sc_law.nd (ed_call D__law_ware hr pass0 (ad_cons (ed_op oFdiv (ed_var 2) ed_int) (ad_cons (ed_ix (ed_var 3) ed_int) ad_nil))))
    (sd_cons (sd_set 5 sc_law.nd (ed_call D__law_ware hr pass0 (ad_cons (ed_op oFdiv (ed_var 2) (ed_op oPow ed_int ed_int)) (ad_cons (ed_ix (ed_var 3) ed_int) ad_nil))))
    (sd_cons (sd_set 6 sc_law.nd (ed_tell TT TB hm hu hr (fun _ _ _ _ _ _ _ hr => xd_call D_both_go hr passLam (ad_cons (ed_var 3) (ad_cons (ed_var 4) (ad_cons (ed_var 5) ad_nil))))))
    (sd_cons (sd_if (PW.pt (wd_or (td_not (td_val (ed_isi (Ts := "tuple") (ed_var 6) (by decide) B.isinstance B.n_tuple (by decide +kernel)))) (wd_or1 (td_cmp (oNe hr.units) (ed_callB (cLen) B.n_len PySem.boot_len (ad_cons (ed_var 6) ad_nil)) ed_int (nomark _)))))
    (sd_one (sd_ret ed_bl))
    sd_nil)
    (sd_cons (sd_set 7 sc_law.nd (ed_callB (cAny rfl) B.n_any (by decide +kernel) (ad_cons (ed_fresh (ld_lc (own := [("_law_cut", 12)]) rfl sc_law.nd (id_seq (ed_call D__law_cuts hr pass0 (ad_cons (ed_ix (ed_var 3) ed_int) ad_nil))) (blkOk_by (N := N_law) (sc := defScope s_law) (by decide +kernel)) (fun _ _ _ _ _ => (gd_name 12 sc_law.nd)) (fun _ _ _ _ _ => tsd_nil) (fun _ _ _ _ _ => (ed_call D__law_bars hr pass0 (ad_cons (ed_var 3) (ad_cons (ed_var 4) (ad_cons (ed_var 5) (ad_cons (ed_var 12) ad_nil)))))))) ad_nil)))
    (sd_cons (sd_if (td_cmp (oEq hr.units) (ed_ix (ed_var 6) ed_int) ed_str (nomark _))
    (sd_cons (sd_if (PW.pt (wd_or (td_not (td_val (ed_var 7))) (wd_or1 (td_not (td_val (ed_call D__law_bars hr pass0 (ad_cons (ed_var 3) (ad_cons (ed_var 4) (ad_cons (ed_var 5) (ad_cons (ed_ix (ed_var 6) ed_int) ad_nil))))))))))
    (sd_one (sd_ret ed_bl))
    sd_nil)
    (sd_one (sd_if (td_cmp oNotB (ed_call D_cut_bars hr passE (ad_cons (ed_var 3) (ad_cons (ed_var 4) (ad_cons (ed_var 5) (ad_cons (ed_ix (ed_var 6) ed_int) ad_nil))))) ed_bl (nomark _))
    (sd_one (sd_ret ed_bl))
    sd_nil)))
    (sd_one (sd_if (PW.pt (wd_or (td_cmp (oNe hr.units) (ed_ix (ed_var 6) ed_int) ed_str (nomark _)) (wd_or (td_val (ed_var 7)) (wd_or1 (td_not (td_val (ed_call D__law_goes hr pass0 (ad_cons (ed_var 3) (ad_cons (ed_var 4) (ad_cons (ed_var 5) (ad_cons (ed_ix (ed_var 6) ed_int) ad_nil)))))))))))
    (sd_one (sd_ret ed_bl))
    (sd_one (sd_if (td_not (td_val (ed_callB (cAll rfl) B.n_all (by decide +kernel) (ad_cons (ed_fresh (ld_lc (own := [("_law_row", 13)]) rfl sc_law.nd (id_seq (ed_ix (ed_var 6) ed_int)) (blkOk_by (N := N_law) (sc := defScope s_law) (by decide +kernel)) (fun _ _ _ _ _ => (gd_name 13 sc_law.nd)) (fun _ _ _ _ _ => tsd_nil) (fun _ _ _ _ _ => (ed_callB (cAll rfl) B.n_all (by decide +kernel) (ad_cons (ed_fresh (ld_lc (own := [("_law_much", 14)]) rfl sc_law.nd (id_seq (ed_var 13)) (blkOk_by (by kernel_rfl)) (fun _ _ _ _ _ => (gd_name 14 sc_law.nd)) (fun _ _ _ _ _ => tsd_nil) (fun _ _ _ _ _ => (ed_cmp (oLt hr.units0) (ed_ix (ed_var 14) ed_int) ed_int (nomark _))))) ad_nil))))) ad_nil))))
    (sd_one (sd_ret ed_bl))
    (sd_one (sd_if (td_cmp oNotB (ed_call D_double_goes hr passE (ad_cons (ed_var 3) (ad_cons (ed_var 4) (ad_cons (ed_var 5) (ad_cons (ed_ix (ed_var 6) ed_int) ad_nil))))) ed_bl (nomark _))
    (sd_one (sd_ret ed_bl))
    sd_nil)))))))
    (sd_cons (sd_if (td_not (td_val (ed_call D__law_looked_right hr pass0 (ad_cons (ed_var 3) (ad_cons (ed_var 4) (ad_cons (ed_var 5) (ad_cons (ed_op oFdiv (ed_var 2) (ed_op oPow ed_int ed_int)) ad_nil)))))))
    (sd_one (sd_ret ed_bl))
    sd_nil)
    (sd_cons (sd_set 8 sc_law.nd (ed_lst (ad_cons (ed_tup (ad_cons ed_int (ad_cons (ed_lst ad_nil) ad_nil))) (ad_cons (ed_tup (ad_cons ed_int (ad_cons (ed_lst ad_nil) ad_nil))) (ad_cons (ed_tup (ad_cons ed_int (ad_cons (ed_lst (ad_cons (ed_tup (ad_cons ed_int (ad_cons ed_int (ad_cons ed_int ad_nil)))) ad_nil)) ad_nil))) (ad_cons (ed_tup (ad_cons ed_int (ad_cons (ed_lst (ad_cons (ed_tup (ad_cons ed_int (ad_cons ed_int (ad_cons ed_int ad_nil)))) ad_nil)) ad_nil))) ad_nil))))))
    (sd_cons (sd_set 8 sc_law.nd (ed_op oAdd (ed_var 8) (ed_lst (ad_cons (ed_tup (ad_cons ed_int (ad_cons (ed_lst (ad_cons (ed_tup (ad_cons ed_int (ad_cons ed_int (ad_cons ed_int ad_nil)))) (ad_cons (ed_tup (ad_cons ed_int (ad_cons ed_int (ad_cons ed_int ad_nil)))) ad_nil))) ad_nil))) (ad_cons (ed_tup (ad_cons ed_int (ad_cons (ed_lst (ad_cons (ed_lst (ad_cons ed_int (ad_cons ed_int (ad_cons ed_int ad_nil)))) ad_nil)) ad_nil))) (ad_cons (ed_tup (ad_cons ed_int (ad_cons (ed_lst (ad_cons (ed_tup (ad_cons ed_int (ad_cons ed_int (ad_cons ed_int ad_nil)))) ad_nil)) ad_nil))) ad_nil))))))
    (sd_cons (sd_set 9 sc_law.nd (ed_ix (ed_var 8) (ed_op oMod (ed_op oFdiv (ed_var 2) (ed_op oPow ed_int ed_int)) ed_int)))
    (sd_cons (sd_set 10 sc_law.nd (ed_ix (ed_lst (ad_cons (ed_tup (ad_cons ed_int (ad_cons ed_int (ad_cons ed_int ad_nil)))) (ad_cons (ed_tup (ad_cons ed_int (ad_cons ed_int (ad_cons (ed_un uNeg ed_int) ad_nil)))) (ad_cons (ed_tup (ad_cons ed_int (ad_cons ed_int (ad_cons ed_int ad_nil)))) (ad_cons (ed_tup (ad_cons ed_int (ad_cons ed_int (ad_cons ed_int ad_nil)))) (ad_cons (ed_tup (ad_cons ed_int (ad_cons ed_int ad_nil))) (ad_cons (ed_lst (ad_cons ed_int (ad_cons ed_int (ad_cons ed_int ad_nil)))) ad_nil))))))) (ed_op oMod (ed_op oFdiv (ed_var 2) (ed_op oPow ed_int ed_int)) ed_int)))
    (sd_cons (sd_setL 11 sc_law.nd (ld_lst (ad_cons (ed_tell TT TB hm hu hr (fun _ _ _ _ _ _ _ hr => xd_call D_both_go hr passLam (ad_cons (ed_var 9) (ad_cons (ed_tup (ad_cons ed_int (ad_cons ed_int (ad_cons ed_int ad_nil)))) (ad_cons (ed_tup (ad_cons ed_int (ad_cons ed_int (ad_cons ed_int ad_nil)))) ad_nil))))) ad_nil)))
    (sd_cons (sd_app 11 (ed_tell TT TB hm hu hr (fun _ _ _ _ _ _ _ hr => xd_call D_both_go hr passLam (ad_cons (ed_var 3) (ad_cons (ed_var 10) (ad_cons (ed_var 5) ad_nil))))))
    (sd_cons (sd_app 11 (ed_tell TT TB hm hu hr (fun _ _ _ _ _ _ _ hr => xd_call D_double_goes hr passLam (ad_cons (ed_var 3) (ad_cons (ed_var 4) (ad_cons (ed_var 10) (ad_cons ed_non ad_nil)))))))
    (sd_cons (sd_app 11 (ed_tell TT TB hm hu hr (fun _ _ _ _ _ _ _ hr => xd_call D_cut_bars hr passLam (ad_cons (ed_var 3) (ad_cons (ed_var 10) (ad_cons (ed_var 4) (ad_cons ed_non ad_nil)))))))
    (sd_frz 11 (sd_one (sd_if (td_cmp (oNe hr.units) (ed_var 11) (ed_op oMul (ed_lst (ad_cons ed_str ad_nil)) ed_int) (nomark _))
    (sd_one (sd_ret ed_bl))
    sd_nil)))))))))))))))))))))
    (sd_one (sd_ret ed_bl)))
end
end Dy.K4

/-! # What the module's top has left. -/
namespace Dy
open PySem PySem.Spec PyProof.Rows L2
/-! ### defs, constants, classes, as the written part tells them -/
structure DefK (K : PySem.W.Frag) (x : Str) (st : Stmt) : Prop where
  ex : ∃ (f : Addr) (fd : FuncData), PySem.W.nsIn K mainGlobals x = some (some (.ref f)) ∧ Fun K x x st f fd
theorem defK {K : PySem.W.Frag} {x : Str} {st : Stmt} {f : Addr} {oc : Value} {od an : Option Addr} {osl : Array (Option Value)} {kV doc pm cdv ct : Value} (a : PySem.W.nsIn K mainGlobals x = some (some (.ref f)))
    (l : K.lookup f = some ⟨oc, od, .func (PySem.W.fnOf x x (defArgs st) (defBody st) (defScope st) .none kV doc pm an cdv ct), osl⟩) (c : PySem.W.codeIn K cdv x = true) (k : PySem.W.keepIn K (.ref f) = true) : DefK K x st :=
  ⟨f, _, a, fun_mk l c k⟩
/-- a def that makes lambdas: its code object and table -/
structure DefT (K : PySem.W.Frag) (x : Str) (st : Stmt) (f c P : Addr) : Prop where
  ex : ∃ (fd : FuncData) (o : Obj) (e : Value) (dd : Option Addr) (vs : Array Value) (sl : Array (Option Value)), PySem.W.nsIn K mainGlobals x = some (some (.ref f)) ∧ Fun K x x st f fd ∧ fd.code = .ref c ∧ K.lookup f = some o ∧ o.data = .func fd ∧
    K.lookup c = some ⟨e, dd, .fields vs, sl⟩ ∧ vs[11]? = some (.ref P) ∧ PySem.W.codeHdIn K c P = true ∧ K.lookup P = none
theorem defT {K : PySem.W.Frag} {x : Str} {st : Stmt} {f c P : Addr} {oc e : Value} {od an dd : Option Addr} {osl sl : Array (Option Value)} {kV doc pm ct : Value} {vs : Array Value} (a : PySem.W.nsIn K mainGlobals x = some (some (.ref f)))
    (l : K.lookup f = some ⟨oc, od, .func (PySem.W.fnOf x x (defArgs st) (defBody st) (defScope st) .none kV doc pm an (.ref c) ct), osl⟩) (cc : PySem.W.codeIn K (.ref c) x = true) (k : PySem.W.keepIn K (.ref f) = true)
    (lc : K.lookup c = some ⟨e, dd, .fields vs, sl⟩) (hP : vs[11]? = some (.ref P)) (hc : PySem.W.codeHdIn K c P = true) (nP : K.lookup P = none) : DefT K x st f c P :=
  ⟨_, _, e, dd, vs, sl, a, fun_mk l cc k, rfl, l, rfl, lc, hP, hc, nP⟩
structure ExcK (K : PySem.W.Frag) (x : Str) (C : Addr) : Prop where
  a : PySem.W.nsIn K mainGlobals x = some (some (.ref C))
  k : PySem.W.keepIn K (.ref C) = true
  x : PySem.W.excIn K C [.type "ValueError", .type "Exception", .type "BaseException", .type "object"] "ValueError.__new__" = true
  b : PySem.W.subIn K (.ref C) (.type "BaseException") = some true
  v : PySem.W.subIn K (.ref C) (.type "ValueError") = some true
  t : PySem.W.typeIn K (.ref C) = some (.type "type")
  i : PySem.W.isClsIn K C = true
  s : PySem.W.subIn K (.ref C) (.ref C) = some true
  e : ExcC K C
theorem kit_ref {K : PySem.W.Frag} {C X : Addr} {b : Bool} (h1 : PySem.W.isClsIn K X = true) (h2 : PySem.W.typeIn K (.ref X) = some (.type "type")) (h3 : PySem.W.subIn K (.ref C) (.ref X) = some b) (hs : PySem.W.subIn K (.ref C) (.ref C) = some true) : PySem.W.kitOne K (.ref C) (.ref X) = some b := by
  unfold PySem.W.kitOne
  by_cases h : C = X
  · subst h
    rw [h3] at hs
    rw [hs]
    simp
  · rw [if_neg (by simpa using h)]
    have e2 : ((PySem.W.clsIn K X).isSome && PySem.W.typeIn K (.ref X) == some (.type "type")) = true := by
      have h1' : (PySem.W.clsIn K X).isSome = true := h1
      rw [h1', h2] <;> rfl
    show (if ((PySem.W.clsIn K X).isSome && PySem.W.typeIn K (.ref X) == some (.type "type")) = true then PySem.W.subIn K (.ref C) (.ref X) else none) = some b
    rw [if_pos e2]
    exact h3
theorem kit_val {K : PySem.W.Frag} {C : Addr} (h : PySem.W.subIn K (.ref C) (.type "ValueError") = some true) : PySem.W.kitOne K (.ref C) (.type "ValueError") = some true := by
  have e : PySem.W.kitMeta "ValueError" = true := by decide +kernel
  show (if (Value.ref C == Value.type "ValueError") = true then some true else (if PySem.W.kitMeta "ValueError" = true then PySem.W.subIn K (.ref C) (.type "ValueError") else none)) = some true
  rw [if_neg (by simp), if_pos e]
  exact h
/-! ### the end of a row: tables of all the defs that make lambdas -/
theorem walk_top {l : PySem.W.OpenLaw} {n k : Nat} {q : Program} {loose : List Str} {XP : (Str → Option Value) → Heap → Prop} {YP : World → Heap → Prop} {d : DefRec} {K : Params → PySem.W.Frag} {CX : World → CXT} {x : Str}
    (hn : l.most = some n) (hn2 : n ≤ sizeLine) (hdf : d.params.defaults = []) (hr : Room k callerA) (hY : ∀ (w : World) (h : Heap), YP w h → (K w.params).In h)
    (F : ∀ (w : World) (mg : Str → Option Value) (fa : Addr) (h : Heap), (K w.params).In h → h.Ns mainGlobals mg → mg d.name = some (.ref fa) → (∀ (y : Str) (fe : Addr), ((recsOf q).any fun e => e.name == y) = true → mg y = some (.ref fe) → LamX.OwnTab (K w.params) fe h) → LamX.LawAtS l w (K w.params) (CX w) k n x mg fa h)
    (hCX : ∀ (w : World) (H : Hp) (s : Shared) (e : Value) (s' : Shared), CX w [] H s (fun _ _ _ => False) e s' → False) :
    PySem.W.WalkO q loose XP YP l.row.toRowW d [] (fun f vs => PySem.call f vs) := by
  refine Att.attach_callB hn hdf fun w s₀ s₁ mg mb fa o pm cd doc a vs ns G Y ho hd hcd hmg hobj hints hlen hbits hg => ?_
  have KX := hY w _ Y
  have own : ∀ (y : Str) (fe : Addr), ((recsOf q).any fun e => e.name == y) = true → mg y = some (.ref fe) → LamX.OwnTab (K w.params) fe s₁.heap := fun y fe hany hy c P o1 fd1 e dd vs1 sl k1 k2 k3 k4 k5 => by
    obtain ⟨dL, hm, hn1⟩ := List.any_eq_true.mp hany
    obtain ⟨a', o', fd', c', P', h1, h2, h3, h4, h5, ⟨oc, vc, e1, _, e3, e4⟩, hP⟩ := G.T.tab dL hm
    rw [beq_iff_eq.mp hn1, hy] at h1
    cases h1
    rw [KX _ _ k1] at h2
    cases h2
    rw [k2] at h3
    cases h3
    rw [k3] at h4
    cases h4
    rw [KX _ _ k4] at e1
    cases e1
    cases e3
    rw [k5] at e4
    cases e4
    exact hP
  obtain ⟨fd, cs, sp, hT, nT, hC, hb, hsp, hF⟩ := F w mg fa _ KX G.T.g hmg own
  exact LamX.law_callTs KX G.T.g G.T.b G.T.builtins G.T.nolimit hg hT nT hC G.T.bmain hobj hints (Nat.le_trans hlen hn2) hr hF hb (fun H hH hS => hsp H a ns hlen hbits hH hS) fun H e s' => hCX w H s₁ e s'
theorem gc_int {K : PySem.W.Frag} {h : Heap} {mg : Str → Option Value} {x : Str} {i : Int} {t : Tok} (X : K.In h) (G : h.Ns mainGlobals mg) (a : PySem.W.nsIn K mainGlobals x = some (some (.int i t))) : Gc K mg x (.int i) :=
  ⟨_, .int i, PySem.W.mg_of X G a, ⟨t, rfl⟩, fun F => .int i⟩
theorem gc_pair {K : PySem.W.Frag} {h : Heap} {mg : Str → Option Value} {x : Str} {p : Addr} {i j : Int} {t u : Tok} {dd : Option Addr} {n : Nat} {sl : Array (Option Value)} (X : K.In h) (G : h.Ns mainGlobals mg) (a : PySem.W.nsIn K mainGlobals x = some (some (.ref p)))
    (l : K.lookup p = some ⟨.type "tuple", dd, .seq #[.int i t, .int j u] n, sl⟩) : Gc K mg x (.tup [.int i, .int j]) :=
  ⟨_, .ref p, PySem.W.mg_of X G a, rfl, fun F => by
    have hv : Vals [V.int i, V.int j] [Value.int i t, Value.int j u] := .cons (show RelV (.int i) _ from ⟨t, rfl⟩) (.cons (show RelV (.int j) _ from ⟨u, rfl⟩) .nil)
    have hz : (#[Value.int i t, Value.int j u] : Array Value).size ≤ sizeLine := by
      rw [sizeLine_eq]
      show 2 ≤ 16777216
      omega
    exact .tup (xs := [V.int i, V.int j]) (.inr ⟨_, #[.int i t, .int j u], n, l, rfl, rfl, hz, hv⟩) (.cons (.int i) (.cons (.int j) .nil))⟩
section
variable [Tn] {P : Program} {w : World} {K : PySem.W.Frag} {mg : Str → Option Value} {base : Heap}
theorem DefD.mono {CX : CXT} {x : Str} {j k : Nat} {φ : Spc} (h : DefD P w K mg base CX x j φ) (le : j ≤ k) : DefD P w K mg base CX x k φ := by
  obtain ⟨f, fd, ps, F, a, b, c⟩ := h.ex
  exact ⟨f, fd, ps, F.mono le, a, b, c⟩
/-- a promise of nothing -/
theorem defD_none {CX : CXT} {x : Str} {st : Stmt} {f : Addr} {fd : FuncData} {k : Nat} {ps : List Str} (F : Fun K x x st f fd) (gm : mg x = some (.ref f)) (hb : Binds K fd ps []) : DefD P w K mg base CX x k (fun _ _ _ => False) :=
  ⟨f, fd, ps, ⟨fun vs H Q E h => by obtain ⟨_, _, _, _, _, _, _, z, _⟩ := h; exact z.elim, fun A outer s H args us vs Q E _ _ _ _ h => by obtain ⟨_, _, _, _, _, _, _, z, _⟩ := h; exact z.elim⟩, gm, F.kp, hb⟩
end
end Dy

/-! # Methods that the module's top has left. -/
namespace Dy
open PySem PySem.Spec PyProof.Rows L2
structure MetK (K : PySem.W.Frag) (m x : Str) (st : Stmt) (C : Addr) : Prop where
  ex : ∃ (f : Addr) (fd : FuncData), Fun K m x st f fd ∧ Meth K C m f
theorem metK {K : PySem.W.Frag} {m x : Str} {st : Stmt} {C f : Addr} {oc : Value} {od an : Option Addr} {osl : Array (Option Value)} {kV doc pm cdv ct : Value} (a : PySem.W.findIn K (.ref C) m = some (some (.ref f))) (b : PySem.W.isFn K (.ref f) = true) (k : PySem.W.keepIn K (.ref f) = true)
    (l : K.lookup f = some ⟨oc, od, .func (PySem.W.fnOf m x (defArgs st) (defBody st) (defScope st) .none kV doc pm an cdv ct), osl⟩) (c : PySem.W.codeIn K cdv x = true) : MetK K m x st C :=
  ⟨f, _, fun_mk l c k, ⟨a, b, k⟩⟩
structure MakK (K : PySem.W.Frag) (x : Str) (st : Stmt) (C : Addr) : Prop where
  ex : ∃ (f : Addr) (fd : FuncData), Fun K "__init__" x st f fd ∧ Mk K C f
theorem makK {K : PySem.W.Frag} {x : Str} {st : Stmt} {C f : Addr} {oc : Value} {od an : Option Addr} {osl : Array (Option Value)} {kV doc pm cdv ct : Value} (mk : PySem.W.makesIn K C = true) (a : PySem.W.findIn K (.ref C) "__init__" = some (some (.ref f))) (b : PySem.W.isFn K (.ref f) = true) (kp : PySem.W.keepIn K (.ref C) = true)
    (k : PySem.W.keepIn K (.ref f) = true) (l : K.lookup f = some ⟨oc, od, .func (PySem.W.fnOf "__init__" x (defArgs st) (defBody st) (defScope st) .none kV doc pm an cdv ct), osl⟩) (c : PySem.W.codeIn K cdv x = true) : MakK K x st C :=
  ⟨f, _, fun_mk l c k, ⟨mk, a, b, kp⟩⟩
end Dy

/-! # The end. -/
namespace Dy.K4
open PySem PySem.Spec PyProof.Rows L2
section
variable [Tn]
abbrev s_word : Stmt := topS 36
abbrev N_word : List Str := ["_law_e", "_law_flags"]
theorem sc_word : FnScope N_word ["_law_e"] (defScope s_word) := ⟨rfl, rfl, rfl, by decide +kernel, rfl, by decide +kernel, by decide +kernel⟩
theorem body_word {P : Program} {w : World} {K : PySem.W.Frag} {mg : Str → Option Value} {base : Heap} {f a aN aF aL C : Addr} {cdv : Value} {A : Around} {outer : List Env} {s : Shared} {H : Hp} {oe : Obj} (B : Blt mg) (gN : mg "BadNet" = some (.ref aN)) (gF : mg "BadFlow" = some (.ref aF)) (gL : mg "BadFloor" = some (.ref aL)) (ec : ExcC K C)
    (he : HotE (L2H.cxH CX0 P w K mg base N_word "_law_word" (defScope s_word) f cdv A outer s H E0 (a, oe)) a oe C) : PSs (L2H.cxH CX0 P w K mg base N_word "_law_word" (defScope s_word) f cdv A outer s H E0 (a, oe)) (defBody s_word) (tWord K C a aN aF aL) := by
  have va : ∀ {p : Pos}, PE (L2H.cxH CX0 P w K mg base N_word "_law_word" (defScope s_word) f cdv A outer s H E0 (a, oe)) (.Name "_law_e" p) (tVar 0) := pe_var rfl (.inl rfl) (by decide) (by decide)
  have vf : ∀ {p : Pos}, PE (L2H.cxH CX0 P w K mg base N_word "_law_word" (defScope s_word) f cdv A outer s H E0 (a, oe)) (.Name "_law_flags" p) (tVar 1) := pe_var rfl (.inl rfl) (by decide) (by decide)
  exact pss_cons (ps_set (i := 1) sc_word.nd rfl (.inl rfl) (pe_lst (pa_cons (pe_callB (call_isH ec he) rfl B.isinstance (by decide +kernel) (pa_cons va (pa_cons (pe_glob rfl gN rfl) pa_nil))) (pa_cons (pe_callB (call_isH ec he) rfl B.isinstance (by decide +kernel) (pa_cons va (pa_cons (pe_glob rfl gF rfl) pa_nil))) (pa_cons (pe_callB (call_isH ec he) rfl B.isinstance (by decide +kernel) (pa_cons va (pa_cons (pe_glob rfl gL rfl) pa_nil))) pa_nil)))))
    (pss_cons (ps_if (PW.pt (pw_or (pt_cmpR op_ne (pe_callB (call_hotSum he) rfl B.n_sum (by decide +kernel) (pa_cons (pe_hotInts he vf B.n_int (by decide +kernel) (by decide +kernel) rfl (by decide +kernel) rfl rfl rfl) pa_nil)) pe_int (nomark _)) (pw_or1 (pt_not (pt_val (pe_callB (call_isH ec he) rfl B.isinstance (by decide +kernel) (pa_cons va (pa_cons (pe_bltn (v := .ty "ValueError") rfl B.n_ValueError (by decide +kernel) rfl) pa_nil)))))))) (pss_one (ps_ret pe_str)) pss_nil)
    (pss_one (ps_ret (pe_ix ix_list (pe_lst (pa_cons pe_str (pa_cons pe_str (pa_cons pe_str pa_nil)))) (pe_bm PySem.F.plainAttrs_list PySem.F.slot_list_index PySem.F.type_list_index mt_index vf (pa_cons pe_bl pa_nil)) (fun _ _ => rfl)))))
abbrev s_told : Stmt := topS 37
theorem sc_told : FnScope (NTold "_law_deed" "_law_e") ["_law_deed"] (defScope s_told) := ⟨rfl, rfl, rfl, by decide +kernel, rfl, by decide +kernel, by decide +kernel⟩
theorem told_ok {K : PySem.W.Frag} {mg : Str → Option Value} {aN aF aL aW fw ft : Addr} {fdw fdt : FuncData} (B : Blt mg) (gN : mg "BadNet" = some (.ref aN)) (gF : mg "BadFlow" = some (.ref aF)) (gL : mg "BadFloor" = some (.ref aL)) (gW : mg "WareError" = some (.ref aW))
    (Fw : Fun K "_law_word" "_law_word" s_word fw fdw) (gw : mg "_law_word" = some (.ref fw)) (Ft : Fun K "_law_told" "_law_told" s_told ft fdt) (gt : mg "_law_told" = some (.ref ft))
    (eN : ExcK K "BadNet" aN) (eF : ExcK K "BadFlow" aF) (eL : ExcK K "BadFloor" aL) (x : ∀ C w, Word3 aN aF aL C w → PySem.W.exmOne K (.ref C) (.ref aW) = some true)
    (nf : PySem.W.subIn K (.ref aN) (.ref aF) = some false) (nl : PySem.W.subIn K (.ref aN) (.ref aL) = some false) (fn : PySem.W.subIn K (.ref aF) (.ref aN) = some false) (fl : PySem.W.subIn K (.ref aF) (.ref aL) = some false) (ln : PySem.W.subIn K (.ref aL) (.ref aN) = some false) (lf : PySem.W.subIn K (.ref aL) (.ref aF) = some false) : ToldOk K mg 6 (Word3 aN aF aL) := by
  have bt : Binds K fdt ["_law_deed"] [] := Ft.binds fun _ _ _ _ _ _ us hl => match us, hl with | [_], _ => rfl
  have bw : Binds K fdw ["_law_e"] [] := Fw.binds fun _ _ _ _ _ _ us hl => match us, hl with | [_], _ => rfl
  refine ⟨s_told, ft, aW, fdt, _, _, _, _, _, _, _, _, _, _, Ft, bt, sc_told, rfl, rfl, rfl, rfl, gW, gt, x, fun Z a1 C w oe hK hm hN hs hw he hr => ?_⟩
  subst hK hm
  have hg : Gl Z "_law_word" := by show Z.env.scope.names.lookup ("_law_word" : Str) = some .globalImplicit; rw [hs]; rfl
  have hv : Vis Z.env.scope "_law_e" := by rw [hs]; exact .inl rfl
  rcases hw with ⟨rfl, rfl⟩ | ⟨rfl, rfl⟩ | ⟨rfl, rfl⟩
  · exact word_call (k := 5) Fw bw rfl sc_word gw hg (by decide) hN hv (by decide) (by decide) rfl he hr (kit_ref eN.i eN.t eN.s eN.s) (kit_ref eF.i eF.t nf eN.s) (kit_ref eL.i eL.t nl eN.s) (kit_val eN.v) (.inl ⟨rfl, rfl, rfl, rfl⟩) fun cdv s H h => body_word B gN gF gL eN.e h
  · exact word_call (k := 5) Fw bw rfl sc_word gw hg (by decide) hN hv (by decide) (by decide) rfl he hr (kit_ref eN.i eN.t fn eF.s) (kit_ref eF.i eF.t eF.s eF.s) (kit_ref eL.i eL.t fl eF.s) (kit_val eF.v) (.inr (.inl ⟨rfl, rfl, rfl, rfl⟩)) fun cdv s H h => body_word B gN gF gL eF.e h
  · exact word_call (k := 5) Fw bw rfl sc_word gw hg (by decide) hN hv (by decide) (by decide) rfl he hr (kit_ref eN.i eN.t ln eL.s) (kit_ref eF.i eF.t lf eL.s) (kit_ref eL.i eL.t eL.s eL.s) (kit_val eL.v) (.inr (.inr ⟨rfl, rfl, rfl, rfl⟩)) fun cdv s H h => body_word B gN gF gL eL.e h
end
theorem law_at {l : PySem.W.OpenLaw} {w : World} {K : PySem.W.Frag} {h : Heap} {mg : Str → Option Value} {fa aN aF aL aW f0 c0 P0 a_Rooms : Addr} {n : Nat} (hn : n ≤ 1000) (X : K.In h) (G : h.Ns mainGlobals mg) (hfa : mg "law" = some (.ref fa))
    (own0 : ∀ fe, mg "law" = some (.ref fe) → LamX.OwnTab K fe h)
    (aW0 : PySem.W.nsIn K mainGlobals "WareError" = some (some (.ref aW)))
    (w1 : PySem.W.subIn K (.ref aW) (.type "BaseException") = some true)
    (w2 : PySem.W.hasDictIn K aW = true)
    (w3 : PySem.W.typeIn K (.ref aW) = some (.type "type"))
    (zaN : PySem.W.nsIn K mainGlobals "BadNet" = some (some (.ref aN)))
    (zaF : PySem.W.nsIn K mainGlobals "BadFlow" = some (some (.ref aF)))
    (zaL : PySem.W.nsIn K mainGlobals "BadFloor" = some (some (.ref aL)))
    (eN : ExcK K "BadNet" aN)
    (saN : PySem.W.subIn K (.ref aN) (.ref aW) = some true)
    (nf : PySem.W.subIn K (.ref aN) (.ref aF) = some false)
    (nl : PySem.W.subIn K (.ref aN) (.ref aL) = some false)
    (eF : ExcK K "BadFlow" aF)
    (saF : PySem.W.subIn K (.ref aF) (.ref aW) = some true)
    (fn : PySem.W.subIn K (.ref aF) (.ref aN) = some false)
    (fl : PySem.W.subIn K (.ref aF) (.ref aL) = some false)
    (eL : ExcK K "BadFloor" aL)
    (saL : PySem.W.subIn K (.ref aL) (.ref aW) = some true)
    (ln : PySem.W.subIn K (.ref aL) (.ref aN) = some false)
    (lf : PySem.W.subIn K (.ref aL) (.ref aF) = some false)
    (b_isinstance : PySem.W.nsIn K mainGlobals "isinstance" = some none)
    (b_len : PySem.W.nsIn K mainGlobals "len" = some none)
    (b_abs : PySem.W.nsIn K mainGlobals "abs" = some none)
    (b_all : PySem.W.nsIn K mainGlobals "all" = some none)
    (b_any : PySem.W.nsIn K mainGlobals "any" = some none)
    (b_sum : PySem.W.nsIn K mainGlobals "sum" = some none)
    (b_int : PySem.W.nsIn K mainGlobals "int" = some none)
    (b_bool : PySem.W.nsIn K mainGlobals "bool" = some none)
    (b_tuple : PySem.W.nsIn K mainGlobals "tuple" = some none)
    (b_list : PySem.W.nsIn K mainGlobals "list" = some none)
    (b_range : PySem.W.nsIn K mainGlobals "range" = some none)
    (b_enumerate : PySem.W.nsIn K mainGlobals "enumerate" = some none)
    (b_zip : PySem.W.nsIn K mainGlobals "zip" = some none)
    (b_max : PySem.W.nsIn K mainGlobals "max" = some none)
    (b_min : PySem.W.nsIn K mainGlobals "min" = some none)
    (b_ValueError : PySem.W.nsIn K mainGlobals "ValueError" = some none)
    (c0_MOST : ∀ (h : Heap) (mg : Str → Option Value), K.In h → h.Ns mainGlobals mg → Gc K mg "MOST" c_MOST)
    (c0_MOST_LINES : ∀ (h : Heap) (mg : Str → Option Value), K.In h → h.Ns mainGlobals mg → Gc K mg "MOST_LINES" c_MOST_LINES)
    (c0_MOST_PLACES : ∀ (h : Heap) (mg : Str → Option Value), K.In h → h.Ns mainGlobals mg → Gc K mg "MOST_PLACES" c8_MOST_PLACES)
    (c0_MOST_WANT : ∀ (h : Heap) (mg : Str → Option Value), K.In h → h.Ns mainGlobals mg → Gc K mg "MOST_WANT" c_MOST_WANT)
    (c0_NOUGHT : ∀ (h : Heap) (mg : Str → Option Value), K.In h → h.Ns mainGlobals mg → Gc K mg "NOUGHT" c_NOUGHT)
    (z_Rooms : PySem.W.nsIn K mainGlobals "Rooms" = some (some (.ref a_Rooms)))
    (Y_Rooms : Cls K a_Rooms)
    (n_Rooms_left : NoAttr K a_Rooms "left")
    (d_common : DefK K "common" s_common)
    (d_fraction : DefK K "fraction" s_fraction)
    (d_plus : DefK K "plus" s_plus)
    (d_minus : DefK K "minus" s_minus)
    (d_is_less : DefK K "is_less" s_is_less)
    (d_total : DefK K "total" s_total)
    (d_is_fraction : DefK K "is_fraction" s_is_fraction)
    (d_is_count : DefK K "is_count" s_is_count)
    (d_is_way : DefK K "is_way" s_is_way)
    (d_need : DefK K "need" s_need)
    (d_need_floor : DefK K "need_floor" s_need_floor)
    (d_Rooms___init__ : MakK K "Rooms.__init__" s_Rooms___init__ a_Rooms)
    (d_Rooms_reached : MetK K "reached" "Rooms.reached" s_Rooms_reached a_Rooms)
    (d_Rooms_push : MetK K "push" "Rooms.push" s_Rooms_push a_Rooms)
    (d_sent : DefK K "sent" s_sent)
    (d_one_ware : DefK K "one_ware" s_one_ware)
    (d_both_go : DefK K "both_go" s_both_go)
    (d_gain_at : DefK K "gain_at" s_gain_at)
    (d_is_row : DefK K "is_row" s_is_row)
    (d_due_at : DefK K "due_at" s_due_at)
    (d_double_goes : DefK K "double_goes" s_double_goes)
    (d_cut_bars : DefK K "cut_bars" s_cut_bars)
    (d__law_cell : DefK K "_law_cell" s__law_cell)
    (d__law_drawn : DefK K "_law_drawn" s__law_drawn)
    (d__law_word : DefK K "_law_word" s_word)
    (d__law_told : DefK K "_law_told" s_told)
    (d__law_made : DefK K "_law_made" s__law_made)
    (d__law_plus : DefK K "_law_plus" s__law_plus)
    (d__law_times : DefK K "_law_times" s__law_times)
    (d__law_under : DefK K "_law_under" s__law_under)
    (d__law_floor : DefK K "_law_floor" s__law_floor)
    (d__law_ware : DefK K "_law_ware" s__law_ware)
    (d__law_left : DefK K "_law_left" s__law_left)
    (d__law_goes : DefK K "_law_goes" s__law_goes)
    (d__law_bars : DefK K "_law_bars" s__law_bars)
    (d__law_cuts : DefK K "_law_cuts" s__law_cuts)
    (d__law_looked_right : DefK K "_law_looked_right" s__law_looked_right)
    (d_law : DefT K "law" s_law f0 c0 P0)
    : LamX.LawAtS l w K CX0 9 n "_law_script" mg fa h := by
  letI : Tn := ⟨[(P0, lamQ "law")]⟩
  have B : Blt mg := ⟨PySem.W.mg_none_of X G b_isinstance, PySem.W.mg_none_of X G b_len, PySem.W.mg_none_of X G b_abs, PySem.W.mg_none_of X G b_all, PySem.W.mg_none_of X G b_any, PySem.W.mg_none_of X G b_sum, PySem.W.mg_none_of X G b_int, PySem.W.mg_none_of X G b_bool, PySem.W.mg_none_of X G b_tuple, PySem.W.mg_none_of X G b_list, PySem.W.mg_none_of X G b_range, PySem.W.mg_none_of X G b_enumerate, PySem.W.mg_none_of X G b_zip, PySem.W.mg_none_of X G b_max, PySem.W.mg_none_of X G b_min, PySem.W.mg_none_of X G b_ValueError⟩
  obtain ⟨f_common, fd_common, a_common, F_common⟩ := d_common.ex
  have g_common := PySem.W.mg_of X G a_common
  obtain ⟨f_fraction, fd_fraction, a_fraction, F_fraction⟩ := d_fraction.ex
  have g_fraction := PySem.W.mg_of X G a_fraction
  obtain ⟨f_plus, fd_plus, a_plus, F_plus⟩ := d_plus.ex
  have g_plus := PySem.W.mg_of X G a_plus
  obtain ⟨f_minus, fd_minus, a_minus, F_minus⟩ := d_minus.ex
  have g_minus := PySem.W.mg_of X G a_minus
  obtain ⟨f_is_less, fd_is_less, a_is_less, F_is_less⟩ := d_is_less.ex
  have g_is_less := PySem.W.mg_of X G a_is_less
  obtain ⟨f_total, fd_total, a_total, F_total⟩ := d_total.ex
  have g_total := PySem.W.mg_of X G a_total
  obtain ⟨f_is_fraction, fd_is_fraction, a_is_fraction, F_is_fraction⟩ := d_is_fraction.ex
  have g_is_fraction := PySem.W.mg_of X G a_is_fraction
  obtain ⟨f_is_count, fd_is_count, a_is_count, F_is_count⟩ := d_is_count.ex
  have g_is_count := PySem.W.mg_of X G a_is_count
  obtain ⟨f_is_way, fd_is_way, a_is_way, F_is_way⟩ := d_is_way.ex
  have g_is_way := PySem.W.mg_of X G a_is_way
  obtain ⟨f_need, fd_need, a_need, F_need⟩ := d_need.ex
  have g_need := PySem.W.mg_of X G a_need
  obtain ⟨f_need_floor, fd_need_floor, a_need_floor, F_need_floor⟩ := d_need_floor.ex
  have g_need_floor := PySem.W.mg_of X G a_need_floor
  obtain ⟨f_Rooms___init__, fd_Rooms___init__, F_Rooms___init__, M_Rooms___init__⟩ := d_Rooms___init__.ex
  obtain ⟨f_Rooms_reached, fd_Rooms_reached, F_Rooms_reached, M_Rooms_reached⟩ := d_Rooms_reached.ex
  obtain ⟨f_Rooms_push, fd_Rooms_push, F_Rooms_push, M_Rooms_push⟩ := d_Rooms_push.ex
  obtain ⟨f_sent, fd_sent, a_sent, F_sent⟩ := d_sent.ex
  have g_sent := PySem.W.mg_of X G a_sent
  obtain ⟨f_one_ware, fd_one_ware, a_one_ware, F_one_ware⟩ := d_one_ware.ex
  have g_one_ware := PySem.W.mg_of X G a_one_ware
  obtain ⟨f_both_go, fd_both_go, a_both_go, F_both_go⟩ := d_both_go.ex
  have g_both_go := PySem.W.mg_of X G a_both_go
  obtain ⟨f_gain_at, fd_gain_at, a_gain_at, F_gain_at⟩ := d_gain_at.ex
  have g_gain_at := PySem.W.mg_of X G a_gain_at
  obtain ⟨f_is_row, fd_is_row, a_is_row, F_is_row⟩ := d_is_row.ex
  have g_is_row := PySem.W.mg_of X G a_is_row
  obtain ⟨f_due_at, fd_due_at, a_due_at, F_due_at⟩ := d_due_at.ex
  have g_due_at := PySem.W.mg_of X G a_due_at
  obtain ⟨f_double_goes, fd_double_goes, a_double_goes, F_double_goes⟩ := d_double_goes.ex
  have g_double_goes := PySem.W.mg_of X G a_double_goes
  obtain ⟨f_cut_bars, fd_cut_bars, a_cut_bars, F_cut_bars⟩ := d_cut_bars.ex
  have g_cut_bars := PySem.W.mg_of X G a_cut_bars
  obtain ⟨f__law_cell, fd__law_cell, a__law_cell, F__law_cell⟩ := d__law_cell.ex
  have g__law_cell := PySem.W.mg_of X G a__law_cell
  obtain ⟨f__law_drawn, fd__law_drawn, a__law_drawn, F__law_drawn⟩ := d__law_drawn.ex
  have g__law_drawn := PySem.W.mg_of X G a__law_drawn
  obtain ⟨f__law_word, fd__law_word, a__law_word, F__law_word⟩ := d__law_word.ex
  have g__law_word := PySem.W.mg_of X G a__law_word
  obtain ⟨f__law_told, fd__law_told, a__law_told, F__law_told⟩ := d__law_told.ex
  have g__law_told := PySem.W.mg_of X G a__law_told
  obtain ⟨f__law_made, fd__law_made, a__law_made, F__law_made⟩ := d__law_made.ex
  have g__law_made := PySem.W.mg_of X G a__law_made
  obtain ⟨f__law_plus, fd__law_plus, a__law_plus, F__law_plus⟩ := d__law_plus.ex
  have g__law_plus := PySem.W.mg_of X G a__law_plus
  obtain ⟨f__law_times, fd__law_times, a__law_times, F__law_times⟩ := d__law_times.ex
  have g__law_times := PySem.W.mg_of X G a__law_times
  obtain ⟨f__law_under, fd__law_under, a__law_under, F__law_under⟩ := d__law_under.ex
  have g__law_under := PySem.W.mg_of X G a__law_under
  obtain ⟨f__law_floor, fd__law_floor, a__law_floor, F__law_floor⟩ := d__law_floor.ex
  have g__law_floor := PySem.W.mg_of X G a__law_floor
  obtain ⟨f__law_ware, fd__law_ware, a__law_ware, F__law_ware⟩ := d__law_ware.ex
  have g__law_ware := PySem.W.mg_of X G a__law_ware
  obtain ⟨f__law_left, fd__law_left, a__law_left, F__law_left⟩ := d__law_left.ex
  have g__law_left := PySem.W.mg_of X G a__law_left
  obtain ⟨f__law_goes, fd__law_goes, a__law_goes, F__law_goes⟩ := d__law_goes.ex
  have g__law_goes := PySem.W.mg_of X G a__law_goes
  obtain ⟨f__law_bars, fd__law_bars, a__law_bars, F__law_bars⟩ := d__law_bars.ex
  have g__law_bars := PySem.W.mg_of X G a__law_bars
  obtain ⟨f__law_cuts, fd__law_cuts, a__law_cuts, F__law_cuts⟩ := d__law_cuts.ex
  have g__law_cuts := PySem.W.mg_of X G a__law_cuts
  obtain ⟨f__law_looked_right, fd__law_looked_right, a__law_looked_right, F__law_looked_right⟩ := d__law_looked_right.ex
  have g__law_looked_right := PySem.W.mg_of X G a__law_looked_right
  obtain ⟨fd_law, o0, e0, dd0, vs0, sl0, a_law, F_law, hc0, lo0, od0, lc0, hP0, cd0, nP0⟩ := d_law.ex
  have g_law := PySem.W.mg_of X G a_law
  have X_BadNet : ExcD K mg "BadNet" aN := ⟨PySem.W.mg_of X G eN.a, eN.k, eN.x, eN.b, eN.t⟩
  have X_BadFlow : ExcD K mg "BadFlow" aF := ⟨PySem.W.mg_of X G eF.a, eF.k, eF.x, eF.b, eF.t⟩
  have X_BadFloor : ExcD K mg "BadFloor" aL := ⟨PySem.W.mg_of X G eL.a, eL.k, eL.x, eL.b, eL.t⟩
  have gC_Rooms := PySem.W.mg_of X G z_Rooms
  have C_MOST := c0_MOST h mg X G
  have C_MOST_LINES := c0_MOST_LINES h mg X G
  have C_MOST_PLACES := c0_MOST_PLACES h mg X G
  have C_MOST_WANT := c0_MOST_WANT h mg X G
  have C_NOUGHT := c0_NOUGHT h mg X G
  have hx : ∀ C w, Word3 aN aF aL C w → PySem.W.exmOne K (.ref C) (.ref aW) = some true := by
    rintro C w (⟨rfl, rfl⟩ | ⟨rfl, rfl⟩ | ⟨rfl, rfl⟩)
    · exact PySem.W.exm_ref w1 w2 w3 saN
    · exact PySem.W.exm_ref w1 w2 w3 saF
    · exact PySem.W.exm_ref w1 w2 w3 saL
  have TT := told_ok B X_BadNet.g X_BadFlow.g X_BadFloor.g (PySem.W.mg_of X G aW0) F__law_word g__law_word F__law_told g__law_told eN eF eL hx nf nl fn fl ln lf
  have hW : WdOk (Word3 aN aF aL) aL := ⟨.inr (.inr ⟨rfl, rfl⟩)⟩
  have ef : f0 = fa := by
    rw [hfa] at g_law
    cases g_law
    rfl
  subst ef
  have tabE : ∀ p ∈ [(c0, P0)], h.get? p.2 = some { cls := .none, data := .fields #[] } := fun p hp => by
    simp only [List.mem_cons, List.not_mem_nil, or_false] at hp
    rcases hp with rfl
    · exact own0 _ g_law _ _ _ _ _ _ _ _ lo0 od0 hc0 lc0 hP0
  refine ⟨fd_law, [(c0, P0)], spD K sp_law, tabE, ?_, ?_, ?_, ?_, ?_⟩
  · intro p hp
    simp only [List.mem_cons, List.not_mem_nil, or_false] at hp
    rcases hp with rfl
    · exact nP0
  · intro p hp
    simp only [List.mem_cons, List.not_mem_nil, or_false] at hp
    rcases hp with rfl
    · exact PySem.W.codeHd_of_K X cd0
  · intro s u
    obtain ⟨oc, od, kV, doc, pm, an, cdv, ct, osl, rfl, lk, hcd⟩ := F_law.ex
    exact .of_eq rfl
  · intro H a ns hl _ hT hS
    have nt : ∀ {b : Addr} {o : HO}, (match H b with | some (.tbl _) => none | o => o) = some o → H b = some o ∧ ∀ ps, o ≠ .tbl ps := fun {b o} e => by
      split at e
      · cases e
      · rename_i hne
        exact ⟨e, fun ps z => hne ps (by rw [e, z])⟩
    refine ⟨fun b => match H b with | some (.tbl _) => none | o => o, [.scr ns], fun d => d = .bl true, fun _ => False, fun b o e => (nt e).1, ⟨fun b ps e => (nt e).2 ps rfl, fun p hp => ?_⟩, .cons (.scr ?_) .nil, ⟨ns, rfl, by omega, rfl⟩, fun d hd v F' H' _ r => ?_, fun _ z => z.elim⟩
    · have hp : p ∈ [(P0, lamQ "law")] := hp
      simp only [List.mem_cons, List.not_mem_nil, or_false] at hp
      rcases hp with rfl
      · exact LamX.TabS.nil (hT (c0, P0) (by simp))
    · rcases hS with (e | ⟨o, e⟩) | e
      · exact .inl (.inl (by simp only [e]))
      · exact .inl (.inr ⟨o, by simp only [e]⟩)
      · exact .inr e
    · subst hd
      cases r
      rfl
  · intro base KB GB hTB
    have TB0 := hTB (c0, P0) (by simp)
    have hm0 : (P0, lamQ "law") ∈ Tn.ns := by
      show (P0, lamQ "law") ∈ [(P0, lamQ "law")]
      simp
    have hu0 : ∀ p ∈ Tn.ns, p.1 = P0 → p.2 = lamQ "law" := by
      intro p hp e
      have hp : p ∈ [(P0, lamQ "law")] := hp
      simp only [List.mem_cons, List.not_mem_nil, or_false] at hp
      rcases hp with rfl
      · rfl
    have D__law_drawn := ok__law_drawn (P := l.prog) (w := w) (base := base) B F__law_drawn g__law_drawn
    have D__law_floor := ok__law_floor (P := l.prog) (w := w) (base := base) B F__law_floor g__law_floor D__law_drawn
    have D__law_ware := ok__law_ware (P := l.prog) (w := w) (base := base) B F__law_ware g__law_ware
    have D__law_cell := ok__law_cell (P := l.prog) (w := w) (base := base) B F__law_cell g__law_cell
    have D_need := ok_need (P := l.prog) (w := w) (base := base) B F_need g_need X_BadFloor
    have D_is_count := ok_is_count (P := l.prog) (w := w) (base := base) B F_is_count g_is_count
    have D_is_way := ok_is_way (P := l.prog) (w := w) (base := base) B F_is_way g_is_way D_is_count
    have D_need_floor := ok_need_floor (P := l.prog) (w := w) (base := base) B F_need_floor g_need_floor C_MOST C_MOST_LINES C_MOST_PLACES C_MOST_WANT D_is_count D_need D_is_way
    have D_Rooms___init__ := ok_Rooms___init__ (P := l.prog) (w := w) (base := base) B Y_Rooms n_Rooms_left F_Rooms___init__ M_Rooms___init__ gC_Rooms
    have D_Rooms_reached := ok_Rooms_reached (P := l.prog) (w := w) (base := base) B Y_Rooms n_Rooms_left F_Rooms_reached M_Rooms_reached
    have D_Rooms_push := ok_Rooms_push (P := l.prog) (w := w) (base := base) B Y_Rooms n_Rooms_left F_Rooms_push M_Rooms_push
    have D_sent := ok_sent (P := l.prog) (w := w) (base := base) B F_sent g_sent Y_Rooms n_Rooms_left D_Rooms___init__ D_Rooms_reached D_Rooms_push
    have D_one_ware := ok_one_ware (P := l.prog) (w := w) (base := base) B F_one_ware g_one_ware Y_Rooms n_Rooms_left D_sent
    have D_common := ok_common (P := l.prog) (w := w) (base := base) B F_common g_common
    have D_fraction := ok_fraction (P := l.prog) (w := w) (base := base) B F_fraction g_fraction D_common
    have D_both_go := ok_both_go (P := l.prog) (w := w) (base := base) B F_both_go g_both_go D_need_floor D_one_ware D_fraction
    have D__law_cuts := ok__law_cuts (P := l.prog) (w := w) (base := base) B F__law_cuts g__law_cuts
    have D_cut_bars := ok_cut_bars (P := l.prog) (w := w) (base := base) B F_cut_bars g_cut_bars D_need_floor D_is_count
    have D_is_less := ok_is_less (P := l.prog) (w := w) (base := base) B F_is_less g_is_less
    have D_plus := ok_plus (P := l.prog) (w := w) (base := base) B F_plus g_plus D_fraction
    have D_is_fraction := ok_is_fraction (P := l.prog) (w := w) (base := base) B F_is_fraction g_is_fraction D_common
    have D_is_row := ok_is_row (P := l.prog) (w := w) (base := base) B F_is_row g_is_row D_is_fraction
    have D_total := ok_total (P := l.prog) (w := w) (base := base) B F_total g_total C_NOUGHT D_plus
    have D_minus := ok_minus (P := l.prog) (w := w) (base := base) B F_minus g_minus D_fraction
    have D_gain_at := ok_gain_at (P := l.prog) (w := w) (base := base) B F_gain_at g_gain_at D_total D_minus
    have D_due_at := ok_due_at (P := l.prog) (w := w) (base := base) B F_due_at g_due_at
    have D_double_goes := ok_double_goes (P := l.prog) (w := w) (base := base) B F_double_goes g_double_goes D_need_floor D_is_row D_gain_at D_due_at D_plus D_is_less
    have D__law_made := ok__law_made (P := l.prog) (w := w) (base := base) B F__law_made g__law_made
    have D__law_plus := ok__law_plus (P := l.prog) (w := w) (base := base) B F__law_plus g__law_plus D__law_made
    have D__law_bars := ok__law_bars (P := l.prog) (w := w) (base := base) B F__law_bars g__law_bars
    have D__law_under := ok__law_under (P := l.prog) (w := w) (base := base) B F__law_under g__law_under
    have D__law_times := ok__law_times (P := l.prog) (w := w) (base := base) B F__law_times g__law_times D__law_made
    have D__law_left := ok__law_left (P := l.prog) (w := w) (base := base) B F__law_left g__law_left D__law_times D__law_plus
    have D__law_goes := ok__law_goes (P := l.prog) (w := w) (base := base) B F__law_goes g__law_goes D__law_left D__law_plus D__law_under
    have D__law_looked_right := ok__law_looked_right (P := l.prog) (w := w) (base := base) B F__law_looked_right g__law_looked_right D_both_go D__law_cuts D__law_drawn D_cut_bars D__law_bars D__law_plus D_double_goes D__law_goes
    exact ok_law (P := l.prog) (w := w) (base := base) B F_law g_law D__law_cell D__law_drawn D__law_floor D__law_ware D_both_go D__law_cuts D__law_bars D_cut_bars D__law_goes D_double_goes D__law_looked_right TT TB0 hm0 hu0 hc0 hW
end Dy.K4
open PySem PySem.W PyProof.Rows
set_option maxRecDepth 100000 in
set_option maxHeartbeats 0 in
theorem PySem.Challenge.cw_sharedways_k40_whole_two_on_lines_holds : PySem.Challenge.rw_sharedways_k40_whole_two_on_lines.Holds := by
  w_on; o_law; k_head; (case hw => w_witness2)
  k_fill
  refine Dy.walk_top (k := 9) (n := 63) (CX := fun _ => L2.CX0) (x := "_law_script") (by decide +kernel) (by decide) rfl ⟨rfl, by decide, by decide⟩ (fun w h Y => PySem.W.km_in_of Y) ?F (fun _ _ _ _ _ z => z)
  case F =>
    intro w mg fa h KX G hmg own
    refine' Dy.K4.law_at (by decide) KX G hmg (fun fe e => own "law" fe (by decide +kernel) e) ?aW0 ?w1 ?w2 ?w3 ?zaN ?zaF ?zaL ?eN ?saN ?nf ?nl ?eF ?saF ?fn ?fl ?eL ?saL ?ln ?lf ?b_isinstance ?b_len ?b_abs ?b_all ?b_any ?b_sum ?b_int ?b_bool ?b_tuple ?b_list ?b_range ?b_enumerate ?b_zip ?b_max ?b_min ?b_ValueError ?c0_MOST ?c0_MOST_LINES ?c0_MOST_PLACES ?c0_MOST_WANT ?c0_NOUGHT ?z_Rooms ?Y_Rooms ?n_Rooms_left ?d_common ?d_fraction ?d_plus ?d_minus ?d_is_less ?d_total ?d_is_fraction ?d_is_count ?d_is_way ?d_need ?d_need_floor ?d_Rooms___init__ ?d_Rooms_reached ?d_Rooms_push ?d_sent ?d_one_ware ?d_both_go ?d_gain_at ?d_is_row ?d_due_at ?d_double_goes ?d_cut_bars ?d__law_cell ?d__law_drawn ?d__law_word ?d__law_told ?d__law_made ?d__law_plus ?d__law_times ?d__law_under ?d__law_floor ?d__law_ware ?d__law_left ?d__law_goes ?d__law_bars ?d__law_cuts ?d__law_looked_right ?d_law
    (case aW0 => k_is)
    (case w1 => k_is)
    (case w2 => k_is)
    (case w3 => k_is)
    (case zaN => k_is)
    (case zaF => k_is)
    (case zaL => k_is)
    (case eN => refine' ⟨?a, ?k, ?x, ?b, ?v, ?t, ?i, ?s, ⟨?hg, ?hk, ?hs, ?hd, ?ha, ?hn, ?ht, ?hm⟩⟩; (case a => k_is); (case k => k_is); (case x => k_exc); (case b => k_is); (case v => k_is); (case t => k_is); (case i => k_is); (case s => k_is); (case hg => k_is); (case hk => k_is); (case hs => k_is); (case hd => k_is); (case ha => k_is); (case hn => k_is); (case ht => k_is); (case hm => k_is))
    (case saN => k_is)
    (case nf => k_is)
    (case nl => k_is)
    (case eF => refine' ⟨?a, ?k, ?x, ?b, ?v, ?t, ?i, ?s, ⟨?hg, ?hk, ?hs, ?hd, ?ha, ?hn, ?ht, ?hm⟩⟩; (case a => k_is); (case k => k_is); (case x => k_exc); (case b => k_is); (case v => k_is); (case t => k_is); (case i => k_is); (case s => k_is); (case hg => k_is); (case hk => k_is); (case hs => k_is); (case hd => k_is); (case ha => k_is); (case hn => k_is); (case ht => k_is); (case hm => k_is))
    (case saF => k_is)
    (case fn => k_is)
    (case fl => k_is)
    (case eL => refine' ⟨?a, ?k, ?x, ?b, ?v, ?t, ?i, ?s, ⟨?hg, ?hk, ?hs, ?hd, ?ha, ?hn, ?ht, ?hm⟩⟩; (case a => k_is); (case k => k_is); (case x => k_exc); (case b => k_is); (case v => k_is); (case t => k_is); (case i => k_is); (case s => k_is); (case hg => k_is); (case hk => k_is); (case hs => k_is); (case hd => k_is); (case ha => k_is); (case hn => k_is); (case ht => k_is); (case hm => k_is))
    (case saL => k_is)
    (case ln => k_is)
    (case lf => k_is)
    (case b_isinstance => k_is)
    (case b_len => k_is)
    (case b_abs => k_is)
    (case b_all => k_is)
    (case b_any => k_is)
    (case b_sum => k_is)
    (case b_int => k_is)
    (case b_bool => k_is)
    (case b_tuple => k_is)
    (case b_list => k_is)
    (case b_range => k_is)
    (case b_enumerate => k_is)
    (case b_zip => k_is)
    (case b_max => k_is)
    (case b_min => k_is)
    (case b_ValueError => k_is)
    (case c0_MOST => (intro h mg X G; refine' Dy.gc_int X G ?a; (case a => k_is)))
    (case c0_MOST_LINES => (intro h mg X G; refine' Dy.gc_int X G ?a; (case a => k_is)))
    (case c0_MOST_PLACES => (intro h mg X G; refine' Dy.gc_int X G ?a; (case a => k_is)))
    (case c0_MOST_WANT => (intro h mg X G; refine' Dy.gc_int X G ?a; (case a => k_is)))
    (case c0_NOUGHT => (intro h mg X G; refine' Dy.gc_pair X G ?a ?l; (case a => k_is); (case l => k_is)))
    (case z_Rooms => k_is)
    (case Y_Rooms => refine' ⟨?a, ?b, ?c, ?d⟩; (case a => k_is); (case b => k_is); (case c => k_is); (case d => k_is))
    (case n_Rooms_left => (show PySem.W.findIn _ _ _ = _; k_is))
    (case d_common => refine' Dy.defK ?a ?l ?c ?k; (case a => k_is); (case l => k_is); (case c => k_is); (case k => k_is))
    (case d_fraction => refine' Dy.defK ?a ?l ?c ?k; (case a => k_is); (case l => k_is); (case c => k_is); (case k => k_is))
    (case d_plus => refine' Dy.defK ?a ?l ?c ?k; (case a => k_is); (case l => k_is); (case c => k_is); (case k => k_is))
    (case d_minus => refine' Dy.defK ?a ?l ?c ?k; (case a => k_is); (case l => k_is); (case c => k_is); (case k => k_is))
    (case d_is_less => refine' Dy.defK ?a ?l ?c ?k; (case a => k_is); (case l => k_is); (case c => k_is); (case k => k_is))
    (case d_total => refine' Dy.defK ?a ?l ?c ?k; (case a => k_is); (case l => k_is); (case c => k_is); (case k => k_is))
    (case d_is_fraction => refine' Dy.defK ?a ?l ?c ?k; (case a => k_is); (case l => k_is); (case c => k_is); (case k => k_is))
    (case d_is_count => refine' Dy.defK ?a ?l ?c ?k; (case a => k_is); (case l => k_is); (case c => k_is); (case k => k_is))
    (case d_is_way => refine' Dy.defK ?a ?l ?c ?k; (case a => k_is); (case l => k_is); (case c => k_is); (case k => k_is))
    (case d_need => refine' Dy.defK ?a ?l ?c ?k; (case a => k_is); (case l => k_is); (case c => k_is); (case k => k_is))
    (case d_need_floor => refine' Dy.defK ?a ?l ?c ?k; (case a => k_is); (case l => k_is); (case c => k_is); (case k => k_is))
    (case d_Rooms___init__ => refine' Dy.makK ?mk ?aa ?fn ?kp ?kf ?l ?c; (case mk => k_is); (case aa => k_is); (case fn => k_is); (case kp => k_is); (case kf => k_is); (case l => k_is); (case c => k_is))
    (case d_Rooms_reached => refine' Dy.metK ?aa ?fn ?kp ?l ?c; (case aa => k_is); (case fn => k_is); (case kp => k_is); (case l => k_is); (case c => k_is))
    (case d_Rooms_push => refine' Dy.metK ?aa ?fn ?kp ?l ?c; (case aa => k_is); (case fn => k_is); (case kp => k_is); (case l => k_is); (case c => k_is))
    (case d_sent => refine' Dy.defK ?a ?l ?c ?k; (case a => k_is); (case l => k_is); (case c => k_is); (case k => k_is))
    (case d_one_ware => refine' Dy.defK ?a ?l ?c ?k; (case a => k_is); (case l => k_is); (case c => k_is); (case k => k_is))
    (case d_both_go => refine' Dy.defK ?a ?l ?c ?k; (case a => k_is); (case l => k_is); (case c => k_is); (case k => k_is))
    (case d_gain_at => refine' Dy.defK ?a ?l ?c ?k; (case a => k_is); (case l => k_is); (case c => k_is); (case k => k_is))
    (case d_is_row => refine' Dy.defK ?a ?l ?c ?k; (case a => k_is); (case l => k_is); (case c => k_is); (case k => k_is))
    (case d_due_at => refine' Dy.defK ?a ?l ?c ?k; (case a => k_is); (case l => k_is); (case c => k_is); (case k => k_is))
    (case d_double_goes => refine' Dy.defK ?a ?l ?c ?k; (case a => k_is); (case l => k_is); (case c => k_is); (case k => k_is))
    (case d_cut_bars => refine' Dy.defK ?a ?l ?c ?k; (case a => k_is); (case l => k_is); (case c => k_is); (case k => k_is))
    (case d__law_cell => refine' Dy.defK ?a ?l ?c ?k; (case a => k_is); (case l => k_is); (case c => k_is); (case k => k_is))
    (case d__law_drawn => refine' Dy.defK ?a ?l ?c ?k; (case a => k_is); (case l => k_is); (case c => k_is); (case k => k_is))
    (case d__law_word => refine' Dy.defK ?a ?l ?c ?k; (case a => k_is); (case l => k_is); (case c => k_is); (case k => k_is))
    (case d__law_told => refine' Dy.defK ?a ?l ?c ?k; (case a => k_is); (case l => k_is); (case c => k_is); (case k => k_is))
    (case d__law_made => refine' Dy.defK ?a ?l ?c ?k; (case a => k_is); (case l => k_is); (case c => k_is); (case k => k_is))
    (case d__law_plus => refine' Dy.defK ?a ?l ?c ?k; (case a => k_is); (case l => k_is); (case c => k_is); (case k => k_is))
    (case d__law_times => refine' Dy.defK ?a ?l ?c ?k; (case a => k_is); (case l => k_is); (case c => k_is); (case k => k_is))
    (case d__law_under => refine' Dy.defK ?a ?l ?c ?k; (case a => k_is); (case l => k_is); (case c => k_is); (case k => k_is))
    (case d__law_floor => refine' Dy.defK ?a ?l ?c ?k; (case a => k_is); (case l => k_is); (case c => k_is); (case k => k_is))
    (case d__law_ware => refine' Dy.defK ?a ?l ?c ?k; (case a => k_is); (case l => k_is); (case c => k_is); (case k => k_is))
    (case d__law_left => refine' Dy.defK ?a ?l ?c ?k; (case a => k_is); (case l => k_is); (case c => k_is); (case k => k_is))
    (case d__law_goes => refine' Dy.defK ?a ?l ?c ?k; (case a => k_is); (case l => k_is); (case c => k_is); (case k => k_is))
    (case d__law_bars => refine' Dy.defK ?a ?l ?c ?k; (case a => k_is); (case l => k_is); (case c => k_is); (case k => k_is))
    (case d__law_cuts => refine' Dy.defK ?a ?l ?c ?k; (case a => k_is); (case l => k_is); (case c => k_is); (case k => k_is))
    (case d__law_looked_right => refine' Dy.defK ?a ?l ?c ?k; (case a => k_is); (case l => k_is); (case c => k_is); (case k => k_is))
    (case d_law => refine' Dy.defT ?a ?l ?cc ?k ?lc ?hPt ?hCd ?nPt; (case a => k_is); (case l => k_is); (case cc => k_is); (case k => k_is); (case lc => k_is); (case hPt => exact rfl); (case hCd => kernel_rfl); (case nPt => kernel_rfl))

