import PyProof.Rows.All
import Wide.All
import OpenK.AllK
import Wide.FinOn
import KE.KStateDown
import HandS.ForMost
import HandS.ForExc
import HandS.Wide
import HandS.Flow
import HandS.Defaults
import HandS.IsInst
import HandS.ExcInit
import HandS.ExcCtx
import HandS.Hot
import HandS.HotCalls
import HandS.ExcIs
import HandS.ExcField
import HandS.CallSlots
import HandS.Gcd
import HandS.FStr
import HandS.Deep
import HandS.TupAny
import HandS.Rev
import HandS.SortKw
import KE.KExcIs
import HandS.Head0
import HandS.Head1
import HandS.Head2
import HandS.Head3
import HandS.HeadEnd
import HandS.HeadHook1
import HandS.HeadHook2
import HandS.HeadHook3
import HandS.HeadHook4
import HandS.HeadWalk
import PySem.Challenge.RW_neverlocked_k05_ratios
set_option Elab.async false
section
set_option Elab.async false
set_option linter.all false
set_option maxRecDepth 100000
namespace NL
open PySem PySem.Spec PyProof.Rows L2

abbrev St := L2.St
/-- data -/
inductive D where
  | non
  | bl (b : Bool)
  | int (i : Int)
  | str (s : Str)
  | tup (ds : List D)
  | lst (ds : List D)
  | dic (ks : List Key) (ds : List D)
  | obj (c : Str) (fs : List Str) (ds : List D)
  | exc (c : Str) (fs : List Str) (ds : List D)
  | scr (ns : List Int)

/-- the exception that is handled: its address, its class' name and address, its dict, its object -/
structure HotD where
  a : Addr
  c : Str
  C : Addr
  dd : Option Addr
  oe : Obj
/-- what a value's reading leans on -/
structure RC where
  K : PySem.W.Frag
  hx : Option HotD
  ca : Str → Addr

mutual
def Rep (R : RC) (G : Hp) : D → V → Prop
  | .non, v => v = .non
  | .bl b, v => v = .bl b
  | .int i, v => v = .int i
  | .str s, v => v = .str s
  | .tup ds, v => ∃ a xs, v = .ref a ∧ SqT R.K G a xs ∧ Reps R G ds xs
  | .lst ds, v => ∃ a xs, v = .ref a ∧ G a = some (.lst xs) ∧ Reps R G ds xs
  | .dic ks ds, v => ∃ a kvs, v = .ref a ∧ G a = some (.dK kvs) ∧ kvs.map (·.1) = ks ∧ Reps R G ds (kvs.map (·.2))
  | .obj c fs ds, v => ∃ a dx xfs, v = .ref a ∧ G a = some (.ins (R.ca c) dx xfs) ∧ xfs.map (·.1) = fs ∧ Reps R G ds (xfs.map (·.2))
  | .exc c fs ds, v => ∃ h xfs, R.hx = some h ∧ v = .ref h.a ∧ h.c = c ∧ xfs.map (·.1) = fs ∧ ((xfs = [] ∧ h.dd = none) ∨ ∃ dd, h.dd = some dd ∧ G dd = some (.xd xfs)) ∧ Reps R G ds (xfs.map (·.2))
  | .scr ns, v => ∃ a, v = .ref a ∧ SqL R.K G a (ns.map V.int)
def Reps (R : RC) (G : Hp) : List D → List V → Prop
  | [], vs => vs = []
  | d :: ds, vs => ∃ v r, vs = v :: r ∧ Rep R G d v ∧ Reps R G ds r
end

theorem same_sqT {K : PySem.W.Frag} {H H' : Hp} {a : Addr} {xs : List V} (e : Same H H') (h : SqT K H a xs) : SqT K H' a xs := by
  rcases h with (h | ⟨o, h⟩) | h
  · exact .inl (.inl (e _ _ h))
  · exact .inl (.inr ⟨o, e _ _ h⟩)
  · exact .inr h

mutual
theorem Rep.mono {R : RC} {G G' : Hp} (e : Same G G') : ∀ (d : D) (v : V), Rep R G d v → Rep R G' d v
  | .non, _, h => by simp only [Rep] at h ⊢; exact h
  | .bl b, _, h => by simp only [Rep] at h ⊢; exact h
  | .int i, _, h => by simp only [Rep] at h ⊢; exact h
  | .str s, _, h => by simp only [Rep] at h ⊢; exact h
  | .tup ds, _, h => by
    simp only [Rep] at h ⊢
    obtain ⟨a, xs, h1, h2, h3⟩ := h
    exact ⟨a, xs, h1, same_sqT e h2, Reps.mono e ds xs h3⟩
  | .lst ds, _, h => by
    simp only [Rep] at h ⊢
    obtain ⟨a, xs, h1, h2, h3⟩ := h
    exact ⟨a, xs, h1, e _ _ h2, Reps.mono e ds xs h3⟩
  | .dic ks ds, _, h => by
    simp only [Rep] at h ⊢
    obtain ⟨a, kvs, h1, h2, h3, h4⟩ := h
    exact ⟨a, kvs, h1, e _ _ h2, h3, Reps.mono e ds _ h4⟩
  | .obj c fs ds, _, h => by
    simp only [Rep] at h ⊢
    obtain ⟨a, dx, xfs, h1, h2, h3, h4⟩ := h
    exact ⟨a, dx, xfs, h1, e _ _ h2, h3, Reps.mono e ds _ h4⟩
  | .exc c fs ds, _, h => by
    simp only [Rep] at h ⊢
    obtain ⟨hh, xfs, h1, h2, h3, h4, h5, h6⟩ := h
    refine ⟨hh, xfs, h1, h2, h3, h4, ?_, Reps.mono e ds _ h6⟩
    rcases h5 with h5 | ⟨dd, h5, h7⟩
    · exact .inl h5
    · exact .inr ⟨dd, h5, e _ _ h7⟩
  | .scr ns, _, h => by
    simp only [Rep] at h ⊢
    obtain ⟨a, h1, h2⟩ := h
    exact ⟨a, h1, e.seq h2⟩
theorem Reps.mono {R : RC} {G G' : Hp} (e : Same G G') : ∀ (ds : List D) (vs : List V), Reps R G ds vs → Reps R G' ds vs
  | [], _, h => by simp only [Reps] at h ⊢; exact h
  | d :: ds, _, h => by
    simp only [Reps] at h ⊢
    obtain ⟨v, r, h1, h2, h3⟩ := h
    exact ⟨v, r, h1, Rep.mono e d v h2, Reps.mono e ds r h3⟩
end

theorem Reps.len {R : RC} {G : Hp} : ∀ {ds : List D} {vs : List V}, Reps R G ds vs → vs.length = ds.length
  | [], _, h => by simp only [Reps] at h; rw [h]; rfl
  | d :: ds, _, h => by
    simp only [Reps] at h
    obtain ⟨v, r, h1, h2, h3⟩ := h
    rw [h1, List.length_cons, List.length_cons, Reps.len h3]
theorem Reps.get {R : RC} {G : Hp} : ∀ {ds : List D} {vs : List V} {i : Nat} {d : D}, Reps R G ds vs → ds[i]? = some d → ∃ v, vs[i]? = some v ∧ Rep R G d v
  | [], _, _, _, h, e => by simp at e
  | d :: ds, _, 0, _, h, e => by
    simp only [Reps] at h
    obtain ⟨v, r, h1, h2, h3⟩ := h
    simp at e
    subst e
    exact ⟨v, by rw [h1]; rfl, h2⟩
  | d :: ds, _, i + 1, _, h, e => by
    simp only [Reps] at h
    obtain ⟨v, r, h1, h2, h3⟩ := h
    obtain ⟨z, e1, e2⟩ := Reps.get (i := i) h3 (by simpa using e)
    exact ⟨z, by rw [h1]; simpa using e1, e2⟩
theorem Reps.append {R : RC} {G : Hp} : ∀ {ds es : List D} {vs ws : List V}, Reps R G ds vs → Reps R G es ws → Reps R G (ds ++ es) (vs ++ ws)
  | [], _, _, _, h, h' => by simp only [Reps] at h; rw [h]; exact h'
  | d :: ds, es, _, ws, h, h' => by
    simp only [Reps] at h
    obtain ⟨v, r, h1, h2, h3⟩ := h
    rw [h1]
    show Reps R G (d :: (ds ++ es)) (v :: (r ++ ws))
    simp only [Reps]
    exact ⟨v, _, rfl, h2, Reps.append h3 h'⟩
theorem Reps.one {R : RC} {G : Hp} {d : D} {v : V} (h : Rep R G d v) : Reps R G [d] [v] := by
  simp only [Reps]
  exact ⟨v, [], rfl, h, rfl⟩
theorem Reps.nil {R : RC} {G : Hp} : Reps R G [] [] := by simp only [Reps]
theorem Reps.cons {R : RC} {G : Hp} {d : D} {v : V} {ds : List D} {vs : List V} (h : Rep R G d v) (h' : Reps R G ds vs) : Reps R G (d :: ds) (v :: vs) := by
  simp only [Reps]
  exact ⟨v, vs, rfl, h, h'⟩
theorem Reps.drop {R : RC} {G : Hp} : ∀ {ds : List D} {vs : List V} (n : Nat), Reps R G ds vs → Reps R G (ds.drop n) (vs.drop n)
  | _, _, 0, h => h
  | [], _, n + 1, h => by simp only [Reps] at h; rw [h]; exact Reps.nil
  | d :: ds, _, n + 1, h => by
    simp only [Reps] at h
    obtain ⟨v, r, h1, h2, h3⟩ := h
    rw [h1]
    exact Reps.drop n h3
theorem Reps.take {R : RC} {G : Hp} : ∀ {ds : List D} {vs : List V} (n : Nat), Reps R G ds vs → Reps R G (ds.take n) (vs.take n)
  | _, _, 0, h => by rw [List.take_zero, List.take_zero]; exact Reps.nil
  | [], _, n + 1, h => by simp only [Reps] at h; rw [h]; exact Reps.nil
  | d :: ds, _, n + 1, h => by
    simp only [Reps] at h
    obtain ⟨v, r, h1, h2, h3⟩ := h
    rw [h1]
    exact Reps.cons h2 (Reps.take n h3)
theorem Reps.set {R : RC} {G : Hp} {d : D} {v : V} (hd : Rep R G d v) : ∀ {ds : List D} {vs : List V} (n : Nat), Reps R G ds vs → Reps R G (ds.set n d) (vs.set n v)
  | [], _, n, h => by simp only [Reps] at h; rw [h]; exact Reps.nil
  | d' :: ds, _, 0, h => by
    simp only [Reps] at h
    obtain ⟨v', r, h1, h2, h3⟩ := h
    rw [h1]
    exact Reps.cons hd h3
  | d' :: ds, _, n + 1, h => by
    simp only [Reps] at h
    obtain ⟨v', r, h1, h2, h3⟩ := h
    rw [h1]
    exact Reps.cons h2 (Reps.set hd n h3)
theorem Reps.ints {R : RC} {G : Hp} : ∀ {ns : List Int} {vs : List V}, Reps R G (ns.map D.int) vs → vs = ns.map V.int
  | [], _, h => by simp only [List.map_nil, Reps] at h; exact h
  | n :: ns, _, h => by
    simp only [List.map_cons, Reps] at h
    obtain ⟨v, r, h1, h2, h3⟩ := h
    simp only [Rep] at h2
    rw [h1, h2, Reps.ints h3]
    rfl

/-- the heap without the hidden addresses -/
def vis (H : Hp) (L : List Addr) : Hp := fun a => if a ∈ L then none else H a
theorem vis_ge {H : Hp} {L : List Addr} : Same (vis H L) H := fun a o h => by
  unfold vis at h
  split at h
  · cases h
  · exact h
theorem vis_mono {H H' : Hp} {L L' : List Addr} (e : Same H H') (s : ∀ a ∈ L', a ∈ L) : Same (vis H L) (vis H' L') := fun a o h => by
  unfold vis at h ⊢
  split at h
  · cases h
  · rename_i n
    rw [if_neg fun z => n (s a z)]
    exact e _ _ h
theorem vis_at {H : Hp} {L : List Addr} {a : Addr} {o : HO} (h : H a = some o) (n : a ∉ L) : vis H L a = some o := by
  unfold vis
  rw [if_neg n]
  exact h
theorem vis_nil {H : Hp} : vis H [] = H := by
  funext a
  unfold vis
  rw [if_neg (by simp)]
/-- a hidden address may change -/
theorem vis_upd {H : Hp} {L : List Addr} {a : Addr} {o : HO} (h : a ∈ L) : vis (upd H a o) L = vis H L := by
  funext b
  unfold vis
  split
  · rfl
  · rename_i n
    exact upd_ne fun z => n (z ▸ h)
theorem same_upd {H : Hp} {p : Addr} {o : HO} (h : H p = none) : Same H (upd H p o) := fun b x e => by
  rw [upd_ne (ne_of_none e h)]
  exact e

/-- a slot: without a value, a value that stays, an object of the frame's own (a list, a dict that nothing else names) -/
inductive Sl where
  | un
  | dat (d : D)
  | own (d : D)
def OwnAt (R : RC) (G H : Hp) (l : Addr) : D → Prop
  | .lst ds => ∃ xs, H l = some (.lst xs) ∧ Reps R G ds xs
  | .dic ks ds => ∃ kvs, H l = some (.dK kvs) ∧ kvs.map (·.1) = ks ∧ Reps R G ds (kvs.map (·.2))
  | _ => False
def SlOk (R : RC) (H0 H : Hp) (L : List Addr) : Sl → Option V → Prop
  | .un, _ => True
  | .dat d, v => ∃ x, v = some x ∧ Rep R (vis H L) d x
  | .own d, v => ∃ l, v = some (.ref l) ∧ l ∈ L ∧ H0 l = none ∧ OwnAt R (vis H L) H l d
/-- the abstract state: H0 the heap at the def's entry, O what is hidden from it, L what is hidden now -/
structure SR (R : RC) (H0 : Hp) (O : List Addr) (H : Hp) (L : List Addr) (σ : St) (ρ : List Sl) : Prop where
  same : Same H0 H
  len : σ.length = ρ.length
  ol : ∀ a ∈ O, a ∈ L
  od : ∀ a ∈ O, ∃ o, H0 a = some o
  ld : ∀ a ∈ L, ∃ o, H a = some o
  lo : ∀ a ∈ L, a ∈ O ∨ H0 a = none
  sl : ∀ (i : Nat) (s : Sl) (v : Option V), ρ[i]? = some s → σ[i]? = some v → SlOk R H0 H L s v
  ap : ∀ (i j : Nat) (d e : D) (l : Addr), ρ[i]? = some (.own d) → ρ[j]? = some (.own e) → σ[i]? = some (some (.ref l)) → σ[j]? = some (some (.ref l)) → i = j

theorem OwnAt.mono {R : RC} {G G' H H' : Hp} {l : Addr} (e : Same G G') (k : ∀ o, H l = some o → H' l = some o) : ∀ {d : D}, OwnAt R G H l d → OwnAt R G' H' l d
  | .lst ds, ⟨xs, h1, h2⟩ => ⟨xs, k _ h1, Reps.mono e _ _ h2⟩
  | .dic ks ds, ⟨kvs, h1, h2, h3⟩ => ⟨kvs, k _ h1, h2, Reps.mono e _ _ h3⟩
theorem SlOk.mono {R : RC} {H0 H H' : Hp} {L : List Addr} (e : Same H H') : ∀ {s : Sl} {v : Option V}, SlOk R H0 H L s v → SlOk R H0 H' L s v
  | .un, _, _ => trivial
  | .dat d, _, ⟨x, h1, h2⟩ => ⟨x, h1, Rep.mono (vis_mono e fun _ z => z) _ _ h2⟩
  | .own d, _, ⟨l, h1, h2, h3, h4⟩ => ⟨l, h1, h2, h3, h4.mono (vis_mono e fun _ z => z) (fun o => e _ _)⟩
theorem SR.mono {R : RC} {H0 H H' : Hp} {O L : List Addr} {σ : St} {ρ : List Sl} (s : SR R H0 O H L σ ρ) (e : Same H H') : SR R H0 O H' L σ ρ :=
  ⟨s.same.trans e, s.len, s.ol, s.od, fun a h => (s.ld a h).elim fun o z => ⟨o, e _ _ z⟩, s.lo, fun i sl v h1 h2 => (s.sl i sl v h1 h2).mono e, s.ap⟩
/-- a new address is not hidden -/
theorem SR.new {R : RC} {H0 H : Hp} {O L : List Addr} {σ : St} {ρ : List Sl} (s : SR R H0 O H L σ ρ) {p : Addr} (h : H p = none) : p ∉ L := fun z => by
  obtain ⟨o, e⟩ := s.ld p z
  rw [h] at e
  cases e
theorem SR.dat {R : RC} {H0 H : Hp} {O L : List Addr} {σ : St} {ρ : List Sl} (s : SR R H0 O H L σ ρ) {i : Nat} {d : D} (h : ρ[i]? = some (.dat d)) : ∃ v, σ[i]? = some (some v) ∧ Rep R (vis H L) d v := by
  have hi : i < σ.length := by rw [s.len]; exact (List.getElem?_eq_some_iff.mp h).1
  obtain ⟨x, e1, e2⟩ := s.sl i _ _ h (List.getElem?_eq_getElem hi)
  exact ⟨x, by rw [List.getElem?_eq_getElem hi, e1], e2⟩
theorem SR.own {R : RC} {H0 H : Hp} {O L : List Addr} {σ : St} {ρ : List Sl} (s : SR R H0 O H L σ ρ) {i : Nat} {d : D} (h : ρ[i]? = some (.own d)) : ∃ l, σ[i]? = some (some (.ref l)) ∧ l ∈ L ∧ H0 l = none ∧ OwnAt R (vis H L) H l d := by
  have hi : i < σ.length := by rw [s.len]; exact (List.getElem?_eq_some_iff.mp h).1
  obtain ⟨l, e1, e2, e3, e4⟩ := s.sl i _ _ h (List.getElem?_eq_getElem hi)
  exact ⟨l, by rw [List.getElem?_eq_getElem hi, e1], e2, e3, e4⟩
end NL

end
section
set_option Elab.async false
set_option linter.all false
set_option maxRecDepth 100000
namespace NL
open PySem PySem.Spec PyProof.Rows L2

inductive Out (α : Type) where
  | ok (a : α)
  | er (c : Str) (fs : List Str) (ds : List D)
  | bad
namespace Out
@[simp] def bind {α β : Type} : Out α → (α → Out β) → Out β
  | .ok a, f => f a
  | .er c fs ds, _ => .er c fs ds
  | .bad, _ => .bad
end Out
abbrev Res := Out D

/-! ### the small syntax -/
inductive BOp where
  | add | sub | mul | fdiv | mod | pow
  deriving DecidableEq
inductive COp where
  | eq | ne | lt | le | gt | ge | isin | notin | isN | notN
  deriving DecidableEq
inductive Cl where
  | ty (t : String)
  | cls (c : Str)
  deriving DecidableEq
inductive Prim where
  | len | int | str | abs | max2 | min2 | sum | all | any | list | tuple | sorted | dict | gcd | bool | repr
  deriving DecidableEq
inductive Mth where
  | get2 | count | join | index
  deriving DecidableEq
inductive Tg where
  | one (i : Nat)
  | tup (is : List Nat)
  deriving DecidableEq
mutual
inductive Ex where
  | var (i : Nat)
  | non | bl (b : Bool) | int (i : Int) | str (s : Str)
  | glo (k : Nat)
  | bin (o : BOp) (a b : Ex)
  | neg (a : Ex)
  | cmp (o : COp) (a b : Ex)
  | chain (o o' : COp) (a b c : Ex)
  | and (a b : Ex)
  | or (a b : Ex)
  | not (a : Ex)
  | ife (c : Tx) (a b : Ex)
  | tup (es : Es)
  | lst (es : Es)
  | sub (a i : Ex)
  | slice (a : Ex) (lo hi : Ox)
  | call (f : Nat) (es : Es)
  | prim (p : Prim) (es : Es)
  | meth (m : Mth) (o : Ex) (es : Es)
  | isi (a : Ex) (cs : List Cl) (one : Bool)
  | comp (own : List Nat) (tg : Tg) (it : It) (c : Tq) (elt : Ex)
  | brw (is : List Nat) (e : Ex)
  | fld (o : Ex) (f : Str)
inductive Tx where
  | val (e : Ex)
  | cmp (o : COp) (a b : Ex)
  | chain (o o' : COp) (a b c : Ex)
  | and (a b : Tx)
  | or (a b : Tx)
  | not (a : Tx)
inductive Es where
  | nil
  | cons (e : Ex) (r : Es)
inductive Ox where
  | no
  | yes (e : Ex)
inductive Tq where
  | yes
  | one (t : Tx)
inductive It where
  | seq (e : Ex)
  | rng1 (a : Ex)
  | rng2 (a b : Ex)
end
/-- what a try does with its one expression -/
inductive TryK where
  | set (i : Nat)
  | expr
  | ret
  | thn (r : Ex)
mutual
inductive Sm where
  | frz (i : Nat)
  | set (i : Nat) (e : Ex)
  | own (i : Nat) (e : Ex)
  | unp (is : List Nat) (e : Ex)
  | aug (i : Nat) (o : BOp) (e : Ex)
  | app (i : Nat) (e : Ex)
  | put (i : Nat) (k e : Ex)
  | expr (e : Ex)
  | ife (c : Tx) (a b : Ss)
  | for (tg : Tg) (it : It) (b : Ss)
  | while (c : Tx) (b : Ss)
  | ret (e : Ex)
  | retN
  | brk
  | cont
  | pas
  | raise (c : Str) (es : Es)
  | try (k : TryK) (e : Ex) (h : Hs)
  | nev
inductive Ss where
  | nil
  | cons (s : Sm) (r : Ss)
inductive Hs where
  | nil
  | cons (c : Str) (i : Option Nat) (b : Ss) (r : Hs)
end

/-! ### what the operations do -/
mutual
def D.py : D → PyData
  | .non => .none
  | .bl b => .bool b
  | .int i => .int i
  | .str s => .str s
  | .tup ds => .tuple (D.pys ds)
  | .lst ds => .list (D.pys ds)
  | .dic _ _ => .dict []
  | .obj _ _ _ => .dict []
  | .exc _ _ _ => .dict []
  | .scr ns => .list (ns.map PyData.int)
def D.pys : List D → List PyData
  | [] => []
  | d :: ds => d.py :: D.pys ds
end
def D.isNon : D → Bool
  | .non => true
  | _ => false
def D.scal : D → Bool
  | .non | .bl _ | .int _ | .str _ => true
  | _ => false
def D.flat : D → V
  | .bl b => .bl b
  | .int i => .int i
  | .str s => .str s
  | _ => .non
/-- == of two data, told where both are data that the model compares -/
def eqD (a b : D) : Out Bool :=
  if a.scal && b.scal && scal a.flat b.flat then .ok (decide (a.flat = b.flat))
  else if SeqAt.shaped a.py && SeqAt.shaped b.py then .ok (PyData.eqv a.py b.py) else .bad
def bOut (f : Bool → Bool) : Out Bool → Res
  | .ok b => .ok (.bl (f b))
  | .er c fs ds => .er c fs ds
  | .bad => .bad
def seqOf : D → Option (List D)
  | .tup ds => some ds
  | .lst ds => some ds
  | .scr ns => some (ns.map .int)
  | _ => none
def inAny (x : D) (ds : List D) : Bool := inV x.flat (ds.map D.flat)
def inD (f : Bool → Bool) (x y : D) : Res :=
  match x, y with
  | .str s, .str t => .ok (.bl (f (!(Builtin.Str.occurrences t s 0 t.length 1).isEmpty)))
  | x, .tup ds => if x.scal && ds.all D.scal then .ok (.bl (f (inAny x ds))) else .bad
  | x, .lst ds => if x.scal && ds.all D.scal then .ok (.bl (f (inAny x ds))) else .bad
  | _, _ => .bad
def cmpD : COp → D → D → Res
  | .eq, a, b => bOut id (eqD a b)
  | .ne, a, b => bOut not (eqD a b)
  | .lt, .int a, .int b => .ok (.bl (decide (a < b)))
  | .le, .int a, .int b => .ok (.bl (decide (a ≤ b)))
  | .gt, .int a, .int b => .ok (.bl (decide (b < a)))
  | .ge, .int a, .int b => .ok (.bl (decide (b ≤ a)))
  | .lt, .str a, .str b => .ok (.bl (decide (a.cps.toList < b.cps.toList)))
  | .isin, a, b => inD id a b
  | .notin, a, b => inD not a b
  | .isN, a, _ => .ok (.bl a.isNon)
  | .notN, a, _ => .ok (.bl (!a.isNon))
  | _, _, _ => .bad
def bits (i : Int) : Nat := i.natAbs
def binD : BOp → D → D → Res
  | .add, .int a, .int b => .ok (.int (a + b))
  | .add, .str a, .str b => if a.length + b.length ≤ sizeLine then .ok (.str (a ++ b)) else .bad
  | .add, .lst a, .lst b => if a.length + b.length ≤ sizeLine then .ok (.lst (a ++ b)) else .bad
  | .add, .tup a, .tup b => if a.length + b.length ≤ sizeLine then .ok (.tup (a ++ b)) else .bad
  | .sub, .int a, .int b => .ok (.int (a - b))
  | .mul, .int a, .int b => if a.natAbs.log2 + b.natAbs.log2 < 1000000 then .ok (.int (a * b)) else .bad
  | .mul, .lst a, .int k => if k.natAbs < 2 ^ 62 ∧ a.length * k.toNat ≤ sizeLine then .ok (.lst (List.replicate k.toNat a).flatten) else .bad
  | .fdiv, .int a, .int b => if 0 < b ∧ b.natAbs.log2 < 9000 then .ok (.int (a / b)) else .bad
  | .mod, .int a, .int b => if 0 < b then .ok (.int (a % b)) else .bad
  | .pow, .int a, .int b => if 0 ≤ b ∧ b ≤ 1000000 ∧ a.natAbs < 2 ^ 64 then .ok (.int (a ^ b.toNat)) else .bad
  | _, _, _ => .bad
def subD : D → D → Res
  | .tup ds, .int i => match atI ds i with | some d => .ok d | none => .bad
  | .lst ds, .int i => match atI ds i with | some d => .ok d | none => .bad
  | .scr ns, .int i => match atI ns i with | some d => .ok (.int d) | none => .bad
  | .str s, .int i => if s.length ≤ sizeLine then (match atI s.cps.toList i with | some c => .ok (.str ⟨#[c]⟩) | none => .bad) else .bad
  | _, _ => .bad
def endI : D → Out (Option Int)
  | .int i => .ok (some i)
  | _ => .bad
def cutD {α : Type} (xs : List α) (lo hi : Option Int) : List α := (xs.drop (HT.sIx xs.length 0 lo)).take (HT.sIx xs.length xs.length hi - HT.sIx xs.length 0 lo)
def sliceD (a : D) (lo hi : Option Int) : Res :=
  match a with
  | .lst ds => .ok (.lst (cutD ds lo hi))
  | .tup ds => .ok (.tup (cutD ds lo hi))
  | .str s => if s.length ≤ sizeLine then .ok (.str (cutS s lo hi)) else .bad
  | _ => .bad
def truthD : D → Out Bool
  | .bl b => .ok b
  | .non => .ok false
  | .int i => .ok (i != 0)
  | .str s => if s.length ≤ sizeLine then .ok (s.length != 0) else .bad
  | .lst ds => .ok (!ds.isEmpty)
  | .tup ds => .ok (!ds.isEmpty)
  | _ => .bad
def intsOf : List D → Option (List Int)
  | [] => some []
  | .int i :: r => (intsOf r).map (i :: ·)
  | _ :: _ => none
def blsOf : List D → Option (List Bool)
  | [] => some []
  | .bl i :: r => (blsOf r).map (i :: ·)
  | _ :: _ => none
def strsOf : List D → Option (List Str)
  | [] => some []
  | .str i :: r => (strsOf r).map (i :: ·)
  | _ :: _ => none
def primD (hot : Bool) : Prim → List D → Res
  | .len, [.str s] => if s.length ≤ sizeLine then .ok (.int s.length) else .bad
  | .len, [.tup ds] => .ok (.int ds.length)
  | .len, [.lst ds] => .ok (.int ds.length)
  | .len, [.scr ds] => .ok (.int ds.length)
  | .int, [.int i] => .ok (.int i)
  | .int, [.bl b] => .ok (.int (if b then 1 else 0))
  | .abs, [.int i] => .ok (.int (if i < 0 then -i else i))
  | .max2, [.int i, .int j] => if hot then .bad else .ok (.int (if j > i then j else i))
  | .min2, [.int i, .int j] => if hot then .bad else .ok (.int (if j < i then j else i))
  | .list, [.lst ds] => .ok (.lst ds)
  | .list, [.tup ds] => .ok (.lst ds)
  | .tuple, [.lst ds] => .ok (.tup ds)
  | .tuple, [.tup ds] => .ok (.tup ds)
  | .gcd, [.int i, .int j] => .ok (.int (Nat.gcd i.natAbs j.natAbs : Nat))
  | .sum, [.lst ds] => if hot then .bad else match intsOf ds with | some ns => .ok (.int ns.sum) | none => .bad
  | .all, [.lst ds] => if hot then .bad else match blsOf ds with | some ns => .ok (.bl (ns.all id)) | none => .bad
  | .any, [.lst ds] => if hot then .bad else match blsOf ds with | some ns => .ok (.bl (ns.any id)) | none => .bad
  | _, _ => .bad
def methD : Mth → D → List D → Res
  | _, _, _ => .bad
def tyName : D → Option String
  | .non => some "NoneType"
  | .bl _ => some "bool"
  | .int _ => some "int"
  | .str _ => some "str"
  | .tup _ => some "tuple"
  | .lst _ => some "list"
  | _ => none
/-- the classes that the program's own errors have, each with its bases -/
abbrev Bases := Str → List Cl
def isOne (B : Bases) : D → Cl → Out Bool
  | .exc c _ _, k => .ok ((B c).contains k)
  | .obj _ _ _, _ => .bad
  | d, .ty t => match tyName d with
    | some n => .ok (n == t || (n == "bool" && t == "int"))
    | none => .bad
  | d, .cls _ => match tyName d with
    | some _ => .ok false
    | none => .bad
def isAny (B : Bases) (d : D) : List Cl → Out Bool
  | [] => .ok false
  | c :: r => (isOne B d c).bind fun b => if b then .ok true else isAny B d r
def fldD : D → Str → Res
  | .exc _ fs ds, f => match (fs.zip ds).lookup f with | some d => .ok d | none => .bad
  | _, _ => .bad
def fldX (ef : Str → Option (List Str)) : D → Str → Res
  | .exc c fs ds, f => if ef c = some fs.reverse then fldD (.exc c fs ds) f else .bad
  | _, _ => .bad
mutual
def D.still : D → Bool
  | .non | .bl _ | .int _ | .str _ => true
  | .tup ds => D.stills ds
  | _ => false
def D.stills : List D → Bool
  | [] => true
  | d :: ds => d.still && D.stills ds
end
def stillR : Res → Res
  | .ok d => if d.still then .ok d else .bad
  | .er c fs ds => if D.stills ds then .er c fs ds else .bad
  | .bad => .bad
def thaw : Sl → Sl
  | .own d => .dat d
  | s => s
def frzAt (ρ : List Sl) (i : Nat) : List Sl := match ρ[i]? with
  | some s => ρ.set i (thaw s)
  | none => ρ
def frzAll (ρ : List Sl) (is : List Nat) : List Sl := is.foldl frzAt ρ
def wipeR (ρ : List Sl) (is : List Nat) : List Sl := is.foldr (fun i r => r.set i .un) ρ
def Tg.isTup : Tg → Bool
  | .one _ => false
  | .tup _ => true
def setAll : List Sl → List Nat → List D → List Sl
  | ρ, i :: is, d :: ds => setAll (ρ.set i (.dat d)) is ds
  | ρ, _, _ => ρ
def setTg (ρ : List Sl) : Tg → D → Out (List Sl)
  | .one i, d => .ok (ρ.set i (.dat d))
  | .tup is, .tup ds => if is.length = ds.length then .ok (setAll ρ is ds) else .bad
  | .tup _, _ => .bad
/-- a comprehension's items -/
def compD (f : D → Out (Option D)) : List D → Out (List D)
  | [] => .ok []
  | d :: ds => match f d with
    | .ok y => match compD f ds with
      | .ok r => .ok (match y with | some z => z :: r | none => r)
      | _ => .bad
    | _ => .bad
def rngD (lo hi : Int) : List D := (List.range (hi - lo).toNat).map fun k => D.int (lo + (k : Nat))
def rngOk (lo hi : Int) : Bool := decide (lo.natAbs < 2 ^ 62) && decide (hi.natAbs < 2 ^ 62)
theorem rngOk_ok {lo hi : Int} (h : rngOk lo hi = true) : -(2 ^ 62) ≤ lo ∧ lo < 2 ^ 62 ∧ -(2 ^ 62) ≤ hi ∧ hi < 2 ^ 62 := by
  unfold rngOk at h
  simp only [Bool.and_eq_true, decide_eq_true_eq] at h
  omega

/-! ### the evaluator -/
/-- what surrounds a piece of code: the defs by number, the module's texts, the classes -/
structure Sur where
  Φ : Bool → Nat → List D → Res
  hot : Bool
  gl : List Str
  B : Bases
  ef : Str → Option (List Str)
mutual
def ev (S : Sur) : Ex → List Sl → Res
  | .var i, ρ => match ρ[i]? with
    | some (.dat d) => .ok d
    | _ => .bad
  | .non, _ => .ok .non
  | .bl b, _ => .ok (.bl b)
  | .int i, _ => .ok (.int i)
  | .str s, _ => .ok (.str s)
  | .glo k, _ => match S.gl[k]? with
    | some s => .ok (.str s)
    | none => .bad
  | .bin o a b, ρ => (ev S a ρ).bind fun x => (ev S b ρ).bind fun y => binD o x y
  | .neg a, ρ => (ev S a ρ).bind fun x => match x with
    | .int i => .ok (.int (-i))
    | _ => .bad
  | .cmp o a b, ρ => (ev S a ρ).bind fun x => (ev S b ρ).bind fun y => cmpD o x y
  | .chain o o' a b c, ρ => (ev S a ρ).bind fun x => (ev S b ρ).bind fun y => (cmpD o x y).bind fun z => match z with
    | .bl true => (ev S c ρ).bind fun w => cmpD o' y w
    | .bl false => .ok (.bl false)
    | _ => .bad
  | .and a b, ρ => (ev S a ρ).bind fun x => match x with
    | .bl true => ev S b ρ
    | .bl false => .ok (.bl false)
    | _ => .bad
  | .or a b, ρ => (ev S a ρ).bind fun x => match x with
    | .bl true => .ok (.bl true)
    | .bl false => ev S b ρ
    | _ => .bad
  | .not a, ρ => (ev S a ρ).bind fun x => match x with
    | .bl b => .ok (.bl (!b))
    | _ => .bad
  | .ife c a b, ρ => (evT S c ρ).bind fun t => match t with
    | true => ev S a ρ
    | false => ev S b ρ
  | .tup es, ρ => (evs S es ρ).bind fun ds => .ok (.tup ds)
  | .lst es, ρ => (evs S es ρ).bind fun ds => .ok (.lst ds)
  | .sub a i, ρ => (ev S a ρ).bind fun x => (ev S i ρ).bind fun y => subD x y
  | .slice a lo hi, ρ => (ev S a ρ).bind fun x => (evo S lo ρ).bind fun l => (evo S hi ρ).bind fun h => sliceD x l h
  | .call f es, ρ => (evs S es ρ).bind fun ds => S.Φ S.hot f ds
  | .prim p es, ρ => (evs S es ρ).bind fun ds => primD S.hot p ds
  | .meth m o es, ρ => (ev S o ρ).bind fun x => (evs S es ρ).bind fun ds => methD m x ds
  | .isi a cs _, ρ => (ev S a ρ).bind fun x => bOut id (isAny S.B x cs)
  | .comp own tg it c elt, ρ => if S.hot && tg.isTup then .bad else (evI S it ρ).bind fun ds => (compD (fun d => (setTg (wipeR ρ own) tg d).bind fun r => (evq S c r).bind fun t => match t with
      | true => (ev S elt r).bind fun y => .ok (some y)
      | false => .ok none) ds).bind fun ys => if ys.length ≤ 1000000 then .ok (.lst ys) else .bad
  | .brw is e, ρ => stillR (ev S e (frzAll ρ is))
  | .fld o f, ρ => (ev S o ρ).bind fun x => fldX S.ef x f
def evT (S : Sur) : Tx → List Sl → Out Bool
  | .val e, ρ => (ev S e ρ).bind truthD
  | .cmp o a b, ρ => ((ev S a ρ).bind fun x => (ev S b ρ).bind fun y => cmpD o x y).bind truthD
  | .chain o o' a b c, ρ => ((ev S a ρ).bind fun x => (ev S b ρ).bind fun y => (cmpD o x y).bind fun z => match z with
    | .bl true => (ev S c ρ).bind fun w => cmpD o' y w
    | .bl false => .ok (.bl false)
    | _ => .bad).bind truthD
  | .and a b, ρ => (evT S a ρ).bind fun t => match t with
    | true => evT S b ρ
    | false => .ok false
  | .or a b, ρ => (evT S a ρ).bind fun t => match t with
    | true => .ok true
    | false => evT S b ρ
  | .not a, ρ => (evT S a ρ).bind fun t => .ok (!t)
def evs (S : Sur) : Es → List Sl → Out (List D)
  | .nil, _ => .ok []
  | .cons e r, ρ => (ev S e ρ).bind fun d => (evs S r ρ).bind fun ds => .ok (d :: ds)
def evo (S : Sur) : Ox → List Sl → Out (Option Int)
  | .no, _ => .ok none
  | .yes e, ρ => (ev S e ρ).bind endI
def evq (S : Sur) : Tq → List Sl → Out Bool
  | .yes, _ => .ok true
  | .one t, ρ => evT S t ρ
def evI (S : Sur) : It → List Sl → Out (List D)
  | .seq e, ρ => (ev S e ρ).bind fun x => match seqOf x with
    | some ds => .ok ds
    | none => .bad
  | .rng1 a, ρ => (ev S a ρ).bind fun x => match x with
    | .int hi => if rngOk 0 hi then .ok (rngD 0 hi) else .bad
    | _ => .bad
  | .rng2 a b, ρ => (ev S a ρ).bind fun x => (ev S b ρ).bind fun y => match x, y with
    | .int lo, .int hi => if rngOk lo hi then .ok (rngD lo hi) else .bad
    | _, _ => .bad
end

/-- a statement's end -/
inductive Fl where
  | nx (ρ : List Sl)
  | rt (d : D)
  | bk (ρ : List Sl)
  | ct (ρ : List Sl)
abbrev FO := Out Fl
def seqF (a : FO) (k : List Sl → FO) : FO := match a with
  | .ok (.nx ρ) => k ρ
  | r => r
def loopF (tg : Tg) (body : List Sl → FO) : List D → List Sl → FO
  | [], ρ => .ok (.nx ρ)
  | d :: ds, ρ => (setTg ρ tg d).bind fun r => match body r with
    | .ok (.nx ρ') => loopF tg body ds ρ'
    | .ok (.ct ρ') => loopF tg body ds ρ'
    | .ok (.bk ρ') => .ok (.nx ρ')
    | r => r
def whileF (c : List Sl → Out Bool) (body : List Sl → FO) : Nat → List Sl → FO
  | 0, _ => .bad
  | n + 1, ρ => (c ρ).bind fun t => match t with
    | true => match body ρ with
      | .ok (.nx ρ') => whileF c body n ρ'
      | .ok (.ct ρ') => whileF c body n ρ'
      | .ok (.bk ρ') => .ok (.nx ρ')
      | r => r
    | false => .ok (.nx ρ)
def augD : BOp → D → D → Res
  | .add, .int a, .int b => .ok (.int (a + b))
  | .sub, .int a, .int b => .ok (.int (a - b))
  | _, _, _ => .bad
/-- x[k] = v of an own list or dict -/
def putD : D → D → D → Option D
  | .lst ds, .int i, v => (ixN ds.length i).map fun j => .lst (ds.set j v)
  | _, _, _ => none
mutual
/-- no exception within -/
def D.nox : D → Bool
  | .non | .bl _ | .int _ | .str _ | .scr _ => true
  | .tup ds => D.noxs ds
  | .lst ds => D.noxs ds
  | .dic _ ds => D.noxs ds
  | .obj _ _ ds => D.noxs ds
  | .exc _ _ _ => false
def D.noxs : List D → Bool
  | [] => true
  | d :: ds => d.nox && D.noxs ds
end
def noxS : Sl → Bool
  | .dat d => d.nox
  | .own d => d.nox
  | .un => true
def cool (i : Option Nat) (ρ : List Sl) : FO := let r := (match i with | some k => ρ.set k .un | none => ρ); if r.all noxS then .ok (.nx r) else .bad
def coolF (i : Option Nat) : FO → FO
  | .ok (.nx ρ) => cool i ρ
  | .ok (.rt d) => if d.nox then .ok (.rt d) else .bad
  | _ => .bad
def tryF (S : Sur) : TryK → List Sl → D → FO
  | .set i, ρ, d => .ok (.nx (ρ.set i (.dat d)))
  | .expr, ρ, _ => .ok (.nx ρ)
  | .ret, _, d => .ok (.rt d)
  | .thn r, ρ, _ => (match ev S r ρ with | .ok y => .ok (.rt y) | _ => .bad)
mutual
def ex (S : Sur) (F : Nat) : Sm → List Sl → FO
  | .frz i, ρ => .ok (.nx (frzAt ρ i))
  | .set i e, ρ => (ev S e ρ).bind fun d => .ok (.nx (ρ.set i (.dat d)))
  | .own i e, ρ => (ev S e ρ).bind fun d => match d with
    | .lst ds => .ok (.nx (ρ.set i (.own (.lst ds))))
    | _ => .bad
  | .unp is e, ρ => if S.hot then .bad else (ev S e ρ).bind fun d => (setTg ρ (.tup is) d).bind fun r => .ok (.nx r)
  | .aug i o e, ρ => match ρ[i]? with
    | some (.dat x) => (ev S e ρ).bind fun y => (augD o x y).bind fun z => .ok (.nx (ρ.set i (.dat z)))
    | _ => .bad
  | .app i e, ρ => match ρ[i]? with
    | some (.own (.lst ds)) => (ev S e ρ).bind fun y => if ds.length < 1000000 then .ok (.nx (ρ.set i (.own (.lst (ds ++ [y]))))) else .bad
    | _ => .bad
  | .put i k e, ρ => match ρ[i]? with
    | some (.own x) => (ev S e ρ).bind fun y => (ev S k ρ).bind fun j => match putD x j y with
      | some z => .ok (.nx (ρ.set i (.own z)))
      | none => .bad
    | _ => .bad
  | .expr e, ρ => (ev S e ρ).bind fun _ => .ok (.nx ρ)
  | .ife c a b, ρ => (evT S c ρ).bind fun t => match t with
    | true => exs S F a ρ
    | false => exs S F b ρ
  | .for tg it b, ρ => if S.hot && tg.isTup then .bad else (evI S it ρ).bind fun ds => loopF tg (fun r => exs S F b r) ds ρ
  | .while c b, ρ => whileF (fun r => evT S c r) (fun r => exs S F b r) F ρ
  | .ret e, ρ => (ev S e ρ).bind fun d => .ok (.rt d)
  | .retN, _ => .ok (.rt .non)
  | .brk, ρ => .ok (.bk ρ)
  | .cont, ρ => .ok (.ct ρ)
  | .pas, ρ => .ok (.nx ρ)
  | .raise c es, ρ => if S.hot then .bad else match S.ef c with
    | some (f :: fs) => (evs S es ρ).bind fun ds => if (f :: fs).length = ds.length then .er c (f :: fs).reverse ds.reverse else .bad
    | _ => .bad
  | .nev, _ => .bad
  | .try k e h, ρ => if S.hot then .bad else match ev S e ρ with
    | .er c fs ds => (match S.ef c with | some _ => exh S F c fs ds h ρ | none => .bad)
    | .ok d => tryF S k ρ d
    | .bad => .bad
def exs (S : Sur) (F : Nat) : Ss → List Sl → FO
  | .nil, ρ => .ok (.nx ρ)
  | .cons s r, ρ => seqF (ex S F s ρ) fun ρ' => exs S F r ρ'
def exh (S : Sur) (F : Nat) (c : Str) (fs : List Str) (ds : List D) : Hs → List Sl → FO
  | .nil, _ => .er c fs ds
  | .cons k i b r, ρ => if (S.B c).contains (.cls k) then coolF i (exs { S with hot := true } F b (match i with | some j => ρ.set j (.dat (.exc c fs ds)) | none => ρ)) else exh S F c fs ds r ρ
end
/-- a def: parameters, slots, body -/
structure Df where
  np : Nat
  ns : Nat
  body : Ss
def startR (d : Df) (ds : List D) : List Sl := ds.map .dat ++ List.replicate (d.ns - ds.length) .un
def endF : FO → Res
  | .ok (.nx _) => .ok .non
  | .ok (.rt d) => .ok d
  | .er c fs ds => .er c fs ds
  | _ => .bad
structure Tb where
  df : Nat → Option Df
  gl : List Str
  B : Bases
  ef : Str → Option (List Str)
def run (T : Tb) (F : Nat) : Nat → Bool → Nat → List D → Res
  | 0, _, _, _ => .bad
  | n + 1, hot, f, ds => match T.df f with
    | some d => if ds.length = d.np then endF (exs ⟨run T F n, hot, T.gl, T.B, T.ef⟩ F d.body (startR d ds)) else .bad
    | none => .bad
end NL

end
section
set_option Elab.async false
set_option linter.all false
set_option maxRecDepth 100000
namespace NL
open PySem PySem.Spec PyProof.Rows L2 L2H
/-! ### a whole text, what the head must tell of it -/
structure Nm where
  fn : List Str
  gn : List Str
  bn : List Str
  im : List Str
  cl : List Str
  rc : List Str
def tys : List String := ["int", "str", "bool", "list", "tuple", "ValueError"]
structure FnE where
  x : Str
  st : Stmt
  N : List Str
  ps : List Str
  d : Df
structure RcE where
  c : Str
  fs : List Str
  st : Stmt
  N : List Str
  q : Str
structure Pg where
  fns : List FnE
  gs : List (Str × Str)
  bn : List Str
  im : List Str
  cl : List Str
  rc : List RcE
  bs : List (Str × List Cl)
def Pg.nm (p : Pg) : Nm := ⟨p.fns.map (·.x), p.gs.map (·.1), p.bn, p.im, p.cl, p.rc.map (·.c)⟩
def Pg.T (p : Pg) : Tb := ⟨fun f => (p.fns[f]?).map (·.d), p.gs.map (·.2), fun c => (p.bs.lookup c).getD [], fun c => (p.rc.map fun e => (e.c, e.fs)).lookup c⟩
def FnE.dd (e : FnE) : He.DefD := ⟨(e.x, none), e.x, e.x, defArgs e.st, defBody e.st, defScope e.st, [], []⟩
def RcE.dd (e : RcE) : He.DefD := ⟨(e.c, some "__init__"), "__init__", e.q, defArgs e.st, defBody e.st, defScope e.st, [], []⟩
def Pg.dds (p : Pg) : List He.DefD := p.fns.map FnE.dd ++ p.rc.map RcE.dd
/-- what the head tells of the classes, of the names -/
def oexB (K : PySem.W.Frag) (C : Addr) : Bool := match K.lookup C with
  | some ⟨.type t, _, .cls cd, sl⟩ => (match cd.mro, sl.toList with
    | .ref C' :: bm, [_, _, _, _, some (.builtin n), _] => decide (t = "type") && decide (C' = C) && decide (n = "ValueError.__new__") && cd.hasDict && !cd.hasDel && PySem.HandSPX.refsVE bm
    | _, _ => false)
  | _ => false
def tyN : List String := ["NoneType", "bool", "int", "str", "tuple", "list"]
def rcB (p : Pg) (K : PySem.W.Frag) (e : RcE) : Bool :=
  let C := He.ga K e.c
  oexB K C && He.eqO (PySem.W.findIn K (.ref C) "__setattr__") (some (some (.builtin "object.__setattr__"))) && decide (PySem.W.subIn K (.ref C) (.type "BaseException") = some true) && decide (PySem.W.typeIn K (.ref C) = some (.type "type")) && PySem.W.keepIn K (.ref C)
    && He.eqO (PySem.W.findIn K (.ref C) "__init__") (some (some (.ref (He.ma K C "__init__")))) && decide (PySem.W.typeIn K (.ref (He.ma K C "__init__")) = some (.type "function"))
    && e.fs.all (fun f => He.eqO (PySem.W.findIn K (.ref C) f) (some none))
    && He.eqO (PySem.W.findIn K (.ref C) "__getattribute__") (some (some (.builtin "BaseException.__getattribute__"))) && He.eqO (PySem.W.findIn K (.ref C) "__getattr__") (some none) && PySem.W.hasDictIn K C
    && He.eqO (PySem.W.findIn K (.ref C) "__class__") (some (some (.builtin "object.__class__"))) && He.eqO (PySem.W.specialIn K (.builtin "object.__class__") "__get__") (some (some (.builtin "getset_descriptor.__get__")))
    && decide (PySem.W.takesIn K (.builtin "object.__class__") = some true) && decide (PySem.W.mroIn K C (.type "object") = some true)
    && tys.all (fun t => decide (PySem.W.kitOne K (.ref C) (.type t) = some ((p.T.B e.c).contains (.ty t))))
    && p.cl.all (fun k => decide (PySem.W.kitOne K (.ref C) (.ref (He.ga K k)) = some ((p.T.B e.c).contains (.cls k))) && decide (PySem.W.exmOne K (.ref C) (.ref (He.ga K k)) = some ((p.T.B e.c).contains (.cls k))))
def exB (p : Pg) (K : PySem.W.Frag) : Bool :=
  p.fns.all (fun e => He.eqO (PySem.W.nsIn K mainGlobals e.x) (some (some (.ref (He.ga K e.x)))))
    && p.gs.all (fun q => match PySem.W.nsIn K mainGlobals q.1 with
      | some (some (.str y _)) => decide (y = q.2)
      | _ => false)
    && p.bn.all (fun x => He.eqO (PySem.W.nsIn K mainGlobals x) (some none))
    && p.im.all (fun x => He.eqO (PySem.W.nsIn K mainGlobals x) (some (some (.builtin "math.gcd"))))
    && p.cl.all (fun c => He.eqO (PySem.W.nsIn K mainGlobals c) (some (some (.ref (He.ga K c)))) && PySem.W.keepIn K (.ref (He.ga K c)) && tyN.all fun t => decide (PySem.W.kitOne K (.type t) (.ref (He.ga K c)) = some false))
    && p.rc.all (rcB p K)
end NL

end
section
set_option Elab.async false
set_option linter.all false
set_option maxRecDepth 100000
set_option maxHeartbeats 0
namespace NL
open PySem PySem.Spec PyProof.Rows L2
def top (i : Nat) : Stmt := PySem.Challenge.pw_neverlocked_k05_ratios.main.body.getD i (.Pass ⟨0, 0, 0, 0⟩)
def inCls : Stmt → Nat → Stmt
  | .ClassDef (body := b) .., j => b.getD j (.Pass ⟨0, 0, 0, 0⟩)
  | s, _ => s
def b__law_digits : Ss := (.cons (.own 2 (.lst .nil)) (.cons (.set 3 (.prim .int (.cons (.var 0) .nil))) (.cons (.ife (.cmp .ge (.var 3) (.bin .pow (.int 10) (.int 18))) (.cons (.set 3 (.bin .sub (.var 3) (.bin .pow (.int 10) (.int 18)))) (.cons (.for (.one 6) (.seq (.var 1)) (.cons (.app 2 (.bin .mod (.prim .int (.cons (.var 3) .nil)) (.var 6))) (.cons (.set 3 (.bin .fdiv (.prim .int (.cons (.var 3) .nil)) (.var 6))) .nil))) (.cons (.frz 2) (.cons (.ret (.var 2)) .nil)))) .nil) (.cons (.set 4 (.bin .mod (.prim .int (.cons (.var 3) .nil)) (.int 2147483629))) (.cons (.for (.one 5) (.rng1 (.prim .len (.cons (.var 1) .nil))) (.cons (.set 4 (.bin .mod (.prim .int (.cons (.bin .add (.bin .add (.bin .mul (.var 4) (.int 48271)) (.bin .mul (.int 974711) (.var 5))) (.int 12345)) .nil)) (.int 2147483647))) (.cons (.set 7 (.bin .mod (.prim .int (.cons (.bin .mul (.var 4) (.bin .add (.bin .fdiv (.var 4) (.int 65537)) (.int 3))) .nil)) (.int 2147483629))) (.cons (.app 2 (.bin .mod (.bin .fdiv (.var 7) (.int 19)) (.sub (.var 1) (.var 5)))) .nil)))) (.cons (.frz 2) (.cons (.ret (.var 2)) .nil)))))))
def b__law_amount : Ss := (.cons (.set 2 (.call 0 (.cons (.var 0) (.cons (.lst (.cons (.bin .pow (.int 10) (.int 7)) (.cons (.bin .pow (.int 10) (.int 7)) (.cons (.bin .pow (.int 10) (.int 6)) (.cons (.int 13) .nil))))) .nil)))) (.cons (.set 3 (.bin .add (.bin .add (.sub (.var 2) (.int 0)) (.bin .mul (.sub (.var 2) (.int 1)) (.bin .pow (.int 10) (.int 7)))) (.bin .mul (.sub (.var 2) (.int 2)) (.bin .pow (.int 10) (.int 14))))) (.cons (.ret (.sub (.lst (.cons (.var 3) (.cons (.var 3) (.cons (.var 3) (.cons (.var 3) (.cons (.sub (.var 2) (.int 0)) (.cons (.sub (.var 2) (.int 3)) (.cons (.int 1) (.cons (.int 0) .nil))))))))) (.var 1))) .nil)))
def b__law_cell : Ss := (.cons (.ife (.cmp .lt (.var 1) (.prim .len (.cons (.var 0) .nil))) (.cons (.ret (.sub (.var 0) (.var 1))) .nil) .nil) (.cons (.set 2 (.int 17)) (.cons (.for (.one 3) (.seq (.var 0)) (.cons (.set 2 (.bin .mod (.prim .int (.cons (.bin .add (.bin .mul (.var 2) (.int 31)) (.bin .mod (.prim .int (.cons (.var 3) .nil)) (.int 1000003))) .nil)) (.int 1000003))) .nil)) (.cons (.ret (.bin .mod (.prim .int (.cons (.bin .mul (.bin .mul (.bin .add (.var 2) (.int 7)) (.bin .add (.var 1) (.int 3))) (.int 69621)) .nil)) (.int 2147483647))) .nil))))
def b__law_fraction : Ss := (.cons (.set 4 (.prim .max2 (.cons (.int 1) (.cons (.call 1 (.cons (.call 2 (.cons (.var 0) (.cons (.var 1) .nil))) (.cons (.sub (.var 2) (.int 0)) .nil))) .nil)))) (.cons (.set 5 (.bin .mul (.call 1 (.cons (.call 2 (.cons (.var 0) (.cons (.bin .add (.var 1) (.int 1)) .nil))) (.cons (.sub (.var 2) (.int 1)) .nil))) (.var 4))) (.cons (.set 6 (.bin .mul (.prim .max2 (.cons (.int 1) (.cons (.call 1 (.cons (.call 2 (.cons (.var 0) (.cons (.bin .add (.var 1) (.int 2)) .nil))) (.cons (.bin .mod (.prim .int (.cons (.sub (.var 2) (.int 2)) .nil)) (.int 7)) .nil))) .nil))) (.var 4))) (.cons (.ret (.lst (.cons (.bin .mul (.var 5) (.bin .sub (.int 1) (.bin .mul (.int 2) (.sub (.var 3) (.int 0))))) (.cons (.bin .mul (.var 6) (.bin .sub (.int 1) (.bin .mul (.int 2) (.sub (.var 3) (.int 1))))) .nil)))) .nil))))
def b__law_second : Ss := (.cons (.ife (.cmp .eq (.var 2) (.int 3)) (.cons (.ret (.lst (.cons (.sub (.var 1) (.int 0)) (.cons (.bin .mul (.sub (.var 0) (.int 1)) (.bin .add (.int 1) (.bin .mod (.prim .int (.cons (.prim .abs (.cons (.sub (.var 1) (.int 1)) .nil)) .nil)) (.int 12)))) .nil)))) .nil) .nil) (.cons (.ife (.cmp .eq (.var 2) (.int 4)) (.cons (.ret (.lst (.cons (.bin .mul (.sub (.var 0) (.int 0)) (.int 7)) (.cons (.bin .mul (.sub (.var 0) (.int 1)) (.int 7)) .nil)))) .nil) .nil) (.cons (.ife (.cmp .eq (.var 2) (.int 5)) (.cons (.ret (.lst (.cons (.sub (.var 0) (.int 0)) (.cons (.bin .sub (.int 0) (.sub (.var 0) (.int 1))) .nil)))) .nil) .nil) (.cons (.ife (.and (.cmp .eq (.var 2) (.int 6)) (.cmp .ne (.sub (.var 0) (.int 0)) (.int 0))) (.cons (.ret (.lst (.cons (.sub (.var 0) (.int 1)) (.cons (.sub (.var 0) (.int 0)) .nil)))) .nil) .nil) (.cons (.ife (.cmp .eq (.var 2) (.int 7)) (.cons (.ret (.lst (.cons (.bin .add (.sub (.var 0) (.int 0)) (.int 1)) (.cons (.sub (.var 0) (.int 1)) .nil)))) .nil) .nil) (.cons (.ife (.and (.cmp .eq (.var 2) (.int 8)) (.cmp .ne (.sub (.var 0) (.int 1)) (.neg (.int 1)))) (.cons (.ret (.lst (.cons (.sub (.var 0) (.int 0)) (.cons (.bin .add (.sub (.var 0) (.int 1)) (.int 1)) .nil)))) .nil) .nil) (.cons (.ret (.prim .list (.cons (.var 1) .nil))) .nil)))))))
def b__law_divisor : Ss := (.cons (.set 2 (.var 0)) (.cons (.set 3 (.var 1)) (.cons (.for (.one 4) (.rng1 (.int 2000)) (.cons (.ife (.cmp .eq (.var 3) (.int 0)) (.cons .brk .nil) .nil) (.cons (.set 5 (.bin .mod (.prim .int (.cons (.var 2) .nil)) (.prim .int (.cons (.var 3) .nil)))) (.cons (.set 2 (.var 3)) (.cons (.set 3 (.var 5)) .nil))))) (.cons (.ret (.var 2)) .nil))))
def b__law_lowest : Ss := (.cons (.set 2 (.call 5 (.cons (.prim .abs (.cons (.var 0) .nil)) (.cons (.prim .abs (.cons (.var 1) .nil)) .nil)))) (.cons (.ife (.cmp .lt (.var 1) (.int 0)) (.cons (.ret (.tup (.cons (.bin .sub (.int 0) (.bin .fdiv (.var 0) (.var 2))) (.cons (.bin .sub (.int 0) (.bin .fdiv (.var 1) (.var 2))) .nil)))) .nil) .nil) (.cons (.ret (.tup (.cons (.bin .fdiv (.var 0) (.var 2)) (.cons (.bin .fdiv (.var 1) (.var 2)) .nil)))) .nil)))
def b__law_whole : Ss := (.cons (.ret (.and (.isi (.var 0) [.ty "int"] true) (.not (.isi (.var 0) [.ty "bool"] true)))) .nil)
def b__law_same : Ss := (.cons (.ife (.val (.isi (.var 1) [.ty "tuple"] true)) (.cons (.ife (.or (.cmp .eq (.var 2) (.int 0)) (.or (.not (.val (.isi (.var 0) [.ty "tuple"] true))) (.cmp .ne (.prim .len (.cons (.var 0) .nil)) (.prim .len (.cons (.var 1) .nil))))) (.cons (.ret (.bl false)) .nil) .nil) (.cons (.for (.one 3) (.rng1 (.prim .len (.cons (.var 1) .nil))) (.cons (.ife (.not (.val (.call 8 (.cons (.sub (.var 0) (.var 3)) (.cons (.sub (.var 1) (.var 3)) (.cons (.bin .sub (.var 2) (.int 1)) .nil)))))) (.cons (.ret (.bl false)) .nil) .nil) .nil)) (.cons (.ret (.bl true)) .nil))) .nil) (.cons (.ife (.cmp .isN (.var 1) .non) (.cons (.ret (.cmp .isN (.var 0) .non)) .nil) .nil) (.cons (.ife (.val (.isi (.var 1) [.ty "bool"] true)) (.cons (.ret (.and (.isi (.var 0) [.ty "bool"] true) (.cmp .eq (.var 0) (.var 1)))) .nil) .nil) (.cons (.ife (.val (.isi (.var 1) [.ty "int"] true)) (.cons (.ret (.and (.call 7 (.cons (.var 0) .nil)) (.cmp .eq (.var 0) (.var 1)))) .nil) .nil) (.cons (.ret (.and (.isi (.var 0) [.ty "str"] true) (.cmp .eq (.var 0) (.var 1)))) .nil)))))
def b_ratio : Ss := (.cons (.ife (.cmp .eq (.var 1) (.int 0)) (.cons (.raise "BadCount" (.cons (.var 1) .nil)) .nil) .nil) (.cons (.ife (.cmp .lt (.var 1) (.int 0)) (.cons (.ret (.call 9 (.cons (.neg (.var 0)) (.cons (.neg (.var 1)) .nil)))) .nil) .nil) (.cons (.set 2 (.prim .gcd (.cons (.var 0) (.cons (.var 1) .nil)))) (.cons (.ret (.tup (.cons (.bin .fdiv (.var 0) (.var 2)) (.cons (.bin .fdiv (.var 1) (.var 2)) .nil)))) .nil))))
def b__law_sole : Ss := (.cons (.set 1 (.lst (.cons (.isi (.var 0) [.cls "BadBag"] true) (.cons (.isi (.var 0) [.cls "BadCount"] true) (.cons (.isi (.var 0) [.cls "BadDeed"] true) (.cons (.isi (.var 0) [.cls "BadName"] true) (.cons (.isi (.var 0) [.cls "BadPlay"] true) (.cons (.isi (.var 0) [.cls "BadPlayer"] true) (.cons (.isi (.var 0) [.cls "BadWord"] true) (.cons (.isi (.var 0) [.cls "EmptyBook"] true) (.cons (.isi (.var 0) [.cls "EmptyRule"] true) (.cons (.isi (.var 0) [.cls "HasLocks"] true) (.cons (.isi (.var 0) [.cls "KindsDiffer"] true) (.cons (.isi (.var 0) [.cls "LocksDiffer"] true) (.cons (.isi (.var 0) [.cls "Lost"] true) (.cons (.isi (.var 0) [.cls "NameTaken"] true) (.cons (.isi (.var 0) [.cls "NoDealing"] true) (.cons (.isi (.var 0) [.cls "NoDealingSet"] true) (.cons (.isi (.var 0) [.cls "NoRule"] true) (.cons (.isi (.var 0) [.cls "NotExact"] true) (.cons (.isi (.var 0) [.cls "NotFeasible"] true) (.cons (.isi (.var 0) [.cls "NotFitting"] true) (.cons (.isi (.var 0) [.cls "NothingToRedo"] true) (.cons (.isi (.var 0) [.cls "NothingToUndo"] true) (.cons (.isi (.var 0) [.cls "NotLet"] true) (.cons (.isi (.var 0) [.cls "NotPlain"] true) (.cons (.isi (.var 0) [.cls "NotSeen"] true) (.cons (.isi (.var 0) [.cls "NotSpent"] true) (.cons (.isi (.var 0) [.cls "NotTrue"] true) (.cons (.isi (.var 0) [.cls "NotWithin"] true) (.cons (.isi (.var 0) [.cls "SeenTwice"] true) (.cons (.isi (.var 0) [.cls "SpentInNeed"] true) (.cons (.isi (.var 0) [.cls "UnknownKind"] true) (.cons (.isi (.var 0) [.cls "UnknownLock"] true) (.cons (.isi (.var 0) [.cls "UnknownName"] true) (.cons (.isi (.var 0) [.cls "UnknownQuestion"] true) (.cons (.isi (.var 0) [.cls "UnknownRoom"] true) (.cons (.isi (.var 0) [.cls "UnknownSpot"] true) (.cons (.isi (.var 0) [.cls "WorldsDiffer"] true) (.cons (.isi (.var 0) [.cls "WrongLength"] true) .nil)))))))))))))))))))))))))))))))))))))))) (.cons (.ret (.and (.cmp .eq (.prim .len (.cons (.comp [2] (.one 2) (.seq (.var 1)) (.one (.val (.var 2))) (.var 2)) .nil)) (.int 1)) (.and (.isi (.var 0) [.cls "DealError"] true) (.isi (.var 0) [.ty "ValueError"] true)))) .nil))
def b__law_refused : Ss := (.cons (.try .expr (.call 9 (.cons (.var 0) (.cons (.int 0) .nil))) (.cons "BadCount" (some 1) (.cons (.ret (.and (.call 10 (.cons (.var 1) .nil)) (.call 8 (.cons (.fld (.var 1) "number") (.cons (.int 0) (.cons (.int 1) .nil)))))) .nil) (.cons "DealError" none (.cons (.ret (.bl false)) .nil) .nil))) (.cons (.ret (.bl false)) .nil))
def b__law_lowered : Ss := (.cons (.set 1 (.call 6 (.cons (.sub (.var 0) (.int 0)) (.cons (.sub (.var 0) (.int 1)) .nil)))) (.cons (.ife (.or (.not (.val (.call 8 (.cons (.call 9 (.cons (.sub (.var 0) (.int 0)) (.cons (.sub (.var 0) (.int 1)) .nil))) (.cons (.var 1) (.cons (.int 2) .nil)))))) (.not (.val (.call 8 (.cons (.call 9 (.cons (.bin .sub (.int 0) (.sub (.var 0) (.int 0))) (.cons (.bin .sub (.int 0) (.sub (.var 0) (.int 1))) .nil))) (.cons (.var 1) (.cons (.int 2) .nil))))))) (.cons (.ret (.bl false)) .nil) .nil) (.cons (.set 2 (.tup (.cons (.bin .sub (.int 0) (.sub (.var 1) (.int 0))) (.cons (.sub (.var 1) (.int 1)) .nil)))) (.cons (.ife (.or (.not (.val (.call 8 (.cons (.call 9 (.cons (.sub (.var 0) (.int 0)) (.cons (.bin .sub (.int 0) (.sub (.var 0) (.int 1))) .nil))) (.cons (.var 2) (.cons (.int 2) .nil)))))) (.not (.val (.call 8 (.cons (.call 9 (.cons (.bin .sub (.int 0) (.sub (.var 0) (.int 0))) (.cons (.sub (.var 0) (.int 1)) .nil))) (.cons (.var 2) (.cons (.int 2) .nil))))))) (.cons (.ret (.bl false)) .nil) .nil) (.cons (.ret (.and (.call 8 (.cons (.call 9 (.cons (.int 0) (.cons (.sub (.var 0) (.int 1)) .nil))) (.cons (.tup (.cons (.int 0) (.cons (.int 1) .nil))) (.cons (.int 2) .nil)))) (.and (.call 11 (.cons (.sub (.var 0) (.int 0)) .nil)) (.call 11 (.cons (.bin .sub (.int 0) (.sub (.var 0) (.int 1))) .nil))))) .nil)))))
def b_ratio_distance : Ss := (.cons (.ret (.call 9 (.cons (.prim .abs (.cons (.bin .sub (.bin .mul (.sub (.var 0) (.int 0)) (.sub (.var 1) (.int 1))) (.bin .mul (.sub (.var 1) (.int 0)) (.sub (.var 0) (.int 1)))) .nil)) (.cons (.bin .mul (.sub (.var 0) (.int 1)) (.sub (.var 1) (.int 1))) .nil)))) .nil)
def b_ratio_sum : Ss := (.cons (.ret (.call 9 (.cons (.bin .add (.bin .mul (.sub (.var 0) (.int 0)) (.sub (.var 1) (.int 1))) (.bin .mul (.sub (.var 1) (.int 0)) (.sub (.var 0) (.int 1)))) (.cons (.bin .mul (.sub (.var 0) (.int 1)) (.sub (.var 1) (.int 1))) .nil)))) .nil)
def b_ratio_product : Ss := (.cons (.ret (.call 9 (.cons (.bin .mul (.sub (.var 0) (.int 0)) (.sub (.var 1) (.int 0))) (.cons (.bin .mul (.sub (.var 0) (.int 1)) (.sub (.var 1) (.int 1))) .nil)))) .nil)
def b__law_joined : Ss := (.cons (.set 2 (.call 6 (.cons (.bin .add (.bin .mul (.sub (.var 0) (.int 0)) (.sub (.var 1) (.int 1))) (.bin .mul (.sub (.var 1) (.int 0)) (.sub (.var 0) (.int 1)))) (.cons (.bin .mul (.sub (.var 0) (.int 1)) (.sub (.var 1) (.int 1))) .nil)))) (.cons (.set 3 (.call 6 (.cons (.bin .mul (.sub (.var 0) (.int 0)) (.sub (.var 1) (.int 0))) (.cons (.bin .mul (.sub (.var 0) (.int 1)) (.sub (.var 1) (.int 1))) .nil)))) (.cons (.set 4 (.call 6 (.cons (.prim .abs (.cons (.bin .sub (.bin .mul (.sub (.var 0) (.int 0)) (.sub (.var 1) (.int 1))) (.bin .mul (.sub (.var 1) (.int 0)) (.sub (.var 0) (.int 1)))) .nil)) (.cons (.bin .mul (.sub (.var 0) (.int 1)) (.sub (.var 1) (.int 1))) .nil)))) (.cons (.ife (.or (.not (.val (.call 8 (.cons (.call 14 (.cons (.var 0) (.cons (.var 1) .nil))) (.cons (.var 2) (.cons (.int 2) .nil)))))) (.not (.val (.call 8 (.cons (.call 15 (.cons (.var 0) (.cons (.var 1) .nil))) (.cons (.var 3) (.cons (.int 2) .nil))))))) (.cons (.ret (.bl false)) .nil) .nil) (.cons (.ife (.not (.val (.call 8 (.cons (.call 13 (.cons (.var 0) (.cons (.var 1) .nil))) (.cons (.var 4) (.cons (.int 2) .nil)))))) (.cons (.ret (.bl false)) .nil) .nil) (.cons (.set 5 (.prim .list (.cons (.var 0) .nil))) (.cons (.set 6 (.prim .list (.cons (.var 1) .nil))) (.cons (.ife (.or (.not (.val (.call 8 (.cons (.call 14 (.cons (.var 5) (.cons (.var 6) .nil))) (.cons (.var 2) (.cons (.int 2) .nil)))))) (.not (.val (.call 8 (.cons (.call 15 (.cons (.var 5) (.cons (.var 6) .nil))) (.cons (.var 3) (.cons (.int 2) .nil))))))) (.cons (.ret (.bl false)) .nil) .nil) (.cons (.ret (.and (.call 8 (.cons (.call 13 (.cons (.var 5) (.cons (.var 6) .nil))) (.cons (.var 4) (.cons (.int 2) .nil)))) (.and (.cmp .eq (.var 5) (.prim .list (.cons (.var 0) .nil))) (.cmp .eq (.var 6) (.prim .list (.cons (.var 1) .nil)))))) .nil)))))))))
def b_law : Ss := (.cons (.set 1 (.call 0 (.cons (.call 2 (.cons (.var 0) (.cons (.int 0) .nil))) (.cons (.lst (.cons (.int 8) (.cons (.int 8) (.cons (.int 8) (.cons (.int 8) (.cons (.int 8) (.cons (.int 8) (.cons (.int 2) (.cons (.int 2) (.cons (.int 2) (.cons (.int 2) (.cons (.int 9) .nil)))))))))))) .nil)))) (.cons (.set 2 (.call 3 (.cons (.var 0) (.cons (.int 1) (.cons (.slice (.var 1) .no (.yes (.int 3))) (.cons (.slice (.var 1) (.yes (.int 6)) (.yes (.int 8))) .nil)))))) (.cons (.set 3 (.call 4 (.cons (.var 2) (.cons (.call 3 (.cons (.var 0) (.cons (.int 4) (.cons (.slice (.var 1) (.yes (.int 3)) (.yes (.int 6))) (.cons (.slice (.var 1) (.yes (.int 8)) (.yes (.int 10))) .nil))))) (.cons (.sub (.var 1) (.int 10)) .nil))))) (.cons (.ife (.or (.not (.val (.call 12 (.cons (.var 2) .nil)))) (.or (.not (.val (.call 12 (.cons (.var 3) .nil)))) (.not (.val (.call 11 (.cons (.int 0) .nil)))))) (.cons (.ret (.bl false)) .nil) .nil) (.cons (.set 4 (.call 6 (.cons (.sub (.var 2) (.int 0)) (.cons (.sub (.var 2) (.int 1)) .nil)))) (.cons (.set 5 (.call 6 (.cons (.sub (.var 3) (.int 0)) (.cons (.sub (.var 3) (.int 1)) .nil)))) (.cons (.set 6 (.call 6 (.cons (.bin .add (.bin .mul (.sub (.var 4) (.int 0)) (.sub (.var 5) (.int 1))) (.bin .mul (.sub (.var 5) (.int 0)) (.sub (.var 4) (.int 1)))) (.cons (.bin .mul (.sub (.var 4) (.int 1)) (.sub (.var 5) (.int 1))) .nil)))) (.cons (.for (.one 7) (.seq (.lst (.cons (.lst (.cons (.var 4) (.cons (.var 5) .nil))) (.cons (.lst (.cons (.var 5) (.cons (.var 4) .nil))) (.cons (.lst (.cons (.var 4) (.cons (.var 4) .nil))) (.cons (.lst (.cons (.var 4) (.cons (.tup (.cons (.int 0) (.cons (.int 1) .nil))) .nil))) (.cons (.lst (.cons (.tup (.cons (.int 0) (.cons (.int 1) .nil))) (.cons (.var 5) .nil))) (.cons (.lst (.cons (.var 6) (.cons (.var 6) .nil))) (.cons (.lst (.cons (.var 6) (.cons (.var 4) .nil))) (.cons (.lst (.cons (.tup (.cons (.int 1) (.cons (.int 2) .nil))) (.cons (.tup (.cons (.int 1) (.cons (.int 3) .nil))) .nil))) (.cons (.lst (.cons (.tup (.cons (.int 1) (.cons (.int 3) .nil))) (.cons (.tup (.cons (.int 1) (.cons (.int 2) .nil))) .nil))) .nil))))))))))) (.cons (.ife (.not (.val (.call 16 (.cons (.sub (.var 7) (.int 0)) (.cons (.sub (.var 7) (.int 1)) .nil))))) (.cons (.ret (.bl false)) .nil) .nil) .nil)) (.cons (.ret (.call 8 (.cons (.call 9 (.cons (.int 6) (.cons (.neg (.int 4)) .nil))) (.cons (.tup (.cons (.neg (.int 3)) (.cons (.int 2) .nil))) (.cons (.int 2) .nil))))) .nil)))))))))
def e__law_digits : FnE := ⟨"_law_digits", top 49, ["cell", "bases", "row", "rest", "seed", "k", "base", "twice"], ["cell", "bases"], ⟨2, 8, b__law_digits⟩⟩
def e__law_amount : FnE := ⟨"_law_amount", top 52, ["cell", "way", "row", "great"], ["cell", "way"], ⟨2, 4, b__law_amount⟩⟩
def e__law_cell : FnE := ⟨"_law_cell", top 48, ["script", "k", "seed", "cell"], ["script", "k"], ⟨2, 4, b__law_cell⟩⟩
def e__law_fraction : FnE := ⟨"_law_fraction", top 53, ["script", "at", "ways", "signs", "factor", "top", "bottom"], ["script", "at", "ways", "signs"], ⟨4, 7, b__law_fraction⟩⟩
def e__law_second : FnE := ⟨"_law_second", top 54, ["one", "free", "way"], ["one", "free", "way"], ⟨3, 3, b__law_second⟩⟩
def e__law_divisor : FnE := ⟨"_law_divisor", top 55, ["one", "two", "high", "low", "turn", "rest"], ["one", "two"], ⟨2, 6, b__law_divisor⟩⟩
def e__law_lowest : FnE := ⟨"_law_lowest", top 56, ["top", "bottom", "divisor"], ["top", "bottom"], ⟨2, 3, b__law_lowest⟩⟩
def e__law_whole : FnE := ⟨"_law_whole", top 47, ["value"], ["value"], ⟨1, 1, b__law_whole⟩⟩
def e__law_same : FnE := ⟨"_law_same", top 50, ["actual", "due", "depth", "k"], ["actual", "due", "depth"], ⟨3, 4, b__law_same⟩⟩
def e_ratio : FnE := ⟨"ratio", top 42, ["top", "bottom", "common"], ["top", "bottom"], ⟨2, 3, b_ratio⟩⟩
def e__law_sole : FnE := ⟨"_law_sole", top 51, ["error", "fits", "fit"], ["error"], ⟨1, 3, b__law_sole⟩⟩
def e__law_refused : FnE := ⟨"_law_refused", top 57, ["top", "e"], ["top"], ⟨1, 2, b__law_refused⟩⟩
def e__law_lowered : FnE := ⟨"_law_lowered", top 58, ["pair", "due", "turned"], ["pair"], ⟨1, 3, b__law_lowered⟩⟩
def e_ratio_distance : FnE := ⟨"ratio_distance", top 45, ["one", "two"], ["one", "two"], ⟨2, 2, b_ratio_distance⟩⟩
def e_ratio_sum : FnE := ⟨"ratio_sum", top 43, ["one", "two"], ["one", "two"], ⟨2, 2, b_ratio_sum⟩⟩
def e_ratio_product : FnE := ⟨"ratio_product", top 44, ["one", "two"], ["one", "two"], ⟨2, 2, b_ratio_product⟩⟩
def e__law_joined : FnE := ⟨"_law_joined", top 59, ["one", "two", "total", "product", "apart", "first", "second"], ["one", "two"], ⟨2, 7, b__law_joined⟩⟩
def e_law : FnE := ⟨"law", top 60, ["script", "head", "pair", "other", "one", "two", "total", "row"], ["script"], ⟨1, 8, b_law⟩⟩
def x_BadCount : RcE := ⟨"BadCount", ["number"], inCls (top 13) 0, ["self", "number"], "BadCount.__init__"⟩
def pg : Pg := ⟨[e__law_digits, e__law_amount, e__law_cell, e__law_fraction, e__law_second, e__law_divisor, e__law_lowest, e__law_whole, e__law_same, e_ratio, e__law_sole, e__law_refused, e__law_lowered, e_ratio_distance, e_ratio_sum, e_ratio_product, e__law_joined, e_law], [], ["int", "range", "len", "max", "abs", "list", "isinstance", "bool", "tuple", "str", "ValueError"], ["gcd"], ((["BadCount", "WrongLength", "WorldsDiffer", "UnknownSpot", "UnknownRoom", "UnknownQuestion", "UnknownName", "UnknownLock", "UnknownKind", "SpentInNeed", "SeenTwice", "NotWithin", "NotTrue", "NotSpent", "NotSeen"] : List Str) ++ (["NotPlain", "NotLet", "NothingToUndo", "NothingToRedo", "NotFitting", "NotFeasible", "NotExact", "NoRule", "NoDealingSet", "NoDealing", "NameTaken", "Lost", "LocksDiffer", "KindsDiffer", "HasLocks"] : List Str) ++ (["EmptyRule", "EmptyBook", "BadWord", "BadPlayer", "BadPlay", "BadName", "BadDeed", "BadBag", "DealError"] : List Str)), [x_BadCount], [("BadCount", [.cls "BadCount", .cls "DealError", .ty "ValueError"])]⟩
end NL

end
section
set_option Elab.async false
set_option linter.all false
set_option maxRecDepth 100000
set_option maxHeartbeats 0
namespace NL
open PySem PySem.Spec PyProof.Rows L2
abbrev RR : PySem.W.OpenRow := PySem.W.OpenLaw.row PySem.Challenge.rw_neverlocked_k05_ratios
def dds : List He.DefD := pg.dds
abbrev hkX : PySem.W.Hook := He.hookX 4 [] pg.dds [] [] (exB pg)
def obX (s : PySem.W.SharedT) : He.AlX := He.obsX 4 [] pg.dds [] [] (exB pg) (HandSHeadRun.getT s)
theorem obX_eq (s : PySem.W.SharedT) : obX s = hkX.obs s.abs := He.obsX_eq (HandSHeadRun.getT_eq s)
def loose : List Str := (["DealError", "WorldsDiffer", "EmptyRule", "EmptyBook", "Lost", "NotFitting", "NoDealingSet", "NothingToUndo", "NothingToRedo", "BadName", "NameTaken", "BadCount", "BadBag", "NotWithin", "UnknownKind"] : List Str) ++ (["UnknownRoom", "UnknownSpot", "UnknownLock", "UnknownName", "SpentInNeed", "NotSpent", "KindsDiffer", "WrongLength", "NotFeasible", "BadPlayer", "BadPlay", "LocksDiffer", "HasLocks", "NotLet", "NoDealing"] : List Str) ++ (["NotPlain", "NotExact", "SeenTwice", "BadDeed", "NoRule", "NotSeen", "NotTrue", "UnknownQuestion", "BadWord", "ratio", "ratio_sum", "ratio_product", "ratio_distance", "_law_whole", "_law_cell"] : List Str) ++ (["_law_digits", "_law_same", "_law_sole", "_law_amount", "_law_fraction", "_law_second", "_law_divisor", "_law_lowest", "_law_refused", "_law_lowered", "_law_joined"] : List Str)
theorem run_eq05 (w : World) : HandSHeadRun.RunEqI RR (PySem.W.view RR.prog [0, 60]) hkX obX 40000 loose w := by
  unfold HandSHeadRun.RunEqI
  kernel_rfl
end NL

end
section
set_option Elab.async false
set_option linter.all false
set_option maxRecDepth 100000
namespace NL
open PySem PySem.Spec PyProof.Rows L2

/-! ### what is wanted of an outcome -/
/-- an exception that leaves: its class, its dict -/
def XR (R : RC) (G : Hp) (cls : Value) (dd : Option Addr) (c : Str) (fs : List Str) (ds : List D) : Prop :=
  cls = .ref (R.ca c) ∧ ∃ xfs : List (Str × V), xfs.map (·.1) = fs ∧ Reps R G ds (xfs.map (·.2)) ∧ ((xfs = [] ∧ dd = none) ∨ ∃ d, dd = some d ∧ G d = some (.xd xfs))
def Fin (R : RC) (L : List Addr) (H : Hp) (E : XK) (r : Res) (Q : VK) : Prop := match r with
  | .ok d => ∀ v H', Same H H' → Rep R (vis H' L) d v → Q v H'
  | .er c fs ds => R.hx = none ∧ ∀ cls dd H', Same H H' → XR R (vis H' L) cls dd c fs ds → E cls dd H'
  | .bad => False
/-- the same of other outcomes, by what P says of them -/
def FinP {α : Type} (R : RC) (L : List Addr) (H : Hp) (E : XK) (r : Out α) (P : α → Hp → Prop) : Prop := match r with
  | .ok a => ∀ H', Same H H' → P a H'
  | .er c fs ds => R.hx = none ∧ ∀ cls dd H', Same H H' → XR R (vis H' L) cls dd c fs ds → E cls dd H'
  | .bad => False
section
variable {R : RC} {L : List Addr} {H : Hp} {E : XK} {Q Q' : VK}
theorem Fin.weak {r : Res} (h : Fin R L H E r Q) (k : ∀ v H', Q v H' → Q' v H') : Fin R L H E r Q' := by
  cases r with
  | ok d => exact fun v H' s r => k v H' (h v H' s r)
  | er c fs ds => exact h
  | bad => exact h
theorem Fin.mono {r : Res} {H' : Hp} (h : Fin R L H E r Q) (s : Same H H') : Fin R L H' E r Q := by
  cases r with
  | ok d => exact fun v H2 s2 r => h v H2 (s.trans s2) r
  | er c fs ds => exact ⟨h.1, fun cls dd H2 s2 x => h.2 cls dd H2 (s.trans s2) x⟩
  | bad => exact h
theorem FinP.mono {α : Type} {r : Out α} {P : α → Hp → Prop} {H' : Hp} (h : FinP R L H E r P) (s : Same H H') : FinP R L H' E r P := by
  cases r with
  | ok d => exact fun H2 s2 => h H2 (s.trans s2)
  | er c fs ds => exact ⟨h.1, fun cls dd H2 s2 x => h.2 cls dd H2 (s.trans s2) x⟩
  | bad => exact h
theorem Fin.step {r : Res} {k : D → Res} (h : Fin R L H E (r.bind k) Q) : Fin R L H E r fun v H1 => ∃ d, r = .ok d ∧ Rep R (vis H1 L) d v ∧ Same H H1 ∧ Fin R L H1 E (k d) Q := by
  cases r with
  | ok d => exact fun v H1 s r => ⟨d, rfl, r, s, Fin.mono h s⟩
  | er c fs ds => exact h
  | bad => exact h
theorem Fin.stepP {α : Type} {r : Res} {k : D → Out α} {P : α → Hp → Prop} (h : FinP R L H E (r.bind k) P) : Fin R L H E r fun v H1 => ∃ d, r = .ok d ∧ Rep R (vis H1 L) d v ∧ Same H H1 ∧ FinP R L H1 E (k d) P := by
  cases r with
  | ok d => exact fun v H1 s r => ⟨d, rfl, r, s, FinP.mono h s⟩
  | er c fs ds => exact h
  | bad => exact h
theorem FinP.step {α : Type} {r : Out α} {k : α → Res} (h : Fin R L H E (r.bind k) Q) : FinP R L H E r fun a H1 => r = .ok a ∧ Same H H1 ∧ Fin R L H1 E (k a) Q := by
  cases r with
  | ok d => exact fun H1 s => ⟨rfl, s, Fin.mono h s⟩
  | er c fs ds => exact h
  | bad => exact h
theorem FinP.stepP {α β : Type} {r : Out α} {k : α → Out β} {P : β → Hp → Prop} (h : FinP R L H E (r.bind k) P) : FinP R L H E r fun a H1 => r = .ok a ∧ Same H H1 ∧ FinP R L H1 E (k a) P := by
  cases r with
  | ok d => exact fun H1 s => ⟨rfl, s, FinP.mono h s⟩
  | er c fs ds => exact h
  | bad => exact h
theorem FinP.weak {α : Type} {r : Out α} {P P' : α → Hp → Prop} (h : FinP R L H E r P) (k : ∀ a H', P a H' → P' a H') : FinP R L H E r P' := by
  cases r with
  | ok d => exact fun H' s => k d H' (h H' s)
  | er c fs ds => exact h
  | bad => exact h
theorem Fin.now {d : D} {v : V} (h : Fin R L H E (.ok d) Q) (r : Rep R (vis H L) d v) : Q v H := h v H (Same.refl H) r
theorem FinP.now {α : Type} {a : α} {P : α → Hp → Prop} (h : FinP R L H E (.ok a) P) : P a H := h H (Same.refl H)
end
/-- what is hidden stands -/
def Hid (H : Hp) (L : List Addr) : Prop := ∀ a ∈ L, ∃ o, H a = some o
theorem Hid.new {H : Hp} {L : List Addr} (h : Hid H L) {p : Addr} (n : H p = none) : p ∉ L := fun z => by
  obtain ⟨o, e⟩ := h p z
  rw [n] at e
  cases e
section
variable {R : RC} {L : List Addr} {H : Hp} {E : XK} {Q : VK}
theorem fin_lst {ds : List D} {xs : List V} {p : Addr} (h : Fin R L H E (.ok (.lst ds)) Q) (hl : Hid H L) (r : Reps R (vis H L) ds xs) (n : H p = none) : Q (.ref p) (upd H p (.lst xs)) :=
  h _ _ (same_upd n) (by
    simp only [Rep]
    exact ⟨p, xs, rfl, vis_at upd_same (hl.new n), Reps.mono (vis_mono (same_upd n) fun _ z => z) _ _ r⟩)
theorem fin_tup {ds : List D} {xs : List V} {p : Addr} (h : Fin R L H E (.ok (.tup ds)) Q) (hl : Hid H L) (r : Reps R (vis H L) ds xs) (n : H p = none) : Q (.ref p) (upd H p (.tup xs)) :=
  h _ _ (same_upd n) (by
    simp only [Rep]
    exact ⟨p, xs, rfl, SqT.of (vis_at upd_same (hl.new n)), Reps.mono (vis_mono (same_upd n) fun _ z => z) _ _ r⟩)
theorem fin_bl {b : Bool} (h : Fin R L H E (.ok (.bl b)) Q) : Q (.bl b) H := h.now (by simp only [Rep])
theorem fin_int {i : Int} (h : Fin R L H E (.ok (.int i)) Q) : Q (.int i) H := h.now (by simp only [Rep])
theorem fin_str {s : Str} (h : Fin R L H E (.ok (.str s)) Q) : Q (.str s) H := h.now (by simp only [Rep])
theorem fin_non (h : Fin R L H E (.ok .non) Q) : Q .non H := h.now (by simp only [Rep])
end

/-! ### readings of data -/
theorem rep_flat {R : RC} {G : Hp} {d : D} {v : V} (s : d.scal = true) (r : Rep R G d v) : v = d.flat := by
  cases d <;> simp only [Rep, D.flat] at r ⊢ <;> first | exact r | (simp [D.scal] at s)
theorem flat_rep {R : RC} {G : Hp} {d : D} (s : d.scal = true) : Rep R G d d.flat := by
  cases d <;> simp only [Rep, D.flat] <;> (simp [D.scal] at s)
theorem reps_flat {R : RC} {G : Hp} : ∀ {ds : List D} {vs : List V}, ds.all D.scal = true → Reps R G ds vs → vs = ds.map D.flat
  | [], _, _, r => by simp only [Reps] at r; exact r
  | d :: ds, _, s, r => by
    simp only [Reps] at r
    obtain ⟨v, t, h1, h2, h3⟩ := r
    rw [List.all_cons, Bool.and_eq_true] at s
    rw [h1, rep_flat s.1 h2, reps_flat s.2 h3]
    rfl
theorem flat_V {d : D} (s : d.scal = true) : flatV d.flat = true := by
  cases d <;> first | rfl | (simp [D.scal] at s)
theorem flats_V : ∀ {ds : List D}, ds.all D.scal = true → (ds.map D.flat).all flatV = true
  | [], _ => rfl
  | d :: ds, s => by
    rw [List.all_cons, Bool.and_eq_true] at s
    rw [List.map_cons, List.all_cons, flat_V s.1, flats_V s.2]
    rfl
mutual
theorem rep_dp {R : RC} {G : Hp} : ∀ (d : D) (v : V), d.py.canLay0 = true → Rep R G d v → Dp R.K G v d.py
  | .non, _, _, r => by simp only [Rep] at r; subst r; exact .non
  | .bl b, _, _, r => by simp only [Rep] at r; subst r; exact .bl b
  | .int i, _, _, r => by simp only [Rep] at r; subst r; exact .int i
  | .str s, _, _, r => by simp only [Rep] at r; subst r; exact .str s
  | .tup ds, _, c, r => by
    simp only [Rep] at r
    obtain ⟨a, xs, h1, h2, h3⟩ := r
    subst h1
    simp only [D.py]
    exact .tup h2 (reps_dp ds xs (by simpa only [D.py, PyData.canLay0] using c) h3)
  | .lst ds, _, c, r => by
    simp only [Rep] at r
    obtain ⟨a, xs, h1, h2, h3⟩ := r
    subst h1
    simp only [D.py]
    exact .lst (SqL.of h2) (reps_dp ds xs (by simpa only [D.py, PyData.canLay0] using c) h3)
  | .dic _ _, _, c, _ => by simp [D.py, PyData.canLay0] at c
  | .obj _ _ _, _, c, _ => by simp [D.py, PyData.canLay0] at c
  | .exc _ _ _, _, c, _ => by simp [D.py, PyData.canLay0] at c
  | .scr ns, _, c, r => by
    simp only [Rep] at r
    obtain ⟨a, h1, h2⟩ := r
    subst h1
    simp only [D.py]
    refine .lst h2 ?_
    clear h2 c
    induction ns with
    | nil => exact .nil
    | cons n ns ih => exact .cons (.int n) ih
theorem reps_dp {R : RC} {G : Hp} : ∀ (ds : List D) (vs : List V), PyData.canLayAll0 (D.pys ds) = true → Reps R G ds vs → DpAll R.K G vs (D.pys ds)
  | [], _, _, r => by simp only [Reps] at r; subst r; simp only [D.pys]; exact .nil
  | d :: ds, _, c, r => by
    simp only [Reps] at r
    obtain ⟨v, t, h1, h2, h3⟩ := r
    simp only [D.pys, PyData.canLayAll0, Bool.and_eq_true] at c
    subst h1
    simp only [D.pys]
    exact .cons (rep_dp d v c.1 h2) (reps_dp ds t c.2 h3)
end

/-! ### the operators -/
section
variable {X : Cx} {R : RC}
abbrev Hold2 (R : RC) (g : D → D → Res) (r : R2) : Prop := ∀ (L : List Addr) (H : Hp) (E : XK) (Q : VK) (dx dy : D) (x y : V), Hid H L → Rep R (vis H L) dx x → Rep R (vis H L) dy y → Fin R L H E (g dx dy) Q → r x y H Q
def opPy : BOp → Operator
  | .add => .Add
  | .sub => .Sub
  | .mul => .Mult
  | .fdiv => .FloorDiv
  | .mod => .Mod
  | .pow => .Pow
theorem fin_bad {R : RC} {L : List Addr} {H : Hp} {E : XK} {Q : VK} {P : Prop} (h : Fin R L H E .bad Q) : P := False.elim h
theorem ops_add (hK : R.K = X.K) : ∃ r, OpR X (binaryOp .Add) r ∧ Hold2 R (binD .add) r := by
  refine ⟨_, (op_add.or op_add_str).or (op_cat.or op_catA), fun L H E Q dx dy x y hl rx ry h => ?_⟩
  cases dx with
  | int i =>
    cases dy with
    | int j =>
      simp only [Rep] at rx ry
      exact .inl (.inl ⟨i, j, rx, ry, fin_int h⟩)
    | _ => exact fin_bad h
  | str i =>
    cases dy with
    | str j =>
      simp only [Rep] at rx ry
      simp only [binD] at h
      split at h
      · rename_i hz
        exact .inl (.inr ⟨i, j, rx, ry, hz, fin_str h⟩)
      · exact fin_bad h
    | _ => exact fin_bad h
  | lst a =>
    cases dy with
    | lst b =>
      simp only [Rep] at rx ry
      obtain ⟨p, xs, rfl, h2, h3⟩ := rx
      obtain ⟨q, ys, rfl, h5, h6⟩ := ry
      simp only [binD] at h
      split at h
      · rename_i hz
        exact .inr (.inl ⟨p, q, xs, ys, rfl, rfl, vis_ge _ _ h2, vis_ge _ _ h5, by rw [h3.len, h6.len]; exact hz, fun z nz => fin_lst h hl (h3.append h6) nz⟩)
      · exact fin_bad h
    | _ => exact fin_bad h
  | tup a =>
    cases dy with
    | tup b =>
      have rx' := rx
      have ry' := ry
      simp only [Rep] at rx ry
      obtain ⟨p, xs, rfl, h2, h3⟩ := rx
      obtain ⟨q, ys, rfl, h5, h6⟩ := ry
      simp only [binD] at h
      split at h
      · rename_i hz
        refine .inr (.inr ⟨p, q, xs, ys, rfl, rfl, ?_, ?_, by rw [h3.len, h6.len]; exact hz, ?_⟩)
        · rw [← hK]; exact same_sqT vis_ge h2
        · rw [← hK]; exact same_sqT vis_ge h5
        · refine ⟨fun e => ?_, fun _ e => ?_, fun _ _ z nz => fin_tup h hl (h3.append h6) nz⟩
          · have ea : a = [] := List.length_eq_zero_iff.mp (by rw [← h3.len, e]; rfl)
            rw [ea, List.nil_append] at h
            exact h.now ry'
          · have eb : b = [] := List.length_eq_zero_iff.mp (by rw [← h6.len, e]; rfl)
            rw [eb, List.append_nil] at h
            exact h.now rx'
      · exact fin_bad h
    | _ => exact fin_bad h
  | _ => exact fin_bad h
theorem ops_bin (hK : R.K = X.K) (o : BOp) : ∃ r, OpR X (binaryOp (opPy o)) r ∧ Hold2 R (binD o) r := by
  cases o with
  | add => exact ops_add hK
  | sub =>
    refine ⟨_, op_sub, fun L H E Q dx dy x y hl rx ry h => ?_⟩
    cases dx <;> first | exact fin_bad h | skip
    cases dy <;> first | exact fin_bad h | skip
    simp only [Rep] at rx ry
    exact ⟨_, _, rx, ry, fin_int h⟩
  | mul =>
    refine ⟨_, op_mulW.or op_rep, fun L H E Q dx dy x y hl rx ry h => ?_⟩
    cases dx <;> first | exact fin_bad h | skip
    · cases dy <;> first | exact fin_bad h | skip
      simp only [Rep] at rx ry
      simp only [binD] at h
      split at h
      · rename_i hz
        exact .inl ⟨_, _, rx, ry, hz, fin_int h⟩
      · exact fin_bad h
    · cases dy <;> first | exact fin_bad h | skip
      simp only [Rep] at rx ry
      obtain ⟨p, xs, rfl, h2, h3⟩ := rx
      simp only [binD] at h
      split at h
      · rename_i hz
        refine .inr ⟨p, _, xs, rfl, ry, vis_ge _ _ h2, by omega, by omega, by rw [h3.len]; exact hz.2, fun z nz => fin_lst h hl ?_ nz⟩
        generalize Int.toNat _ = k
        induction k with
        | zero => exact Reps.nil
        | succ k ih =>
          rw [List.replicate_succ, List.replicate_succ, List.flatten_cons, List.flatten_cons]
          exact h3.append ih
      · exact fin_bad h
  | fdiv =>
    refine ⟨_, op_fdivW, fun L H E Q dx dy x y hl rx ry h => ?_⟩
    cases dx <;> first | exact fin_bad h | skip
    cases dy <;> first | exact fin_bad h | skip
    simp only [Rep] at rx ry
    simp only [binD] at h
    split at h
    · rename_i hz
      exact ⟨_, _, rx, ry, hz, fin_int h⟩
    · exact fin_bad h
  | mod =>
    refine ⟨_, op_mod, fun L H E Q dx dy x y hl rx ry h => ?_⟩
    cases dx <;> first | exact fin_bad h | skip
    cases dy <;> first | exact fin_bad h | skip
    simp only [Rep] at rx ry
    simp only [binD] at h
    split at h
    · rename_i hz
      exact ⟨_, _, rx, ry, hz, fin_int h⟩
    · exact fin_bad h
  | pow =>
    refine ⟨_, op_pow, fun L H E Q dx dy x y hl rx ry h => ?_⟩
    cases dx <;> first | exact fin_bad h | skip
    cases dy <;> first | exact fin_bad h | skip
    simp only [Rep] at rx ry
    simp only [binD] at h
    split at h
    · rename_i hz
      exact ⟨_, _, rx, ry, hz, fin_int h⟩
    · exact fin_bad h
/-! comparisons -/
def cmPy : COp → CmpOp
  | .eq => .Eq
  | .ne => .NotEq
  | .lt => .Lt
  | .le => .LtE
  | .gt => .Gt
  | .ge => .GtE
  | .isin => .In
  | .notin => .NotIn
  | .isN => .Is
  | .notN => .IsNot
theorem cmp_int {f : COp} {p : Int → Int → Bool} {r : R2} (ho : OpR X (compareOp (cmPy f)) (rI0 fun i j => .bl (p i j))) (hf : ∀ i j, cmpD f (.int i) (.int j) = .ok (.bl (p i j))) (hb : ∀ a b, (∀ i j, ¬ (a = .int i ∧ b = .int j)) → cmpD f a b = .bad) :
    ∃ r, OpR X (compareOp (cmPy f)) r ∧ Hold2 R (cmpD f) r := by
  refine ⟨_, ho, fun L H E Q dx dy x y hl rx ry h => ?_⟩
  by_cases c : ∃ i j, dx = .int i ∧ dy = .int j
  · obtain ⟨i, j, rfl, rfl⟩ := c
    simp only [Rep] at rx ry
    rw [hf] at h
    exact ⟨_, _, rx, ry, fin_bl h⟩
  · rw [hb dx dy fun i j e => c ⟨i, j, e⟩] at h
    exact fin_bad h
theorem ops_eq (hK : R.K = X.K) (hu : X.A.units + 64 < cLine) : ∃ r, OpR X (compareOp .Eq) r ∧ Hold2 R (cmpD .eq) r := by
  refine ⟨_, op_eq.or (op_eqD hu), fun L H E Q dx dy x y hl rx ry h => ?_⟩
  simp only [cmpD, eqD] at h
  split at h
  · rename_i hs
    rw [Bool.and_eq_true, Bool.and_eq_true] at hs
    have ex := rep_flat hs.1.1 rx
    have ey := rep_flat hs.1.2 ry
    subst ex ey
    exact .inl ⟨hs.2, fin_bl h⟩
  · split at h
    · rename_i hs
      rw [Bool.and_eq_true] at hs
      have q1 := rep_dp dx x (SeqAt.canLay_of_shaped hs.1) (Rep.mono vis_ge _ _ rx)
      have q2 := rep_dp dy y (SeqAt.canLay_of_shaped hs.2) (Rep.mono vis_ge _ _ ry)
      rw [hK] at q1 q2
      exact .inr ⟨_, _, q1, q2, hs.1, hs.2, fin_bl h⟩
    · exact fin_bad h
theorem ops_ne (hK : R.K = X.K) (hu : X.A.units + 64 < cLine) : ∃ r, OpR X (compareOp .NotEq) r ∧ Hold2 R (cmpD .ne) r := by
  refine ⟨_, op_ne.or (op_neD hu), fun L H E Q dx dy x y hl rx ry h => ?_⟩
  simp only [cmpD, eqD] at h
  split at h
  · rename_i hs
    rw [Bool.and_eq_true, Bool.and_eq_true] at hs
    have ex := rep_flat hs.1.1 rx
    have ey := rep_flat hs.1.2 ry
    subst ex ey
    exact .inl ⟨hs.2, fin_bl h⟩
  · split at h
    · rename_i hs
      rw [Bool.and_eq_true] at hs
      have q1 := rep_dp dx x (SeqAt.canLay_of_shaped hs.1) (Rep.mono vis_ge _ _ rx)
      have q2 := rep_dp dy y (SeqAt.canLay_of_shaped hs.2) (Rep.mono vis_ge _ _ ry)
      rw [hK] at q1 q2
      exact .inr ⟨_, _, q1, q2, hs.1, hs.2, fin_bl h⟩
    · exact fin_bad h
theorem in_seq {L : List Addr} {H : Hp} {E : XK} {Q : VK} {x : V} {y : V} {dx : D} {ds : List D} {neg : Bool} (hK : R.K = X.K) (hx : dx.scal = true) (hds : ds.all D.scal = true) (rx : Rep R (vis H L) dx x)
    (hy : ∃ p xs, y = .ref p ∧ (SqL X.K H p xs ∨ SqT X.K H p xs) ∧ Reps R (vis H L) ds xs) (q : Q (.bl (if neg then !inAny dx ds else inAny dx ds)) H) : rIn X.K neg x y H Q := by
  obtain ⟨p, xs, e, h1, h2⟩ := hy
  have ex := rep_flat hx rx
  have es := reps_flat hds h2
  subst ex es
  exact ⟨p, _, e, h1, flat_V hx, flats_V hds, q⟩
theorem ops_in (hK : R.K = X.K) : ∃ r, OpR X (compareOp .In) r ∧ Hold2 R (cmpD .isin) r := by
  refine ⟨_, op_in_str.or op_in_seq, fun L H E Q dx dy x y hl rx ry h => ?_⟩
  simp only [cmpD, inD] at h
  split at h
  · simp only [Rep] at rx ry
    exact .inl ⟨_, _, rx, ry, fin_bl h⟩
  · split at h
    · rename_i hs
      rw [Bool.and_eq_true] at hs
      simp only [Rep] at ry
      obtain ⟨p, xs, e, h1, h2⟩ := ry
      refine .inr (in_seq (neg := false) (E := E) hK hs.1 hs.2 rx ⟨p, xs, e, .inr ?_, h2⟩ (fin_bl h))
      rw [← hK]
      exact same_sqT vis_ge h1
    · exact fin_bad h
  · split at h
    · rename_i hs
      rw [Bool.and_eq_true] at hs
      simp only [Rep] at ry
      obtain ⟨p, xs, e, h1, h2⟩ := ry
      exact .inr (in_seq (neg := false) (E := E) hK hs.1 hs.2 rx ⟨p, xs, e, .inl (SqL.of (vis_ge _ _ h1)), h2⟩ (fin_bl h))
    · exact fin_bad h
  · exact fin_bad h
theorem ops_notin (hK : R.K = X.K) : ∃ r, OpR X (compareOp .NotIn) r ∧ Hold2 R (cmpD .notin) r := by
  refine ⟨_, op_notin_str.or op_notIn_seq, fun L H E Q dx dy x y hl rx ry h => ?_⟩
  simp only [cmpD, inD] at h
  split at h
  · simp only [Rep] at rx ry
    exact .inl ⟨_, _, rx, ry, fin_bl h⟩
  · split at h
    · rename_i hs
      rw [Bool.and_eq_true] at hs
      simp only [Rep] at ry
      obtain ⟨p, xs, e, h1, h2⟩ := ry
      refine .inr (in_seq (neg := true) (E := E) hK hs.1 hs.2 rx ⟨p, xs, e, .inr ?_, h2⟩ (fin_bl h))
      rw [← hK]
      exact same_sqT vis_ge h1
    · exact fin_bad h
  · split at h
    · rename_i hs
      rw [Bool.and_eq_true] at hs
      simp only [Rep] at ry
      obtain ⟨p, xs, e, h1, h2⟩ := ry
      exact .inr (in_seq (neg := true) (E := E) hK hs.1 hs.2 rx ⟨p, xs, e, .inl (SqL.of (vis_ge _ _ h1)), h2⟩ (fin_bl h))
    · exact fin_bad h
  · exact fin_bad h
theorem ops_lt : ∃ r, OpR X (compareOp .Lt) r ∧ Hold2 R (cmpD .lt) r := by
  refine ⟨_, op_lt.or op_lt_str, fun L H E Q dx dy x y hl rx ry h => ?_⟩
  cases dx <;> first | exact fin_bad h | skip
  · cases dy <;> first | exact fin_bad h | skip
    simp only [Rep] at rx ry
    exact .inl ⟨_, _, rx, ry, fin_bl h⟩
  · cases dy <;> first | exact fin_bad h | skip
    simp only [Rep] at rx ry
    exact .inr ⟨_, _, rx, ry, fin_bl h⟩
theorem ops_le : ∃ r, OpR X (compareOp .LtE) r ∧ Hold2 R (cmpD .le) r := by
  refine ⟨_, op_le, fun L H E Q dx dy x y hl rx ry h => ?_⟩
  cases dx <;> first | exact fin_bad h | skip
  cases dy <;> first | exact fin_bad h | skip
  simp only [Rep] at rx ry
  exact ⟨_, _, rx, ry, fin_bl h⟩
theorem ops_gt : ∃ r, OpR X (compareOp .Gt) r ∧ Hold2 R (cmpD .gt) r := by
  refine ⟨_, op_gt, fun L H E Q dx dy x y hl rx ry h => ?_⟩
  cases dx <;> first | exact fin_bad h | skip
  cases dy <;> first | exact fin_bad h | skip
  simp only [Rep] at rx ry
  exact ⟨_, _, rx, ry, fin_bl h⟩
theorem ops_ge : ∃ r, OpR X (compareOp .GtE) r ∧ Hold2 R (cmpD .ge) r := by
  refine ⟨_, op_ge, fun L H E Q dx dy x y hl rx ry h => ?_⟩
  cases dx <;> first | exact fin_bad h | skip
  cases dy <;> first | exact fin_bad h | skip
  simp only [Rep] at rx ry
  exact ⟨_, _, rx, ry, fin_bl h⟩
def plainC : COp → Bool
  | .isN | .notN => false
  | _ => true
theorem ops_cmp (hK : R.K = X.K) (hu : X.A.units + 64 < cLine) (o : COp) (ho : plainC o = true) : ∃ r, OpR X (compareOp (cmPy o)) r ∧ Hold2 R (cmpD o) r := by
  cases o with
  | eq => exact ops_eq hK hu
  | ne => exact ops_ne hK hu
  | lt => exact ops_lt
  | le => exact ops_le
  | gt => exact ops_gt
  | ge => exact ops_ge
  | isin => exact ops_in hK
  | notin => exact ops_notin hK
  | isN => cases ho
  | notN => cases ho
theorem rep_isN {G : Hp} {d : D} {v : V} (r : Rep R G d v) : decide (v = .non) = d.isNon := by
  unfold D.isNon
  cases d <;> simp only [Rep] at r
  case tup => obtain ⟨_, _, rfl, _⟩ := r; simp
  case lst => obtain ⟨_, _, rfl, _⟩ := r; simp
  case dic => obtain ⟨_, _, rfl, _⟩ := r; simp
  case obj => obtain ⟨_, _, _, rfl, _⟩ := r; simp
  case exc => obtain ⟨_, _, _, rfl, _⟩ := r; simp
  case scr => obtain ⟨_, rfl, _⟩ := r; simp
  all_goals (subst r; simp)
/-! items -/
theorem atI_reps {G : Hp} {ds : List D} {vs : List V} {i : Int} {d : D} (r : Reps R G ds vs) (h : atI ds i = some d) : ∃ v, atI vs i = some v ∧ Rep R G d v := by
  unfold atI at h ⊢
  rw [r.len]
  cases e : ixN ds.length i with
  | none => rw [e] at h; cases h
  | some j =>
    rw [e] at h
    exact r.get h
theorem ops_sub (hK : R.K = X.K) : ∃ r, IxR X r ∧ Hold2 R subD r := by
  refine ⟨_, ix_seq, fun L H E Q dx dy x y hl rx ry h => ?_⟩
  cases dx <;> first | exact fin_bad h | skip
  case tup ds =>
    cases dy <;> first | exact fin_bad h | skip
    simp only [subD] at h
    split at h
    · rename_i d e
      simp only [Rep] at rx ry
      obtain ⟨p, xs, e1, h2, h3⟩ := rx
      obtain ⟨v, e2, rv⟩ := atI_reps h3 e
      refine .inr (.inl ⟨p, xs, _, v, e1, ry, ?_, e2, h.now rv⟩)
      rw [← hK]
      exact same_sqT vis_ge h2
    · exact fin_bad h
  case lst ds =>
    cases dy <;> first | exact fin_bad h | skip
    simp only [subD] at h
    split at h
    · rename_i d e
      simp only [Rep] at rx ry
      obtain ⟨p, xs, e1, h2, h3⟩ := rx
      obtain ⟨v, e2, rv⟩ := atI_reps h3 e
      exact .inl ⟨p, xs, _, v, e1, ry, SqL.of (vis_ge _ _ h2), e2, h.now rv⟩
    · exact fin_bad h
  case scr ns =>
    cases dy <;> first | exact fin_bad h | skip
    simp only [subD] at h
    split at h
    · rename_i d e
      simp only [Rep] at rx ry
      obtain ⟨p, e1, h2⟩ := rx
      refine .inl ⟨p, ns.map V.int, _, .int d, e1, ry, ?_, ?_, fin_int h⟩
      · rw [← hK]
        exact vis_ge.seq h2
      · unfold atI at e ⊢
        rw [List.length_map]
        cases e2 : ixN ns.length _ with
        | none => rw [e2] at e; cases e
        | some j =>
          rw [e2] at e
          show (ns.map V.int)[j]? = _
          rw [List.getElem?_map, show ns[j]? = some d from e]
          rfl
    · exact fin_bad h
  case str s =>
    cases dy <;> first | exact fin_bad h | skip
    simp only [subD] at h
    split at h
    · rename_i hz
      split at h
      · rename_i c e
        simp only [Rep] at rx ry
        exact .inr (.inr ⟨s, _, c, rx, ry, hz, e, fin_str h⟩)
      · exact fin_bad h
    · exact fin_bad h
/-! slices -/
theorem cut_reps {G : Hp} {ds : List D} {vs : List V} (lo hi : Option Int) (r : Reps R G ds vs) : Reps R G (cutD ds lo hi) (cutV vs lo hi) := by
  unfold cutD cutV
  rw [r.len]
  exact (r.drop _).take _
theorem cut_all {α : Type} {xs : List α} {lo hi : Option Int} (h : HT.sIx xs.length 0 lo = 0 ∧ HT.sIx xs.length xs.length hi = xs.length) : cutD xs lo hi = xs := by
  unfold cutD
  rw [h.1, h.2, List.drop_zero, Nat.sub_zero, List.take_length]
theorem ops_slice (hK : R.K = X.K) : ∃ r, SlR X r ∧ ∀ (L : List Addr) (H : Hp) (E : XK) (Q : VK) (dx : D) (lo hi : Option Int) (x : V), Hid H L → Rep R (vis H L) dx x → Fin R L H E (sliceD dx lo hi) Q → r x lo hi H Q := by
  refine ⟨_, sl_list.or (sl_tupA.or sl_str), fun L H E Q dx lo hi x hl rx h => ?_⟩
  cases dx <;> first | exact fin_bad h | skip
  case lst ds =>
    simp only [Rep] at rx
    obtain ⟨p, xs, e1, h2, h3⟩ := rx
    exact .inl ⟨p, xs, e1, SqL.of (vis_ge _ _ h2), fun q nq => fin_lst h hl (cut_reps lo hi h3) nq⟩
  case tup ds =>
    have rx' := rx
    simp only [Rep] at rx
    obtain ⟨p, xs, rfl, h2, h3⟩ := rx
    refine .inr (.inl ⟨p, xs, rfl, ?_, fun q => ?_, fun _ q nq => fin_tup h hl (cut_reps lo hi h3) nq⟩)
    · rw [← hK]
      exact same_sqT vis_ge h2
    · simp only [sliceD] at h
      rw [h3.len] at q
      rw [cut_all q] at h
      exact h.now rx'
  case str s =>
    simp only [sliceD] at h
    split at h
    · rename_i hz
      simp only [Rep] at rx
      exact .inr (.inr ⟨s, rx, hz, fin_str h⟩)
    · exact fin_bad h
end
end NL

end
section
set_option Elab.async false
set_option linter.all false
set_option maxRecDepth 100000
set_option maxHeartbeats 4000000
namespace NL
open PySem PySem.Spec PyProof.Rows L2 L2H HotX
/-! ### defs called while an exception is handled: the promise knows which -/
structure FnHp (P : Program) (w : World) (K : PySem.W.Frag) (mg : Str → Option Value) (base : Heap) (CX : CXT) (k : Nat) (f : Addr) (fd : FuncData) (ps : List Str) (sp : Addr × Obj → Sp) : Prop where
  len : ∀ p vs H Q E, sp p vs H Q E → vs.length = ps.length
  run : ∀ (A : Around) (outer : List Env) (s : Shared) (H : Hp) (args : Args) (us : List Value) (vs : List V) (Q : VK) (E : XK) (p : Addr × Obj), RoomH k A → Hot1 A p → PinOk outer H s p → Env0 P w K mg base A outer s H → BindsTo s fd args (ps.zip us) → Vals vs us → sp p vs H Q E →
    codeAny (model P w) A (.call (.ref f) args) (CR CX outer P w H s Q E) s
theorem fnHp_of {CX : CXT} {P : Program} {w : World} {K : PySem.W.Frag} {mg : Str → Option Value} {base : Heap} {k : Nat} {f : Addr} {name qual : Str} {params : Arguments} {body : List Stmt} {scope : Scope} {dV kV doc pm cdv ct oc : Value} {an od : Option Addr}
    {osl : Array (Option Value)} {N ps : List Str} {sp : Addr × Obj → Sp} (lk : K.lookup f = some ⟨oc, od, .func (PySem.W.fnOf name qual params body scope dV kV doc pm an cdv ct), osl⟩) (hcd : PySem.W.codeIn K cdv qual = true) (S : FnScope N ps scope)
    (len : ∀ p vs H Q E, sp p vs H Q E → vs.length = ps.length)
    (bd : ∀ (A : Around) (outer : List Env) (s : Shared) (H : Hp) (vs : List V) (Q : VK) (E : XK) (p : Addr × Obj), Hot1 A p → RoomH k (A.deeper (envOfC qual scope s.heap.objs.size f cdv)) → sp p vs H Q E →
      ∃ t, PSs (cxH CX P w K mg base N qual scope f cdv A outer s H E p) body t ∧ t { nx := fun _ H' => Q .non H', rt := Q } (start N vs) H) :
    FnHp P w K mg base CX (k + 1) f (PySem.W.fnOf name qual params body scope dV kV doc pm an cdv ct) ps sp := by
  refine ⟨len, ?_⟩
  intro A outer s H args us vs Q E p hr hot hpin e0 hb r hsp
  have KX : K.In s.heap := e0.mod.kin.keeps fun b o e => (e0.bs b o e).1
  have lim : s.heap.NoLimit := e0.mod.nolimit.keeps fun b o e => (e0.bs b o e).1
  have bnd : ∀ y ∈ ps.zip us, scope.names.lookup y.1 = some .local ∨ (scope.names.lookup y.1 = some .cell ∧ ((cellsFrom (s.heap.objs.size + 1) scope.names []).lookup y.1).isSome = true) := fun y hy =>
    (S.par y.1 (List.of_mem_zip hy).1).elim .inl fun q => .inr ⟨q, PySem.W.cellsFrom_some _ _ _ (.inl q)⟩
  refine codeAny_call_function hr.depth (KX _ _ lk) rfl S.co S.gen rfl (PySem.W.codeRec_of KX hcd) (hb _ _ _ _ (wpAny_newFunctionEnv_cells S.kind bnd ?_))
  rintro env rfl s1 x
  refine ⟨lim.keeps x.toInCall.keep, codeAny_func ?_⟩
  obtain ⟨t, ht, hq⟩ := bd A outer s H vs Q E p hot (hr.deeper _) hsp
  have I : Inv (cxH CX P w K mg base N qual scope f cdv A outer s H E p) [] (L2.start N vs) H s1 := inv_startH S hpin e0 (len _ _ _ _ _ hsp) r x
  refine wpAny_mono (ht.run [] s1 (L2.start N vs) H _ I hq) (fun fl s' hs => ?_) fun _ _ z => z
  cases fl with
  | ret u => obtain ⟨v, σ', H', J, rv, q⟩ := hs; exact ⟨v, H', J.os, J.bare, J.base, J.hok, rv, q⟩
  | next => obtain ⟨σ', H', J, q⟩ := hs; exact ⟨V.non, H', J.os, J.bare, J.base, J.hok, rfl, q⟩
  | brk => obtain ⟨_, _, _, q⟩ := hs; exact q.elim
  | cont => obtain ⟨_, _, _, q⟩ := hs; exact q.elim
section
variable {X : Cx} {CX : CXT} {k : Nat} {f C : Addr} {fd : FuncData} {ps : List Str} {sp : Addr × Obj → Sp} {E : St → XK} {x m : Str} {q pos : Pos} {e o : Expr} {es : List Expr} {ta : TE} {t : TA} {pp : Addr × Obj}
theorem pe_callHp (F : FnHp X.prog X.w X.K X.mg X.base CX k f fd ps sp) (hr : RoomH k X.A) (hot : Hot1 X.A pp) (hp : pp ∈ X.pn) (hg : Gl X x) (hm : X.mg x = some (.ref f)) (hk : PySem.W.keepIn X.K (.ref f) = true) (hb : Binds X.K fd ps []) (hx : ∀ σ, PassesAt CX X σ (E σ))
    (ha : PA X (e :: es) t) (hdb : (x == ("__debug__" : Str)) = false) (he : starEach (e :: es) X.env = (false, eval e X.env) :: starEach es X.env) (hpl : (backTo pos (starEach es X.env)).any (·.1) = false) :
    PE X (.Call (.Name x q) (e :: es) [] pos) (tCallS (sp pp) E t) := by
  constructor
  intro pins s σ H Q I h
  refine wpAny_Call_Name_kw (ld_glob I hg hm (PySem.W.callWith_K (h₀ := X.base) I.ok.mod.kin hk (thn (ha.run pos pins s σ H _ I h) ?_) he hpl) hdb)
  rintro us s1 ⟨vs, H1, I1, r, hs⟩
  refine ⟨I1.kIn, ?_⟩
  have hl : us.length = ps.length := by rw [← r.length]; exact F.len _ _ _ _ _ hs
  have b := hb s1 us I1.kIn (by rw [List.append_nil]; exact hl)
  rw [List.append_nil] at b
  obtain ⟨a1, a2, a3, a4, a5⟩ := I1.pin pp (List.mem_append_left _ hp)
  have pin : PinOk X.stack H1 s1 pp := ⟨a1, a2, fun z => (List.mem_cons.mp (I1.stkSub pp.1 z)).elim a3 a4, a5⟩
  refine wpAny_call (codeAny_mono (F.run X.A X.stack s1 H1 ⟨us, []⟩ us vs Q (E σ) pp hr hot pin I1.env0 b r hs) ?_)
  rintro (e | fl) s' hq
  · exact hx σ pins H1 s1 e s' I1 hq
  · cases fl with
    | ret u => exact I1.after hq
    | next => exact hq.elim
    | brk => exact hq.elim
    | cont => exact hq.elim
/-- what stands of the handled exception -/
def Xdd (H : Hp) (dd : Option Addr) : Prop := dd = none ∨ ∃ d xfs, dd = some d ∧ H d = some (.xd xfs)
theorem inst_hot {a D : Addr} {oe : Obj} {dd : Option Addr} (hp : (a, oe) ∈ X.pn) (hz : Zc (.ref D) dd oe) (hf : ∃ vs, oe.data = .fields vs) {pins : List (Addr × Obj)} {σ : St} {H : Hp} {s : Shared} (I : Inv X pins σ H s) (hd : Xdd H dd) :
    ∃ od, PySem.W.InstAt s.heap a oe D od := by
  obtain ⟨g, _⟩ := I.pin (a, oe) (List.mem_append_left _ hp)
  obtain ⟨vs, hv⟩ := hf
  have nc : PySem.W.notCls oe := by unfold PySem.W.notCls; rw [hv]
  rcases hd with rfl | ⟨d, xfs, rfl, e⟩
  · exact ⟨none, g, hz.1, nc, by rw [hz.2]; trivial⟩
  · have ok : ObjOk X.prog X.w H s.heap d (.xd xfs) := I.hok d _ e
    obtain ⟨mA, ns, _⟩ := ok
    obtain ⟨od, go, _⟩ := lookIn_ns ns
    exact ⟨some od, g, hz.1, nc, by rw [hz.2]; exact go⟩
def rIsH (K : PySem.W.Frag) (a D : Addr) (dd : Option Addr) : List V → Hp → VK → Prop := fun xs H Q => Xdd H dd ∧ ((∃ c cv b, xs = [.ref a, c] ∧ ClsV c cv ∧ PySem.W.kitOne K (.ref D) cv = some b ∧ Q (.bl b) H) ∨
  ∃ tp cs us b, xs = [.ref a, .ref tp] ∧ H tp = some (.tup cs) ∧ Paired ClsV cs us ∧ PySem.W.kitAny K (.ref D) us = some b ∧ Q (.bl b) H)
theorem isi_hot {a D : Addr} {oe : Obj} {dd : Option Addr} (C : ExcC X.K D) (hp : (a, oe) ∈ X.pn) (hz : Zc (.ref D) dd oe) (hf : ∃ vs, oe.data = .fields vs) : CallR X (.builtin "isinstance") (rIsH X.K a D dd) := by
  intro pins s σ H xs us Q I r h
  obtain ⟨hd, h⟩ := h
  obtain ⟨od, J⟩ := inst_hot hp hz hf I hd
  have hcl : (PySem.W.clsIn X.K D).isSome = true := by
    obtain ⟨cd, e, _⟩ := PySem.W.any_some C.hd
    rw [e]; rfl
  have Z : PySem.W.KitX X.K (.ref a) (.ref D) (fun h => PySem.W.InstAt h a oe D od) := PySem.W.kitx_exc hcl C.hg C.hk C.hs C.ha C.hn C.ht C.hm
  rcases h with ⟨c, cv, b, rfl, k, e, q⟩ | ⟨tp, cs, ws, b, rfl, hT, k, e, q⟩
  · obtain ⟨u1, u2, rfl, r1, r2⟩ := vals2 r
    cases (show u1 = Value.ref a from r1)
    have e2 := k.eq r2
    subst e2
    exact PySem.W.kia_one Z I.kIn J e (fun z => nomatch z) fun tk => ⟨.bl b, H, I.tok tk, rfl, q⟩
  · obtain ⟨u1, u2, rfl, r1, r2⟩ := vals2 r
    cases (show u1 = Value.ref a from r1)
    cases (show u2 = Value.ref tp from r2)
    obtain ⟨_, its, rv, o, h1, h2, n, h3⟩ := (show ObjOk X.prog X.w H s.heap tp (.tup cs) from I.hok tp _ hT)
    have e3 := ClsV.all k rv
    subst e3
    obtain ⟨oc, od', dt, sl⟩ := o
    simp only at h2 h3
    subst h2 h3
    exact PySem.W.kia_tup Z I.kIn J h1 e (fun z => nomatch z) fun tk => ⟨.bl b, H, I.tok tk, rfl, q⟩
/-- a field of the handled exception -/
def tXh (a : Addr) (dd : Option Addr) (f : Str) (te : TE) : TE := fun σ H Q => te σ H fun x H1 => x = .ref a ∧ ∃ (d : Addr) (xfs : List (Str × V)) (v : V), dd = some d ∧ H1 d = some (.xd xfs) ∧ xfs.lookup f = some v ∧ Q v H1
theorem pe_xh {a C : Addr} {oe : Obj} {dd : Option Addr} {e : Expr} {te : TE} {pos : Pos} {nf : Str} (T : ExcC X.K C) (hno : PySem.W.findIn X.K (.ref C) nf = some none) (hp : (a, oe) ∈ X.pn)
    (hz : Zc (.ref C) dd oe) (hf : ∃ vs, oe.data = .fields vs) (he : PE X e te) (hb : attributeBase e nf X.env (eval e X.env) = eval e X.env) : PE X (.Attribute e nf pos) (tXh a dd nf te) := by
  constructor
  intro pins s σ H Q I h
  refine attr_of hb (thn (he.run pins s σ H _ I h) ?_)
  rintro u s1 ⟨x, H1, I1, rx, rfl, d, xfs, v, rfl, ea, l, q⟩
  obtain rfl : u = Value.ref a := rx
  obtain ⟨g, _⟩ := I1.pin (a, oe) (List.mem_append_left _ hp)
  obtain ⟨vs, hv⟩ := hf
  have ok : ObjOk X.prog X.w H1 s1.heap d (.xd xfs) := I1.hok d _ ea
  obtain ⟨mA, hns, hr⟩ := ok
  obtain ⟨od, ho, hl⟩ := lookIn_ns hns
  obtain ⟨u, hu, ru⟩ := RelO.some_of (v := v) (o := mA nf) (by rw [← l]; exact hr nf)
  have nc : PySem.W.notCls oe := by unfold PySem.W.notCls; rw [hv]
  have J : PySem.W.InstAt s1.heap a oe C (some od) := ⟨g, hz.1, nc, by rw [hz.2]; exact ho⟩
  exact HandSPX.exc_get I1.kIn J T.hg T.hk T.hs (PySem.W.findObj_own T.hd hno rfl (by rw [hl, hu])) (handed_of ru) ⟨v, H1, I1.tok _, ru, q⟩
end
end NL

end
section
set_option Elab.async false
set_option linter.all false
set_option maxRecDepth 100000
set_option maxHeartbeats 4000000
namespace NL
open PySem PySem.Spec PyProof.Rows L2 L2H HotX
/-! ### the program's own exceptions: made, their __init__ walked -/
def locN (sc : Scope) (x : Str) : Bool := decide (sc.names.lookup x = some .local) && !(x == ("__debug__" : Str)) && !(x == ("__classdict__" : Str))
/-- self.f = p, one behind another -/
def agIn (N : List Str) (sc : Scope) : Nat → List Str → List Stmt → Bool
  | _, [], [] => true
  | i, f :: fs, .Assign [.Attribute (.Name s _) g _] (.Name x _) _ :: ss => decide (N[0]? = some s) && locN sc s && decide (g = f) && decide (N[i]? = some x) && locN sc x && agIn N sc (i + 1) fs ss
  | _, _, _ => false
structure XInit (K : PySem.W.Frag) (C : Addr) (fs : List Str) : Prop where
  oex : OexC K C
  no : ∀ f ∈ fs, PySem.W.findIn K (.ref C) f = some none
  ex : ∃ (fI : Addr) (fd : FuncData) (qual : Str) (st : Stmt) (N : List Str), PySem.W.findIn K (.ref C) "__init__" = some (some (.ref fI)) ∧ PySem.W.typeIn K (.ref fI) = some (.type "function") ∧
    FunD K "__init__" qual (defArgs st) (defBody st) (defScope st) [] [] fI fd ∧ FnScope N N (defScope st) ∧ Binds K fd N [] ∧ agIn N (defScope st) 1 fs (defBody st) = true ∧ N.length = fs.length + 1
def tIn (K : PySem.W.Frag) : Nat → List Str → TS
  | _, [] => fun D σ H => D.nx σ H
  | i, f :: fs => tSeq (tOst K f (tVar 0) (tVar i)) (tIn K (i + 1) fs)
theorem pss_in {X : Cx} : ∀ {fs : List Str} {ss : List Stmt} {i : Nat}, agIn X.N X.env.scope i fs ss = true → PSs X ss (tIn X.K i fs)
  | [], [], _, _ => pss_nil
  | [], _ :: _, i, h => by unfold agIn at h; cases h
  | f :: fs, [], i, h => by unfold agIn at h; cases h
  | f :: fs, s :: ss, i, h => by
    unfold agIn at h
    split at h
    · rename_i e; cases e
    · rename_i e1 e2
      cases e1
      cases e2
      simp only [Bool.and_eq_true, decide_eq_true_eq] at h
      obtain ⟨⟨⟨⟨⟨h1, h2⟩, h3⟩, h4⟩, h5⟩, h6⟩ := h
      unfold locN at h2 h5
      simp only [Bool.and_eq_true, decide_eq_true_eq, Bool.not_eq_true'] at h2 h5
      subst h3
      exact pss_cons (ps_ost (pe_var h1 (.inl h2.1.1) h2.1.2 h2.2) (pe_var h4 (.inl h5.1.1) h5.1.2 h5.2)) (pss_in h6)
    · cases h
theorem tIn_old {K : PySem.W.Frag} {C a dx : Addr} (T : OexC K C) (hda : dx ≠ a) {D : Ends} {σ : St} : ∀ {fs : List Str} {ws : List V} {i : Nat} {acc : List (Str × V)} {H : Hp}, σ[0]? = some (some (.ref a)) → (∀ k w, ws[k]? = some w → σ[i + k]? = some (some w)) → ws.length = fs.length → (∀ f ∈ fs, PySem.W.findIn K (.ref C) f = some none) →
    acc.length + fs.length ≤ 900 → H a = some (exo a C (some dx)) → H dx = some (exd dx acc) →
    (∀ H', H' a = some (exo a C (some dx)) → H' dx = some (exd dx ((fs.zip ws).reverse ++ acc)) → (∀ b, b ≠ a → b ≠ dx → H' b = H b) → D.nx σ H') → tIn K i fs D σ H
  | [], _, _, _, H, _, _, _, _, _, e1, e2, q => q H e1 (by simpa using e2) fun _ _ _ => rfl
  | f :: fs, [], _, _, _, _, _, hl, _, _, _, _, _ => by simp at hl
  | f :: fs, w :: ws, i, acc, H, h0, hw, hl, hn, hz, e1, e2, q => by
    refine ⟨w, hw 0 w rfl, .ref a, h0, a, C, rfl, T, hn f (List.mem_cons_self ..), .inr ⟨dx, acc, e1, e2, by simp at hz; omega, ?_⟩⟩
    refine tIn_old T hda (ws := ws) (acc := (f, w) :: acc) h0 (fun k v e => by rw [show i + 1 + k = i + (k + 1) by omega]; exact hw (k + 1) v (by simpa using e)) (by simpa using hl) (fun g hg => hn g (List.mem_cons_of_mem _ hg)) (by simp at hz ⊢; omega)
      (by rw [upd_ne (Ne.symm hda)]; exact e1) upd_same fun H' k1 k2 k3 => q H' k1 ?_ fun b b1 b2 => by rw [k3 b b1 b2, upd_ne b2]
    rw [List.zip_cons_cons, List.reverse_cons, List.append_assoc]
    exact k2
/-- what such an __init__ promises -/
def spI (C : Addr) (fs : List Str) : Sp := fun vs H Q _ => ∃ (a : Addr) (ws : List V), vs = .ref a :: ws ∧ ws.length = fs.length ∧ H a = some (exo a C none) ∧
  ∀ (dx : Addr) (H' : Hp), H dx = none → dx ≠ a → H' a = some (exo a C (some dx)) → H' dx = some (exd dx (fs.zip ws).reverse) → (∀ b, b ≠ a → b ≠ dx → H' b = H b) → Q .non H'
theorem init_fn {P : Program} {w : World} {K : PySem.W.Frag} {mg : Str → Option Value} {base : Heap} {CX : CXT} {C fI : Addr} {fd : FuncData} {qual : Str} {st : Stmt} {N fs : List Str} {k : Nat} (T : OexC K C) (F : FunD K "__init__" qual (defArgs st) (defBody st) (defScope st) [] [] fI fd) (S : FnScope N N (defScope st))
    (ag : agIn N (defScope st) 1 fs (defBody st) = true) (hl : N.length = fs.length + 1) (hne : fs ≠ []) (hz : fs.length ≤ 900) (hn : ∀ f ∈ fs, PySem.W.findIn K (.ref C) f = some none) : FnOk P w K mg base CX (k + 1) fI fd N (spI C fs) := by
  refine F.ok S (fun vs H Q E h => ?_) fun cdv A outer s H vs Q E hr h => ?_
  · obtain ⟨a, ws, rfl, e, _⟩ := h
    rw [List.length_cons, e, hl]
  · refine ⟨_, pss_in (X := cxOf CX P w K mg base N qual (defScope st) fI cdv A outer s H E) ag, ?_⟩
    obtain ⟨a, ws, rfl, e, ea, q⟩ := h
    have st0 : (L2.start N (V.ref a :: ws))[0]? = some (some (.ref a)) := by unfold L2.start; rfl
    have stk : ∀ k v, ws[k]? = some v → (L2.start N (V.ref a :: ws))[1 + k]? = some (some v) := fun k v hk => by
      have lt := (List.getElem?_eq_some_iff.mp hk).1
      unfold L2.start
      rw [List.getElem?_append_left (by simp; omega), Nat.add_comm, List.getElem?_map, List.getElem?_cons_succ, hk]
      rfl
    cases fs with
    | nil => exact absurd rfl hne
    | cons f fs =>
      cases ws with
      | nil => simp at e
      | cons w1 ws =>
        refine ⟨w1, stk 0 w1 rfl, .ref a, st0, a, C, rfl, T, hn f (List.mem_cons_self ..), .inl ⟨ea, fun dx n1 n2 => ?_⟩⟩
        refine tIn_old T n2 (ws := ws) (acc := [(f, w1)]) st0 (fun k v hk => by rw [show 1 + 1 + k = 1 + (k + 1) by omega]; exact stk (k + 1) v (by simpa using hk)) (by simpa using e) (fun g hg => hn g (List.mem_cons_of_mem _ hg)) (by simp at hz ⊢; omega)
          upd_same (by rw [upd_ne n2]; exact upd_same) fun H' k1 k2 k3 => q dx H' n1 n2 k1 ?_ fun b b1 b2 => by rw [k3 b b1 b2, upd_ne b1, upd_ne b2]
        rw [List.zip_cons_cons, List.reverse_cons]
        exact k2
/-- C(e, ..): nothing is handled -/
theorem pmk_oexN {X : Cx} {CX : CXT} {x : Str} {e : Expr} {es : List Expr} {ta : TA} {p pos : Pos} {C fI : Addr} {k : Nat} {fd : FuncData} {ps : List Str} {sp : Sp} (T : OexC X.K C) (iC : PySem.W.findIn X.K (.ref C) "__init__" = some (some (.ref fI))) (tI : PySem.W.typeIn X.K (.ref fI) = some (.type "function"))
    (F1 : FnOk X.prog X.w X.K X.mg X.base CX k fI fd ps sp) (hr : Room (k + 1) X.A) (hb : Binds X.K fd ps []) (hx : Passes CX X (fun _ _ _ => False)) (hg : Gl X x) (hm : X.mg x = some (.ref C)) (ha : PA X (e :: es) ta)
    (hdb : (x == ("__debug__" : Str)) = false) (he : starEach (e :: es) X.env = (false, eval e X.env) :: starEach es X.env) (hpl : (backTo pos (starEach es X.env)).any (·.1) = false) :
    L2N.PMk X (.Call (.Name x p) (e :: es) [] pos) (tMkO C sp [] ta) := by
  intro pins s σ H Q I h
  obtain ⟨nm, q, N, bs, bm, sn, sub, ab, col, dd, k0, k1, k2, k3, k5, hC, hbm⟩ := T.cls
  refine wpAny_Call_Name_kw (ld_glob I hg hm ?_ hdb)
  refine PySem.W.callWith_K (h₀ := X.base) I.ok.mod.kin T.kC (thn (ha.run pos pins s σ H _ I h) ?_) he hpl
  rintro us ⟨hp, g, dr, tk, os⟩ ⟨vs, H1, I1, r1, hz, q1⟩
  refine ⟨I1.kIn, ?_⟩
  show wpAny _ _ (call (.ref C) us) _ _ _
  have hsz : hp.objs.size ≤ hp.objs.size + 1 := Nat.le_succ _
  have hq := q1 (hp.objs.size + 1) (I1.hok.fresh hsz)
  rw [List.append_nil] at hq
  have kk : ∀ b o, hp.get? b = some o → ((hp.push (PySem.W.kdv_tup us)).push (PySem.HandSPX.excO C hp.objs.size)).get? b = some o := fun b o e => Heap.get?_push_of_some _ (Heap.get?_push_of_some _ e)
  have gt : ((hp.push (PySem.W.kdv_tup us)).push (PySem.HandSPX.excO C hp.objs.size)).get? (hp.objs.size + 1) = some (PySem.HandSPX.excO C hp.objs.size) := by heap_get
  have I2 := I1.laid (t' := tk) (a := hp.objs.size + 1) (o := exo (hp.objs.size + 1) C none) (h' := (hp.push (PySem.W.kdv_tup us)).push (PySem.HandSPX.excO C hp.objs.size)) kk hsz (exo_ok gt)
  have r2 : Vals (V.ref (hp.objs.size + 1) :: vs) (Value.ref (hp.objs.size + 1) :: us) := .cons rfl r1
  have hl : (Value.ref (hp.objs.size + 1) :: us ++ []).length = ps.length := by
    have e := r2.length
    rw [F1.len _ _ _ _ hq] at e
    rw [List.append_nil]
    exact e.symm
  have b2 := hb _ (Value.ref (hp.objs.size + 1) :: us) I2.kIn hl
  rw [List.append_nil] at b2
  refine wpAny_call (PySem.HandSPX.call_own F.excBase_ValueError (fun Y => PySem.HandSPX.refsVE_contains Y bm hbm) (I1.kIn _ _ hC) (PySem.W.looks_findIn I1.kIn iC) (fun self => PySem.W.bind_fn I1.kIn self tI) (by rw [← Paired.length r1, sizeLine_eq]; omega)
    (codeAny_mono (F1.run _ X.stack _ _ ⟨Value.ref (hp.objs.size + 1) :: us, []⟩ (Value.ref (hp.objs.size + 1) :: us) _ _ (fun _ _ _ => False) (hr.make C us []) (I2.env0.make C us []) b2 r2 hq) ?_))
  rintro (er | fl) s' hq'
  · exact hx pins σ _ _ er s' I2 hq'
  · cases fl with
    | ret u =>
      obtain ⟨v, H2, os2, bare2, un2, hok2, rv, ev, d, fs, ea, ed, hd1, q2⟩ := hq'
      subst ev
      obtain ⟨h2, g2, d2, t2, os'⟩ := s'
      obtain ⟨t0, G, J, kG, ge, hoe, na⟩ := mk_end0 (d2 := d2) (t2 := t2) I1 hsz kk un2 hok2 os2 bare2 ea ed hd1
      exact ⟨rv, _, _, _, ⟨G, g2, d2, t2, os'⟩, _, .ref C, some d, rfl, J, kG, ge, hoe, ⟨rfl, rfl, fun vs z => by cases z; rfl⟩, rfl, rfl, na, rfl, bare2, raises_own T.exC T.tyC, q2⟩
    | next => exact hq'.elim
    | brk => exact hq'.elim
    | cont => exact hq'.elim
end NL

end
section
set_option Elab.async false
set_option linter.all false
set_option maxRecDepth 100000
namespace NL
open PySem PySem.Spec PyProof.Rows L2 L2H

/-! ### names, places -/
structure Ad where
  fad : Nat → Addr
  fdt : Nat → FuncData
  fps : Nat → List Str
def clV (ca : Str → Addr) : Cl → Value
  | .ty t => .type t
  | .cls c => .ref (ca c)
def cl_V (ca : Str → Addr) : Cl → V
  | .ty t => .ty t
  | .cls c => .ref (ca c)
/-- the classes that may be asked for -/
def clsOk (nm : Nm) : Cl → Bool
  | .ty t => ["int", "str", "bool", "list", "tuple", "ValueError"].contains t
  | .cls c => nm.cl.contains c
/-- what the module holds -/
structure Gf (T : Tb) (nm : Nm) (ad : Ad) (ca : Str → Addr) (K : PySem.W.Frag) (mg : Str → Option Value) : Prop where
  fn : ∀ (f : Nat) (x : Str), nm.fn[f]? = some x → mg x = some (.ref (ad.fad f)) ∧ PySem.W.keepIn K (.ref (ad.fad f)) = true ∧ Binds K (ad.fdt f) (ad.fps f) []
  gn : ∀ (k : Nat) (x : Str), nm.gn[k]? = some x → ∃ (s : Str) (t : Tok), T.gl[k]? = some s ∧ mg x = some (.str s t)
  bn : ∀ x, x ∈ nm.bn → mg x = none
  cl : ∀ c, c ∈ nm.cl → mg c = some (.ref (ca c)) ∧ PySem.W.keepIn K (.ref (ca c)) = true
  rc : ∀ c, c ∈ nm.rc → ExcC K (ca c) ∧ (∀ fs f, T.ef c = some fs → f ∈ fs → PySem.W.findIn K (.ref (ca c)) f = some none)
  kx : ∀ c k, c ∈ nm.rc → clsOk nm k = true → PySem.W.kitOne K (.ref (ca c)) (clV ca k) = some ((T.B c).contains k)
  kt : ∀ t c, t ∈ ["NoneType", "bool", "int", "str", "tuple", "list"] → c ∈ nm.cl → PySem.W.kitOne K (.type t) (.ref (ca c)) = some false
  fl : ∀ (f : Nat) (x : Str) (d : Df), nm.fn[f]? = some x → T.df f = some d → d.np = (ad.fps f).length
  ce : ∀ c fs, T.ef c = some fs → c ∈ nm.rc
  ex : ∀ c k, c ∈ nm.rc → k ∈ nm.cl → PySem.W.exmOne K (.ref (ca c)) (.ref (ca k)) = some ((T.B c).contains (.cls k))
  xi : ∀ c fs, T.ef c = some fs → fs ≠ [] → fs.length ≤ 900 ∧ XInit K (ca c) fs
  im : ∀ x, x ∈ nm.im → x = "gcd" ∧ mg x = some (.builtin "math.gcd")
/-- a def's promise: the run's outcome -/
def spC (T : Tb) (F : Nat) (K : PySem.W.Frag) (ca : Str → Addr) (n f np : Nat) : Sp := fun vs H Q E =>
  vs.length = np ∧ ∃ L ds, Hid H L ∧ Reps ⟨K, none, ca⟩ (vis H L) ds vs ∧ Fin ⟨K, none, ca⟩ L H E (run T F n false f ds) Q
structure HotK (nm : Nm) (ca : Str → Addr) (p : Addr × Obj) (h : HotD) : Prop where
  a : h.a = p.1
  oe : h.oe = p.2
  zc : Zc (.ref h.C) h.dd h.oe
  fs : ∃ vs, h.oe.data = .fields vs
  ec : h.C = ca h.c
  cl : h.c ∈ nm.rc
def spH (T : Tb) (F : Nat) (nm : Nm) (K : PySem.W.Frag) (ca : Str → Addr) (n f np : Nat) : Addr × Obj → Sp := fun p vs H Q E =>
  vs.length = np ∧ ∃ h L ds, HotK nm ca p h ∧ Hid H L ∧ Reps ⟨K, some h, ca⟩ (vis H L) ds vs ∧ Fin ⟨K, some h, ca⟩ L H E (run T F n true f ds) Q
/-- all defs keep their promises, to depth n -/
structure Lv (P : Program) (w : World) (K : PySem.W.Frag) (mg : Str → Option Value) (base : Heap) (T : Tb) (F : Nat) (nm : Nm) (ad : Ad) (ca : Str → Addr) (n : Nat) : Prop where
  calm : ∀ (f : Nat) (x : Str), nm.fn[f]? = some x → FnOk P w K mg base (L2N.CX P w) (n + 2) (ad.fad f) (ad.fdt f) (ad.fps f) (spC T F K ca n f (ad.fps f).length)
  hot : ∀ (f : Nat) (x : Str), nm.fn[f]? = some x → FnHp P w K mg base (L2N.CX P w) (n + 2) (ad.fad f) (ad.fdt f) (ad.fps f) (spH T F nm K ca n f (ad.fps f).length)
/-- code that runs while an exception is handled -/
structure HotQ (X : Cx) (nm : Nm) (ca : Str → Addr) (h : HotD) : Prop where
  hot : Hot1 X.A (h.a, h.oe)
  pn : (h.a, h.oe) ∈ X.pn
  k : HotK nm ca (h.a, h.oe) h
theorem HotQ.c {X : Cx} {nm : Nm} {ca : Str → Addr} {h : HotD} (x : HotQ X nm ca h) : HotC X := ⟨_, x.hot, x.pn⟩
/-- where a piece of code stands -/
structure Cn (X : Cx) (R : RC) (T : Tb) (F : Nat) (nm : Nm) (ad : Ad) (n : Nat) (W : WX) (S : Sur) : Prop where
  rk : R.K = X.K
  gf : Gf T nm ad R.ca X.K X.mg
  lv : Lv X.prog X.w X.K X.mg X.base T F nm ad R.ca n
  tk : L2N.Takes X W
  nd : X.N.Nodup
  hu : X.A.units + 65 < cLine
  md : (X.calm = true ∧ R.hx = none ∧ Room (n + 2) X.A ∧ S.hot = false) ∨ (S.hot = true ∧ ∃ h, R.hx = some h ∧ HotQ X nm R.ca h ∧ RoomH (n + 2) X.A)
  sf : S.Φ = run T F n
  sg : S.gl = T.gl
  sB : S.B = T.B
  sE : S.ef = T.ef

/-! ### the checker -/
def visB (sc : Scope) (x : Str) : Bool := match sc.names.lookup x with
  | some .local | some .cell | some .free => true
  | _ => false
theorem visB_ok {X : Cx} {x : Str} (h : visB X.env.scope x = true) : Vis X.env.scope x := by
  unfold visB at h
  unfold Vis
  split at h
  · exact .inl (by assumption)
  · exact .inr (.inl (by assumption))
  · exact .inr (.inr (by assumption))
  · cases h
def glB (sc : Scope) (x : Str) : Bool := decide (sc.names.lookup x = some .globalImplicit)
theorem glB_ok {X : Cx} {x : Str} (h : glB X.env.scope x = true) : Gl X x := by
  unfold glB at h
  unfold Gl Env.kindOf
  exact of_decide_eq_true h
def locB (sc : Scope) (x : Str) : Bool := match sc.names.lookup x with
  | some .local | some .cell => true
  | _ => false
theorem locB_ok {X : Cx} {x : Str} (h : locB X.env.scope x = true) : L2.Loc X.env.scope x := by
  unfold locB at h
  unfold L2.Loc
  split at h
  · exact .inl (by assumption)
  · exact .inr (by assumption)
  · cases h
def nodun (x : Str) : Bool := !(x == ("__debug__" : Str)) && !(x == ("__classdict__" : Str)) && !(x == ("__name__" : Str))
theorem nodun1 {x : Str} (h : nodun x = true) : (x == ("__debug__" : Str)) = false := by
  unfold nodun at h
  simp only [Bool.and_eq_true, Bool.not_eq_true'] at h
  exact h.1.1
theorem nodun2 {x : Str} (h : nodun x = true) : (x == ("__classdict__" : Str)) = false := by
  unfold nodun at h
  simp only [Bool.and_eq_true, Bool.not_eq_true'] at h
  exact h.1.2
theorem nodun3 {x : Str} (h : nodun x = true) : x ≠ "__name__" := by
  unfold nodun at h
  simp only [Bool.and_eq_true, Bool.not_eq_true'] at h
  exact fun e => by
    rw [e] at h
    simp at h
def isStar : Expr → Bool
  | .Starred _ _ => true
  | _ => false
theorem star_cons {e : Expr} {es : List Expr} {env : Env} (h : isStar e = false) : starEach (e :: es) env = (false, eval e env) :: starEach es env := by
  cases e <;> first | rfl | (cases h)
def noStars (es : List Expr) : Bool := es.all fun e => !isStar e
theorem stars_any {env : Env} : ∀ {es : List Expr}, noStars es = true → (starEach es env).any (·.1) = false
  | [], _ => rfl
  | e :: es, h => by
    unfold noStars at h
    rw [List.all_cons, Bool.and_eq_true] at h
    rw [star_cons (by simpa using h.1), List.any_cons, stars_any (es := es) h.2]
    rfl
theorem backTo_any {pos : Pos} : ∀ {xs : List (Bool × Sem Value)}, (backTo pos xs).any (·.1) = xs.any (·.1) := by
  intro xs
  unfold backTo
  induction xs with
  | nil => rfl
  | cons x xs ih => first | (simp_all) | (rfl)
/-- a test that is asked by the truth of its value -/
def plainT : Expr → Bool
  | .BoolOp _ _ _ => false
  | .UnaryOp .Not _ _ => false
  | .Compare _ _ _ _ => false
  | .IfExp _ _ _ _ => false
  | .NamedExpr _ _ _ => false
  | _ => true
theorem plainT_ok {e : Expr} {env : Env} (h : plainT e = true) : ∀ whole, isTrue e env whole = (do let v ← whole; standAt e.pos; holding [v] (truthy v)) := by
  intro whole
  cases e <;> first | rfl | (cases h; done) | skip
  rename_i op a pos
  cases op <;> first | rfl | (cases h)
def noSlice : Expr → Bool
  | .Slice _ _ _ _ => false
  | _ => true
theorem noSlice_ok {e : Expr} (h : noSlice e = true) : PlainIx e := by
  intro o i
  cases e <;> first | rfl | (cases h)

def Prim.nam : Prim → Str
  | .len => "len"
  | .int => "int"
  | .str => "str"
  | .abs => "abs"
  | .max2 => "max"
  | .min2 => "min"
  | .sum => "sum"
  | .all => "all"
  | .any => "any"
  | .list => "list"
  | .tuple => "tuple"
  | .sorted => "sorted"
  | .dict => "dict"
  | .gcd => "gcd"
  | .bool => "bool"
  | .repr => "repr"
def agC (nm : Nm) (sc : Scope) : Cl → Expr → Bool
  | .ty t, .Name x _ => decide (x = Str.ofString t) && tys.contains t && nm.bn.contains x && glB sc x && nodun x
  | .cls c, .Name x _ => decide (x = c) && nm.cl.contains x && glB sc x && nodun x
  | _, _ => false
def agCs (nm : Nm) (sc : Scope) : List Cl → List Expr → Bool
  | [], [] => true
  | c :: cs, e :: es => agC nm sc c e && agCs nm sc cs es
  | _, _ => false
def ownOf (N : List Str) (is : List Nat) : List (Str × Nat) := is.filterMap fun i => N[i]?.map fun x => (x, i)
def agG (fb : Str → Bool) (N : List Str) (sc : Scope) : Nat → Expr → Bool
  | i, .Name x _ => decide (N[i]? = some x) && (decide (sc.names.lookup x = some .local) || (decide (sc.names.lookup x = some .cell) && fb x))
  | _, _ => false
def agGs (fb : Str → Bool) (N : List Str) (sc : Scope) : List Nat → List Expr → Bool
  | [], [] => true
  | i :: is, e :: es => agG fb N sc i e && agGs fb N sc is es
  | _, _ => false
def agTg (fb : Str → Bool) (N : List Str) (sc : Scope) : Tg → Expr → Bool
  | .one i, e => agG fb N sc i e
  | .tup is, .Tuple es _ _ => agGs fb N sc is es && decide (2 ≤ es.length)
  | _, _ => false
def tgIn (own : List Nat) : Tg → Bool
  | .one i => own.contains i
  | .tup is => is.all fun i => own.contains i
def isNoneE : Expr → Bool
  | .Constant .none _ _ => true
  | _ => false
def plainI (sc : Scope) : Expr → Bool
  | .Set _ _ _ => false
  | _ => true
def notCall : Expr → Bool
  | .Call _ _ _ _ => false
  | _ => true
def isNonX : Ex → Bool
  | .non => true
  | _ => false
mutual
def agE (nm : Nm) (N : List Str) (sc : Scope) : Ex → Expr → Bool
  | .var i, e => (match e with | .Name x _ => decide (N[i]? = some x) && visB sc x && nodun x | _ => false)
  | .non, e => isNoneE e
  | .bl b, e => (match e with | .Constant (.bool c) _ _ => b == c | _ => false)
  | .int i, e => (match e with | .Constant (.int c) _ _ => decide (i = c) | _ => false)
  | .str i, e => (match e with | .Constant (.str c) _ _ => decide (i = c) | _ => false)
  | .glo k, e => (match e with | .Name x _ => decide (nm.gn[k]? = some x) && glB sc x && nodun x | _ => false)
  | .bin o a b, e => (match e with | .BinOp p op q _ => decide (opPy o = op) && agE nm N sc a p && agE nm N sc b q | _ => false)
  | .neg a, e => (match e with | .UnaryOp .USub p _ => agE nm N sc a p | _ => false)
  | .cmp o a b, e => (match e with | .Compare p [op] [q] _ => decide (cmPy o = op) && (plainC o || (isNoneE q && isNonX b)) && !behindInMarks op q && agE nm N sc a p && agE nm N sc b q | _ => false)
  | .chain o o' a b c, e => (match e with | .Compare p [op, op'] [q, r] _ => decide (cmPy o = op) && decide (cmPy o' = op') && plainC o && plainC o' && !lastMarks [op, op'] [q, r] && agE nm N sc a p && agE nm N sc b q && agE nm N sc c r | _ => false)
  | .and a b, e => (match e with
    | .BoolOp .And [p, q] _ => agE nm N sc a p && agE nm N sc b q
    | .BoolOp .And (p :: q :: r) pos => agE nm N sc a p && agE nm N sc b (.BoolOp .And (q :: r) pos)
    | _ => false)
  | .or a b, e => (match e with
    | .BoolOp .Or [p, q] _ => agE nm N sc a p && agE nm N sc b q
    | .BoolOp .Or (p :: q :: r) pos => agE nm N sc a p && agE nm N sc b (.BoolOp .Or (q :: r) pos)
    | _ => false)
  | .not a, e => (match e with | .UnaryOp .Not p _ => agE nm N sc a p | _ => false)
  | .ife c a b, e => (match e with | .IfExp p q r _ => agT nm N sc c p && agE nm N sc a q && agE nm N sc b r | _ => false)
  | .tup es, e => (match e with | .Tuple ps _ _ => agEs nm N sc es ps && noStars ps && decide (ps.length ≤ 1000) | _ => false)
  | .lst es, e => (match e with | .List ps _ => agEs nm N sc es ps && noStars ps && decide (ps.length ≤ 1000) | _ => false)
  | .sub a i, e => (match e with | .Subscript p q _ => agE nm N sc a p && agE nm N sc i q && noSlice q | _ => false)
  | .slice a lo hi, e => (match e with | .Subscript p (.Slice l h none _) _ => agE nm N sc a p && agO nm N sc lo l && agO nm N sc hi h | _ => false)
  | .call f es, e => (match e with | .Call (.Name x _) (p :: ps) [] _ => decide (nm.fn[f]? = some x) && glB sc x && nodun x && noStars (p :: ps) && agEs nm N sc es (p :: ps) | _ => false)
  | .prim p es, e => (match e with | .Call (.Name x _) (q :: qs) [] _ => decide (x = p.nam) && (match p with | .gcd => nm.im.contains x | _ => nm.bn.contains x) && glB sc x && nodun x && noStars (q :: qs) && agEs nm N sc es (q :: qs) | _ => false)
  | .meth m o es, e => false
  | .isi a cs one, e => (match e with
    | .Call (.Name x _) [p, q] [] _ => decide (x = "isinstance") && nm.bn.contains x && glB sc x && nodun x && noStars [p, q] && agE nm N sc a p && (match one with
      | true => agCs nm sc cs [q]
      | false => (match q with | .Tuple qs _ _ => agCs nm sc cs qs && noStars qs && decide (qs.length ≤ 1000 ∧ cs ≠ []) | _ => false))
    | _ => false)
  | .comp own tg it c elt, e => (match e with
    | .ListComp p [⟨t, i, ifs, 0⟩] csc _ => agI nm N sc it i && plainI sc i && blkC N sc csc (ownOf N own) && decide ((ownOf N own).map (·.2) = own) && tgIn own tg && agTg (fun x => csc.names.lookup x == some .cell) N (relS csc sc) tg t && agQ nm N (relS csc sc) c ifs && agE nm N (relS csc sc) elt p
    | _ => false)
  | .brw _ a, e => agE nm N sc a e
  | .fld o f, e => (match e with | .Attribute p g _ => decide (f = g) && notCall p && agE nm N sc o p | _ => false)
def agT (nm : Nm) (N : List Str) (sc : Scope) : Tx → Expr → Bool
  | .val a, e => agE nm N sc a e && plainT e
  | .cmp o a b, e => (match e with | .Compare p [op] [q] _ => decide (cmPy o = op) && (plainC o || (isNoneE q && isNonX b)) && !behindInMarks op q && agE nm N sc a p && agE nm N sc b q | _ => false)
  | .chain o o' a b c, e => (match e with | .Compare p [op, op'] [q, r] _ => decide (cmPy o = op) && decide (cmPy o' = op') && plainC o && plainC o' && !lastMarks [op, op'] [q, r] && agE nm N sc a p && agE nm N sc b q && agE nm N sc c r | _ => false)
  | .and a b, e => (match e with
    | .BoolOp .And [p, q] _ => agT nm N sc a p && agT nm N sc b q
    | .BoolOp .And (p :: q :: r) pos => agT nm N sc a p && agT nm N sc b (.BoolOp .And (q :: r) pos)
    | _ => false)
  | .or a b, e => (match e with
    | .BoolOp .Or [p, q] _ => agT nm N sc a p && agT nm N sc b q
    | .BoolOp .Or (p :: q :: r) pos => agT nm N sc a p && agT nm N sc b (.BoolOp .Or (q :: r) pos)
    | _ => false)
  | .not a, e => (match e with | .UnaryOp .Not p _ => agT nm N sc a p | _ => false)
def agEs (nm : Nm) (N : List Str) (sc : Scope) : Es → List Expr → Bool
  | .nil, es => es.isEmpty
  | .cons a r, es => (match es with | p :: ps => agE nm N sc a p && agEs nm N sc r ps | [] => false)
def agO (nm : Nm) (N : List Str) (sc : Scope) : Ox → Option Expr → Bool
  | .no, e => e.isNone
  | .yes a, e => (match e with | some p => agE nm N sc a p | none => false)
def agQ (nm : Nm) (N : List Str) (sc : Scope) : Tq → List Expr → Bool
  | .yes, e => e.isEmpty
  | .one a, e => (match e with | [p] => agT nm N sc a p | _ => false)
def agI (nm : Nm) (N : List Str) (sc : Scope) : It → Expr → Bool
  | .seq a, e => agE nm N sc a e
  | .rng1 a, e => (match e with | .Call (.Name x _) [p] [] _ => decide (x = "range") && nm.bn.contains x && glB sc x && noStars [p] && agE nm N sc a p | _ => false)
  | .rng2 a b, e => (match e with | .Call (.Name x _) [p, q] [] _ => decide (x = "range") && nm.bn.contains x && glB sc x && noStars [p, q] && agE nm N sc a p && agE nm N sc b q | _ => false)
end
end NL

end
section
set_option Elab.async false
set_option linter.all false
set_option maxRecDepth 100000
namespace NL
open PySem PySem.Spec PyProof.Rows L2

/-! ### calls of built-ins, by values -/
abbrev HoldV (R : RC) (g : List D → Res) (r : List V → Hp → VK → Prop) : Prop := ∀ (L : List Addr) (H : Hp) (E : XK) (Q : VK) (ds : List D) (vs : List V), Hid H L → Reps R (vis H L) ds vs → Fin R L H E (g ds) Q → r vs H Q
section
variable {X : Cx} {R : RC}
theorem CallR.both {f : Value} {r r' : List V → Hp → VK → Prop} (h : CallR X f r) (h' : CallR X f r') : CallR X f (fun xs H Q => r xs H Q ∨ r' xs H Q) := by
  intro pins s σ H xs us Q I rv q
  rcases q with q | q
  · exact h pins s σ H xs us Q I rv q
  · exact h' pins s σ H xs us Q I rv q
theorem callR_never {f : Value} : CallR X f (fun _ _ _ => False) := fun _ _ _ _ _ _ _ _ _ h => h.elim
theorem reps1 {G : Hp} {d : D} {vs : List V} (r : Reps R G [d] vs) : ∃ v, vs = [v] ∧ Rep R G d v := by
  simp only [Reps] at r
  obtain ⟨v, t, rfl, h, rfl⟩ := r
  exact ⟨v, rfl, h⟩
theorem reps2 {G : Hp} {d e : D} {vs : List V} (r : Reps R G [d, e] vs) : ∃ v w, vs = [v, w] ∧ Rep R G d v ∧ Rep R G e w := by
  simp only [Reps] at r
  obtain ⟨v, t, rfl, h, w, u, rfl, h', rfl⟩ := r
  exact ⟨v, w, rfl, h, h'⟩
theorem intsOf_map : ∀ {ds : List D} {ns : List Int}, intsOf ds = some ns → ds = ns.map D.int
  | [], ns, h => by simp only [intsOf, Option.some.injEq] at h; rw [← h]; rfl
  | d :: ds, ns, h => by
    cases d <;> simp only [intsOf] at h <;> first | (cases h; done) | skip
    cases e : intsOf ds with
    | none => rw [e] at h; cases h
    | some ms =>
      rw [e] at h
      simp only [Option.map_some, Option.some.injEq] at h
      rw [← h, intsOf_map e]
      rfl
theorem blsOf_map : ∀ {ds : List D} {ns : List Bool}, blsOf ds = some ns → ds = ns.map D.bl
  | [], ns, h => by simp only [blsOf, Option.some.injEq] at h; rw [← h]; rfl
  | d :: ds, ns, h => by
    cases d <;> simp only [blsOf] at h <;> first | (cases h; done) | skip
    cases e : blsOf ds with
    | none => rw [e] at h; cases h
    | some ms =>
      rw [e] at h
      simp only [Option.map_some, Option.some.injEq] at h
      rw [← h, blsOf_map e]
      rfl
theorem reps_bls {G : Hp} : ∀ {ns : List Bool} {vs : List V}, Reps R G (ns.map D.bl) vs → vs = ns.map V.bl
  | [], _, h => by simp only [List.map_nil, Reps] at h; exact h
  | n :: ns, _, h => by
    simp only [List.map_cons, Reps] at h
    obtain ⟨v, r, h1, h2, h3⟩ := h
    simp only [Rep] at h2
    rw [h1, h2, reps_bls h3]
    rfl
/-- how the built-in stands: its value, the rule -/
structure PrimR (X : Cx) (R : RC) (hot : Bool) (p : Prim) : Prop where
  ex : (∃ id r, bootBuiltins p.nam = some (.builtin id) ∧ CallR X (.builtin id) r ∧ HoldV R (primD hot p) r) ∨ (∃ T r, bootBuiltins p.nam = some (.type T) ∧ CallR X (.type T) r ∧ HoldV R (primD hot p) r)
theorem prim_len (hK : R.K = X.K) (hot : Bool) : PrimR X R hot .len := by
  refine ⟨.inl ⟨_, _, PySem.boot_len, call_len, fun L H E Q ds vs hl r h => ?_⟩⟩
  unfold primD at h
  split at h <;> first | exact fin_bad h | skip
  all_goals (first | (rename_i he; cases he) | skip)
  all_goals (obtain ⟨v, rfl, rv⟩ := reps1 r; simp only [Rep] at rv)
  · split at h
    · rename_i hz
      subst rv
      exact ⟨_, _, rfl, ⟨hz, rfl⟩, fin_int h⟩
    · exact fin_bad h
  · obtain ⟨p, xs, rfl, h2, h3⟩ := rv
    refine ⟨_, _, rfl, .inr ⟨xs, ?_, rfl⟩, ?_⟩
    · rw [← hK]
      exact same_sqT vis_ge h2
    · rw [h3.len]
      exact fin_int h
  · obtain ⟨p, xs, rfl, h2, h3⟩ := rv
    refine ⟨_, _, rfl, .inl ⟨xs, SqL.of (vis_ge _ _ h2), rfl⟩, ?_⟩
    rw [h3.len]
    exact fin_int h
  · rename_i a b zs
    obtain ⟨p, rfl, h2⟩ := rv
    refine ⟨_, _, rfl, .inl ⟨List.map V.int zs, ?_, rfl⟩, ?_⟩
    · rw [← hK]
      exact vis_ge.seq h2
    · rw [List.length_map]
      exact fin_int h
theorem prim_bad {hot : Bool} {p : Prim} {v : Value} (hv : bootBuiltins p.nam = some v) (hk : (∃ id, v = .builtin id) ∨ ∃ T, v = .type T) (hb : ∀ ds, primD hot p ds = .bad) : PrimR X R hot p := by
  rcases hk with ⟨id, rfl⟩ | ⟨T, rfl⟩
  · exact ⟨.inl ⟨id, _, hv, callR_never, fun L H E Q ds vs hl r h => by rw [hb] at h; exact h⟩⟩
  · exact ⟨.inr ⟨T, _, hv, callR_never, fun L H E Q ds vs hl r h => by rw [hb] at h; exact h⟩⟩
theorem prim_ok (hK : R.K = X.K) {hot : Bool} (hc : hot = false → X.calm = true) (p : Prim) (hp : p ≠ .gcd) : PrimR X R hot p := by
  cases p with
  | len => exact prim_len hK hot
  | gcd => exact absurd rfl hp
  | int =>
    refine ⟨.inr ⟨_, _, (by decide +kernel : bootBuiltins "int" = some (.type "int")), call_int1, fun L H E Q ds vs hl r h => ?_⟩⟩
    unfold primD at h
    split at h <;> first | exact fin_bad h | skip
    all_goals (first | (rename_i he; cases he) | skip)
    all_goals (obtain ⟨v, rfl, rv⟩ := reps1 r; simp only [Rep] at rv; subst rv)
    · exact .inl ⟨_, rfl, fin_int h⟩
    · exact .inr ⟨_, rfl, fin_int h⟩
  | abs =>
    refine ⟨.inl ⟨_, _, (by decide +kernel : bootBuiltins "abs" = some (.builtin "abs")), call_abs, fun L H E Q ds vs hl r h => ?_⟩⟩
    unfold primD at h
    split at h <;> first | exact fin_bad h | skip
    all_goals (first | (rename_i he; cases he) | skip)
    all_goals (obtain ⟨v, rfl, rv⟩ := reps1 r; simp only [Rep] at rv; subst rv)
    exact ⟨_, rfl, fin_int h⟩
  | max2 =>
    cases hot with
    | true => exact prim_bad (by decide +kernel : bootBuiltins "max" = some (.builtin "max")) (.inl ⟨_, rfl⟩) fun ds => by unfold primD; split <;> first | rfl | (rename_i he; cases he) | simp
    | false =>
      refine ⟨.inl ⟨_, _, (by decide +kernel : bootBuiltins "max" = some (.builtin "max")), call_max2 (hc rfl), fun L H E Q ds vs hl r h => ?_⟩⟩
      unfold primD at h
      split at h <;> first | exact fin_bad h | skip
      all_goals (first | (rename_i he; cases he) | skip)
      all_goals (obtain ⟨v, w, rfl, rv, rw'⟩ := reps2 r; simp only [Rep] at rv rw'; subst rv rw')
      exact ⟨_, _, rfl, fin_int h⟩
  | min2 =>
    cases hot with
    | true => exact prim_bad (by decide +kernel : bootBuiltins "min" = some (.builtin "min")) (.inl ⟨_, rfl⟩) fun ds => by unfold primD; split <;> first | rfl | (rename_i he; cases he) | simp
    | false =>
      refine ⟨.inl ⟨_, _, (by decide +kernel : bootBuiltins "min" = some (.builtin "min")), call_min2 (hc rfl), fun L H E Q ds vs hl r h => ?_⟩⟩
      unfold primD at h
      split at h <;> first | exact fin_bad h | skip
      all_goals (first | (rename_i he; cases he) | skip)
      all_goals (obtain ⟨v, w, rfl, rv, rw'⟩ := reps2 r; simp only [Rep] at rv rw'; subst rv rw')
      exact ⟨_, _, rfl, fin_int h⟩
  | sum =>
    cases hot with
    | true => exact prim_bad (by decide +kernel : bootBuiltins "sum" = some (.builtin "sum")) (.inl ⟨_, rfl⟩) fun ds => by unfold primD; split <;> first | rfl | (rename_i he; cases he) | simp
    | false =>
      refine ⟨.inl ⟨_, _, (by decide +kernel : bootBuiltins "sum" = some (.builtin "sum")), cr_sum (hc rfl), fun L H E Q ds vs hl r h => ?_⟩⟩
      unfold primD at h
      split at h <;> first | exact fin_bad h | skip
      all_goals (first | (rename_i he; cases he) | skip)
      rw [if_neg (by simp)] at h
      split at h
      · rename_i ns e
        obtain ⟨v, rfl, rv⟩ := reps1 r
        simp only [Rep] at rv
        obtain ⟨a, xs, rfl, h2, h3⟩ := rv
        rw [intsOf_map e] at h3
        rw [h3.ints] at h2
        exact ⟨_, _, rfl, SqL.of (vis_ge _ _ h2), fin_int h⟩
      · exact fin_bad h
  | all =>
    cases hot with
    | true => exact prim_bad (by decide +kernel : bootBuiltins "all" = some (.builtin "all")) (.inl ⟨_, rfl⟩) fun ds => by unfold primD; split <;> first | rfl | (rename_i he; cases he) | simp
    | false =>
      refine ⟨.inl ⟨_, _, (by decide +kernel : bootBuiltins "all" = some (.builtin "all")), cr_all (hc rfl), fun L H E Q ds vs hl r h => ?_⟩⟩
      unfold primD at h
      split at h <;> first | exact fin_bad h | skip
      all_goals (first | (rename_i he; cases he) | skip)
      rw [if_neg (by simp)] at h
      split at h
      · rename_i ns e
        obtain ⟨v, rfl, rv⟩ := reps1 r
        simp only [Rep] at rv
        obtain ⟨a, xs, rfl, h2, h3⟩ := rv
        rw [blsOf_map e] at h3
        rw [reps_bls h3] at h2
        exact ⟨_, _, rfl, SqL.of (vis_ge _ _ h2), fin_bl h⟩
      · exact fin_bad h
  | any =>
    cases hot with
    | true => exact prim_bad (by decide +kernel : bootBuiltins "any" = some (.builtin "any")) (.inl ⟨_, rfl⟩) fun ds => by unfold primD; split <;> first | rfl | (rename_i he; cases he) | simp
    | false =>
      refine ⟨.inl ⟨_, _, (by decide +kernel : bootBuiltins "any" = some (.builtin "any")), cr_any (hc rfl), fun L H E Q ds vs hl r h => ?_⟩⟩
      unfold primD at h
      split at h <;> first | exact fin_bad h | skip
      all_goals (first | (rename_i he; cases he) | skip)
      rw [if_neg (by simp)] at h
      split at h
      · rename_i ns e
        obtain ⟨v, rfl, rv⟩ := reps1 r
        simp only [Rep] at rv
        obtain ⟨a, xs, rfl, h2, h3⟩ := rv
        rw [blsOf_map e] at h3
        rw [reps_bls h3] at h2
        exact ⟨_, _, rfl, SqL.of (vis_ge _ _ h2), fin_bl h⟩
      · exact fin_bad h
  | list =>
    refine ⟨.inr ⟨_, _, (by decide +kernel : bootBuiltins "list" = some (.type "list")), call_list_of, fun L H E Q ds vs hl r h => ?_⟩⟩
    unfold primD at h
    split at h <;> first | exact fin_bad h | skip
    all_goals (first | (rename_i he; cases he) | skip)
    all_goals (obtain ⟨v, rfl, rv⟩ := reps1 r; simp only [Rep] at rv; obtain ⟨a, xs, rfl, h2, h3⟩ := rv)
    · exact ⟨_, _, rfl, .inl (SqL.of (vis_ge _ _ h2)), fun q nq => fin_lst h hl h3 nq⟩
    · refine ⟨_, _, rfl, .inr ?_, fun q nq => fin_lst h hl h3 nq⟩
      rw [← hK]
      exact same_sqT vis_ge h2
  | tuple =>
    refine ⟨.inr ⟨_, _, (by decide +kernel : bootBuiltins "tuple" = some (.type "tuple")), call_tuple_of, fun L H E Q ds vs hl r h => ?_⟩⟩
    unfold primD at h
    split at h <;> first | exact fin_bad h | skip
    all_goals (first | (rename_i he; cases he) | skip)
    all_goals (obtain ⟨v, rfl, rv⟩ := reps1 r; have rv' := rv; simp only [Rep] at rv; obtain ⟨a, xs, rfl, h2, h3⟩ := rv)
    · exact ⟨_, _, rfl, .inl ⟨SqL.of (vis_ge _ _ h2), fun q nq => fin_tup h hl h3 nq⟩⟩
    · refine ⟨_, xs, rfl, .inr ⟨?_, h.now rv'⟩⟩
      rw [← hK]
      exact same_sqT vis_ge h2
  | str => exact prim_bad (by decide +kernel : bootBuiltins "str" = some (.type "str")) (.inr ⟨_, rfl⟩) fun ds => by unfold primD; split <;> first | rfl | (rename_i he; cases he)
  | sorted => exact prim_bad (by decide +kernel : bootBuiltins "sorted" = some (.builtin "sorted")) (.inl ⟨_, rfl⟩) fun ds => by unfold primD; split <;> first | rfl | (rename_i he; cases he)
  | dict => exact prim_bad (by decide +kernel : bootBuiltins "dict" = some (.type "dict")) (.inr ⟨_, rfl⟩) fun ds => by unfold primD; split <;> first | rfl | (rename_i he; cases he)
  | bool => exact prim_bad (by decide +kernel : bootBuiltins "bool" = some (.type "bool")) (.inr ⟨_, rfl⟩) fun ds => by unfold primD; split <;> first | rfl | (rename_i he; cases he)
  | repr => exact prim_bad (by decide +kernel : bootBuiltins "repr" = some (.builtin "repr")) (.inl ⟨_, rfl⟩) fun ds => by unfold primD; split <;> first | rfl | (rename_i he; cases he)
theorem gcd_holds {hot : Bool} : HoldV R (primD hot .gcd) rGcd := fun L H E Q ds vs hl r h => by
  unfold primD at h
  split at h <;> first | exact fin_bad h | skip
  all_goals (first | (rename_i he; cases he) | skip)
  all_goals (obtain ⟨v, w, rfl, rv, rw'⟩ := reps2 r; simp only [Rep] at rv rw'; subst rv rw')
  exact ⟨_, _, rfl, fin_int h⟩
end
end NL

end
section
set_option Elab.async false
set_option linter.all false
set_option maxRecDepth 100000
namespace NL
open PySem PySem.Spec PyProof.Rows L2
/-! ### walks -/
def iSeq (K : PySem.W.Frag) (tl : TE) : TI := fun σ H R => tl σ H fun x H1 => ∃ a, x = .ref a ∧ (((∃ xs, SqL K H1 a xs) ∧ R (Itl K a) H1) ∨ ((∃ xs, SqT K H1 a xs) ∧ R (Itt K a) H1))
theorem pi_seq {X : Cx} {tg l : Expr} {tl : TE} (hl : PE X l tl) : PI X tg l (iSeq X.K tl) := by
  constructor
  intro pins s σ H R I h
  refine thn (hl.run pins s σ H _ I h) ?_
  rintro v s1 ⟨x, H1, I1, r1, a, rfl, q⟩
  cases r1
  have new : ∀ b ∈ [s1.heap.objs.size], FpOk X pins H1 b := fun b hb => by
    rw [List.mem_singleton] at hb
    rw [hb]
    exact I1.fpOk (Nat.le_refl _) (I1.hok.fresh (Nat.le_refl _))
  rcases q with ⟨⟨xs, hq⟩, q⟩ | ⟨⟨xs, hq⟩, q⟩
  · obtain ⟨its, rv, p, hz⟩ := I1.list hq
    exact wpAny_pyIter_list p.isList ⟨_, _, _, _, H1, rfl, I1.kept (t' := s1.toks) (fun b o e => Heap.get?_push_of_some _ e), turn_list a _, ⟨_, Heap.get?_push_size _ rfl, rfl, rfl⟩, new, q⟩
  · obtain ⟨its, rv, p, hz⟩ := I1.tuple hq
    exact wpAny_pyIter_tuple (show s1.heap.IsTuple a its.toArray from p) ⟨_, _, _, _, H1, rfl, I1.kept (t' := s1.toks) (fun b o e => Heap.get?_push_of_some _ e), turn_tuple a _, ⟨_, Heap.get?_push_size _ rfl, rfl, rfl⟩, new, q⟩
/-- the walk J yields the data ds, whatever the heap grows to -/
structure IterS (R : RC) (L : List Addr) (H1 : Hp) (J : L2.It) (ds : List D) : Prop where
  go : ∀ H, Same (vis H1 L) H → ∀ i d, ds[i]? = some d → J.go i H
  yld : ∀ H, Same (vis H1 L) H → ∀ i d, ds[i]? = some d → ∀ x H', J.yld i H x H' → Same H H' ∧ (∀ l o, H l = some o → H' l = some o) ∧ ∀ L', (∀ a ∈ L', a ∈ L ∨ H1 a = none) → Hid H L' → Rep R (vis H' L') d x
  stop : ∀ H, Same (vis H1 L) H → J.stop ds.length H
theorem vis_nw {H1 H : Hp} {L L' : List Addr} (e : Same (vis H1 L) H) (s : ∀ a ∈ L', a ∈ L ∨ H1 a = none) : Same (vis H1 L) (vis H L') := fun a o h => by
  have k := h
  unfold vis at h
  split at h
  · cases h
  · rename_i n
    exact vis_at (e _ _ k) fun z => (s a z).elim n fun q => by rw [q] at h; cases h
theorem vis_new {H1 H : Hp} {L L' : List Addr} (e : Same H1 H) (s : ∀ a ∈ L', a ∈ L ∨ H1 a = none) : Same (vis H1 L) (vis H L') := fun a o h => by
  unfold vis at h ⊢
  split at h
  · cases h
  · rename_i n
    rw [if_neg fun z => (s a z).elim n fun q => by rw [q] at h; cases h]
    exact e _ _ h
theorem iterS_list {K : PySem.W.Frag} {R : RC} {L : List Addr} {H1 : Hp} {a : Addr} {xs : List V} {ds : List D} (h : SqL K (vis H1 L) a xs) (r : Reps R (vis H1 L) ds xs) : IterS R L H1 (Itl K a) ds where
  go := fun H s i d e => by
    obtain ⟨x, e2, _⟩ := r.get e
    exact ⟨xs, x, s.seq h, e2⟩
  yld := fun H s i d e x H' hy => by
    obtain ⟨rfl, hy⟩ := hy
    obtain ⟨y, e2, ry⟩ := r.get e
    have e3 := hy xs (s.seq h)
    rw [e2] at e3
    cases e3
    exact ⟨Same.refl _, fun _ _ z => z, fun L' hL' _ => Rep.mono (vis_nw s hL') _ _ ry⟩
  stop := fun H s => ⟨xs, s.seq h, Nat.le_of_eq r.len⟩
theorem iterS_tup {K : PySem.W.Frag} {R : RC} {L : List Addr} {H1 : Hp} {a : Addr} {xs : List V} {ds : List D} (h : SqT K (vis H1 L) a xs) (r : Reps R (vis H1 L) ds xs) : IterS R L H1 (Itt K a) ds where
  go := fun H s i d e => by
    obtain ⟨x, e2, _⟩ := r.get e
    exact ⟨xs, x, same_sqT s h, e2⟩
  yld := fun H s i d e x H' hy => by
    obtain ⟨rfl, hy⟩ := hy
    obtain ⟨y, e2, ry⟩ := r.get e
    have e3 := hy xs (same_sqT s h)
    rw [e2] at e3
    cases e3
    exact ⟨Same.refl _, fun _ _ z => z, fun L' hL' _ => Rep.mono (vis_nw s hL') _ _ ry⟩
  stop := fun H s => ⟨xs, same_sqT s h, Nat.le_of_eq r.len⟩
theorem reps_ints {R : RC} {G : Hp} : ∀ {ns : List Int}, Reps R G (ns.map D.int) (ns.map V.int)
  | [] => Reps.nil
  | n :: ns => Reps.cons (by simp only [Rep]) reps_ints
theorem iterS_rng {R : RC} {L : List Addr} {H1 : Hp} {lo hi : Int} : IterS R L H1 (Itr lo (hi - lo).toNat) (rngD lo hi) where
  go := fun H s i d e => by
    have := (List.getElem?_eq_some_iff.mp e).1
    unfold rngD at this
    rw [List.length_map, List.length_range] at this
    exact this
  yld := fun H s i d e x H' hy => by
    obtain ⟨rfl, rfl⟩ := hy
    unfold rngD at e
    rw [List.getElem?_map] at e
    cases q : (List.range (hi - lo).toNat)[i]? with
    | none => rw [q] at e; cases e
    | some j =>
      rw [q] at e
      have ej : j = i := by
        obtain ⟨h1, h2⟩ := List.getElem?_eq_some_iff.mp q
        rw [List.getElem_range] at h2
        exact h2.symm
      subst ej
      simp only [Option.map_some, Option.some.injEq] at e
      subst e
      exact ⟨Same.refl _, fun _ _ z => z, fun L' _ _ => by simp only [Rep]⟩
  stop := fun H s => by
    show (hi - lo).toNat ≤ (rngD lo hi).length
    unfold rngD
    rw [List.length_map, List.length_range]
    exact Nat.le_refl _

/-! ### slots -/
theorem wipe_get (σ : St) (j : Nat) : ∀ vs : List Nat, (wipe σ vs)[j]? = if j ∈ vs then σ[j]?.map (fun _ => none) else σ[j]?
  | [] => by simp [wipe]
  | v :: vs => by
    show ((wipe σ vs).set v none)[j]? = _
    by_cases e : v = j
    · subst e
      rw [List.getElem?_set_self', wipe_get σ v vs, if_pos (List.mem_cons_self ..)]
      split
      · cases σ[v]? <;> rfl
      · cases σ[v]? <;> rfl
    · rw [List.getElem?_set_ne e, wipe_get σ j vs]
      by_cases m : j ∈ vs
      · rw [if_pos m, if_pos (List.mem_cons_of_mem _ m)]
      · rw [if_neg m, if_neg fun z => (List.mem_cons.mp z).elim (fun q => e q.symm) m]
theorem wipeR_get (ρ : List Sl) (j : Nat) : ∀ vs : List Nat, (wipeR ρ vs)[j]? = if j ∈ vs then ρ[j]?.map (fun _ => .un) else ρ[j]?
  | [] => by simp [wipeR]
  | v :: vs => by
    show ((wipeR ρ vs).set v .un)[j]? = _
    by_cases e : v = j
    · subst e
      rw [List.getElem?_set_self', wipeR_get ρ v vs, if_pos (List.mem_cons_self ..)]
      split
      · cases ρ[v]? <;> rfl
      · cases ρ[v]? <;> rfl
    · rw [List.getElem?_set_ne e, wipeR_get ρ j vs]
      by_cases m : j ∈ vs
      · rw [if_pos m, if_pos (List.mem_cons_of_mem _ m)]
      · rw [if_neg m, if_neg fun z => (List.mem_cons.mp z).elim (fun q => e q.symm) m]
theorem wipe_set {σ : St} {i : Nat} {x : Option V} {vs : List Nat} (h : i ∈ vs) : wipe (σ.set i x) vs = wipe σ vs := by
  refine List.ext_getElem? fun j => ?_
  rw [wipe_get, wipe_get]
  by_cases e : i = j
  · subst e
    rw [if_pos h, if_pos h, List.getElem?_set_self']
    cases σ[i]? <;> rfl
  · rw [List.getElem?_set_ne e]
theorem wipe_wipe {σ : St} {vs : List Nat} : wipe (wipe σ vs) vs = wipe σ vs := by
  refine List.ext_getElem? fun j => ?_
  rw [wipe_get, wipe_get]
  split
  · cases σ[j]? <;> rfl
  · rfl
theorem wipeR_length (ρ : List Sl) : ∀ vs : List Nat, (wipeR ρ vs).length = ρ.length
  | [] => rfl
  | v :: vs => by
    show ((wipeR ρ vs).set v .un).length = _
    rw [List.length_set, wipeR_length ρ vs]
section
variable {R : RC} {H0 H : Hp} {O L : List Addr} {σ : St} {ρ : List Sl}
theorem SR.wipe (s : SR R H0 O H L σ ρ) (vs : List Nat) : SR R H0 O H L (L2.wipe σ vs) (wipeR ρ vs) where
  same := s.same
  len := by rw [L2.wipe_length, wipeR_length, s.len]
  ol := s.ol
  od := s.od
  ld := s.ld
  lo := s.lo
  sl := fun i t v h1 h2 => by
    rw [wipeR_get] at h1
    rw [wipe_get] at h2
    split at h1
    · cases e : ρ[i]? with
      | none => rw [e] at h1; cases h1
      | some z => rw [e] at h1; cases h1; trivial
    · rename_i n
      rw [if_neg n] at h2
      exact s.sl i t v h1 h2
  ap := fun i j d e l h1 h2 h3 h4 => by
    rw [wipeR_get] at h1 h2
    split at h1
    · cases q : ρ[i]? with
      | none => rw [q] at h1; cases h1
      | some z => rw [q] at h1; cases h1
    · split at h2
      · cases q : ρ[j]? with
        | none => rw [q] at h2; cases h2
        | some z => rw [q] at h2; cases h2
      · rename_i n1 n2
        rw [wipe_get, if_neg n1] at h3
        rw [wipe_get, if_neg n2] at h4
        exact s.ap i j d e l h1 h2 h3 h4
/-- a slot is stored -/
theorem SR.set (s : SR R H0 O H L σ ρ) (i : Nat) {d : D} {v : V} (r : Rep R (vis H L) d v) : SR R H0 O H L (σ.set i (some v)) (ρ.set i (.dat d)) where
  same := s.same
  len := by rw [List.length_set, List.length_set, s.len]
  ol := s.ol
  od := s.od
  ld := s.ld
  lo := s.lo
  sl := fun j t w h1 h2 => by
    by_cases e : i = j
    · subst e
      rw [List.getElem?_set_self'] at h1 h2
      cases q : ρ[i]? with
      | none => rw [q] at h1; cases h1
      | some z =>
        rw [q] at h1
        cases h1
        cases q2 : σ[i]? with
        | none => rw [q2] at h2; cases h2
        | some z2 =>
          rw [q2] at h2
          cases h2
          exact ⟨v, rfl, r⟩
    · rw [List.getElem?_set_ne e] at h1 h2
      exact s.sl j t w h1 h2
  ap := fun j k d' e l h1 h2 h3 h4 => by
    by_cases ej : i = j
    · subst ej
      rw [List.getElem?_set_self'] at h1
      cases q : ρ[i]? with
      | none => rw [q] at h1; cases h1
      | some z => rw [q] at h1; cases h1
    · by_cases ek : i = k
      · subst ek
        rw [List.getElem?_set_self'] at h2
        cases q : ρ[i]? with
        | none => rw [q] at h2; cases h2
        | some z => rw [q] at h2; cases h2
      · rw [List.getElem?_set_ne ej] at h1 h3
        rw [List.getElem?_set_ne ek] at h2 h4
        exact s.ap j k d' e l h1 h2 h3 h4
/-- more is hidden: a new object -/
theorem SR.hide {H1 : Hp} {p : Addr} {o : HO} (s : SR R H0 O H L σ ρ) (e : Same H H1) (n : H p = none) (q : H1 p = some o) : SR R H0 O H1 (p :: L) σ ρ where
  same := s.same.trans e
  len := s.len
  ol := fun a h => List.mem_cons_of_mem _ (s.ol a h)
  od := s.od
  ld := fun a h => (List.mem_cons.mp h).elim (fun z => ⟨o, by rw [z]; exact q⟩) fun z => (s.ld a z).elim fun u w => ⟨u, e _ _ w⟩
  lo := fun a h => (List.mem_cons.mp h).elim (fun z => .inr (by rw [z]; exact s.same.free n)) fun z => s.lo a z
  sl := fun i t v h1 h2 => by
    have k := s.sl i t v h1 h2
    have g : Same (vis H L) (vis H1 (p :: L)) := vis_new e fun a h => (List.mem_cons.mp h).elim (fun z => .inr (by rw [z]; exact n)) fun z => .inl z
    cases t with
    | un => trivial
    | dat d =>
      obtain ⟨x, h3, h4⟩ := k
      exact ⟨x, h3, Rep.mono g _ _ h4⟩
    | own d =>
      obtain ⟨l, h3, h4, h5, h6⟩ := k
      exact ⟨l, h3, List.mem_cons_of_mem _ h4, h5, h6.mono g fun u => e _ _⟩
  ap := s.ap
/-- a slot's object is given free -/
theorem SR.frz (s : SR R H0 O H L σ ρ) (i : Nat) : ∃ L', (∀ a ∈ L', a ∈ L) ∧ SR R H0 O H L' σ (frzAt ρ i) ∧ (∀ a ∈ L, a ∈ L' ∨ (∃ xs, H a = some (.lst xs)) ∨ ∃ kvs, H a = some (.dK kvs)) ∧ (∀ j d, ρ[j]? = some (.own d) → j ≠ i → ∀ l, σ[j]? = some (some (.ref l)) → l ∈ L') := by
  unfold frzAt
  cases q : ρ[i]? with
  | none => exact ⟨L, fun _ h => h, s, fun _ h => .inl h, fun j d h1 _ l h2 => by
      obtain ⟨l', e1, e2, _⟩ := s.own h1
      rw [h2] at e1
      cases e1
      exact e2⟩
  | some t =>
    cases t with
    | own d =>
      obtain ⟨l, h1, h2, h3, h4⟩ := s.own q
      have keep : ∀ (j : Nat) (e : D), ρ[j]? = some (.own e) → j ≠ i → ∀ l', σ[j]? = some (some (.ref l')) → l' ∈ L.filter (fun a => decide (a ≠ l)) := fun j e g1 g2 l' g3 => by
        obtain ⟨l2, e1, e2, _⟩ := s.own g1
        rw [g3] at e1
        cases e1
        exact List.mem_filter.mpr ⟨e2, decide_eq_true fun z => g2 (s.ap j i e d l' g1 q g3 (by rw [z]; exact h1))⟩
      have sub : ∀ a ∈ L.filter (fun a => decide (a ≠ l)), a ∈ L := fun a h => (List.mem_filter.mp h).1
      refine ⟨L.filter (fun a => decide (a ≠ l)), sub, ?_, fun a ha => ?_, fun j e g1 g2 l' g3 => keep j e g1 g2 l' g3⟩
      rotate_left
      · by_cases z : a = l
        · subst z
          cases d <;> simp only [OwnAt] at h4
          · obtain ⟨xs, h5, _⟩ := h4
            exact .inr (.inl ⟨xs, h5⟩)
          · obtain ⟨kvs, h5, _⟩ := h4
            exact .inr (.inr ⟨kvs, h5⟩)
        · exact .inl (List.mem_filter.mpr ⟨ha, decide_eq_true z⟩)
      have nl : l ∉ L.filter (fun a => decide (a ≠ l)) := fun z => of_decide_eq_true (List.mem_filter.mp z).2 rfl
      have mo : Same (vis H L) (vis H (L.filter (fun a => decide (a ≠ l)))) := vis_mono (Same.refl _) sub
      refine ⟨s.same, by rw [List.length_set]; exact s.len, fun a h => List.mem_filter.mpr ⟨s.ol a h, decide_eq_true fun z => ?_⟩, s.od, fun a h => s.ld a (sub a h), fun a h => s.lo a (sub a h), fun j t v g1 g2 => ?_, fun j k d' e l' g1 g2 g3 g4 => ?_⟩
      · obtain ⟨o, w⟩ := s.od a h
        rw [z, h3] at w
        cases w
      · by_cases e : i = j
        · subst e
          rw [List.getElem?_set_self', q] at g1
          cases g1
          rw [h1] at g2
          cases g2
          refine ⟨.ref l, rfl, ?_⟩
          cases d <;> simp only [OwnAt] at h4
          · obtain ⟨xs, h5, h6⟩ := h4
            simp only [Rep]
            exact ⟨l, xs, rfl, vis_at h5 nl, Reps.mono mo _ _ h6⟩
          · obtain ⟨kvs, h5, h6, h7⟩ := h4
            simp only [Rep]
            exact ⟨l, kvs, rfl, vis_at h5 nl, h6, Reps.mono mo _ _ h7⟩
        · rw [List.getElem?_set_ne e] at g1
          have k := s.sl j t v g1 g2
          cases t with
          | un => trivial
          | dat d' =>
            obtain ⟨x, h5, h6⟩ := k
            exact ⟨x, h5, Rep.mono mo _ _ h6⟩
          | own d' =>
            obtain ⟨l2, h5, h6, h7, h8⟩ := k
            subst h5
            exact ⟨l2, rfl, keep j d' g1 (fun z => e z.symm) l2 g2, h7, h8.mono mo fun _ z => z⟩
      · by_cases ej : i = j
        · subst ej
          rw [List.getElem?_set_self', q] at g1
          cases g1
        · by_cases ek : i = k
          · subst ek
            rw [List.getElem?_set_self', q] at g2
            cases g2
          · rw [List.getElem?_set_ne ej] at g1
            rw [List.getElem?_set_ne ek] at g2
            exact s.ap j k d' e l' g1 g2 g3 g4
    | un =>
      have e : ρ.set i (thaw .un) = ρ := by
        obtain ⟨h1, h2⟩ := List.getElem?_eq_some_iff.mp q
        show ρ.set i .un = ρ
        rw [← h2, List.set_getElem_self]
      show ∃ L', _ ∧ SR R H0 O H L' σ (ρ.set i (thaw .un)) ∧ _ ∧ _
      rw [e]
      exact ⟨L, fun _ h => h, s, fun _ h => .inl h, fun j d h1 _ l h2 => by
        obtain ⟨l', e1, e2, _⟩ := s.own h1
        rw [h2] at e1
        cases e1
        exact e2⟩
    | dat d =>
      have e : ρ.set i (thaw (.dat d)) = ρ := by
        obtain ⟨h1, h2⟩ := List.getElem?_eq_some_iff.mp q
        show ρ.set i (.dat d) = ρ
        rw [← h2, List.set_getElem_self]
      show ∃ L', _ ∧ SR R H0 O H L' σ (ρ.set i (thaw (.dat d))) ∧ _ ∧ _
      rw [e]
      exact ⟨L, fun _ h => h, s, fun _ h => .inl h, fun j d h1 _ l h2 => by
        obtain ⟨l', e1, e2, _⟩ := s.own h1
        rw [h2] at e1
        cases e1
        exact e2⟩
theorem SR.frzs : ∀ (is : List Nat) {L : List Addr} {ρ : List Sl}, SR R H0 O H L σ ρ → ∃ L', (∀ a ∈ L', a ∈ L) ∧ SR R H0 O H L' σ (frzAll ρ is) ∧ (∀ a ∈ L, a ∈ L' ∨ (∃ xs, H a = some (.lst xs)) ∨ ∃ kvs, H a = some (.dK kvs))
  | [], L, ρ, s => ⟨L, fun _ h => h, s, fun _ h => .inl h⟩
  | i :: is, L, ρ, s => by
    obtain ⟨L1, h1, s1, m1, _⟩ := s.frz i
    obtain ⟨L2, h2, s2, m2⟩ := SR.frzs is s1
    exact ⟨L2, fun a h => h1 a (h2 a h), s2, fun a h => (m1 a h).elim (fun z => m2 a z) .inr⟩
end
/-! what names no list, dict or object may be read with more hidden -/
mutual
theorem still_rep {R : RC} {H : Hp} {L L' : List Addr} (m : ∀ a ∈ L, a ∈ L' ∨ (∃ xs, H a = some (.lst xs)) ∨ ∃ kvs, H a = some (.dK kvs)) : ∀ (d : D) (v : V), d.still = true → Rep R (vis H L') d v → Rep R (vis H L) d v
  | .non, _, _, r => by simp only [Rep] at r ⊢; exact r
  | .bl _, _, _, r => by simp only [Rep] at r ⊢; exact r
  | .int _, _, _, r => by simp only [Rep] at r ⊢; exact r
  | .str _, _, _, r => by simp only [Rep] at r ⊢; exact r
  | .tup ds, v, s, r => by
    simp only [Rep] at r ⊢
    obtain ⟨a, xs, h1, h2, h3⟩ := r
    refine ⟨a, xs, h1, ?_, stills_rep m ds xs (by simpa only [D.still] using s) h3⟩
    have old : ∀ o : HO, (∀ ys, o ≠ .lst ys) → (∀ ys, o ≠ .dK ys) → vis H L' a = some o → vis H L a = some o := fun o n1 n2 e => by
      have e' := e
      unfold vis at e
      split at e
      · cases e
      · rename_i na
        refine vis_at e fun z => ?_
        rcases m a z with q | ⟨ys, q⟩ | ⟨ys, q⟩
        · exact na q
        · rw [e] at q; exact n1 ys (Option.some.inj q)
        · rw [e] at q; exact n2 ys (Option.some.inj q)
    rcases h2 with (h2 | ⟨o, h2⟩) | h2
    · exact Or.inl (Or.inl (old _ (fun _ z => by cases z) (fun _ z => by cases z) h2))
    · exact Or.inl (Or.inr ⟨o, old _ (fun _ z => by cases z) (fun _ z => by cases z) h2⟩)
    · exact Or.inr h2
  | .lst _, _, s, _ => by simp [D.still] at s
  | .dic _ _, _, s, _ => by simp [D.still] at s
  | .obj _ _ _, _, s, _ => by simp [D.still] at s
  | .exc _ _ _, _, s, _ => by simp [D.still] at s
  | .scr _, _, s, _ => by simp [D.still] at s
theorem stills_rep {R : RC} {H : Hp} {L L' : List Addr} (m : ∀ a ∈ L, a ∈ L' ∨ (∃ xs, H a = some (.lst xs)) ∨ ∃ kvs, H a = some (.dK kvs)) : ∀ (ds : List D) (vs : List V), D.stills ds = true → Reps R (vis H L') ds vs → Reps R (vis H L) ds vs
  | [], _, _, r => by simp only [Reps] at r ⊢; exact r
  | d :: ds, _, s, r => by
    simp only [D.stills, Bool.and_eq_true] at s
    simp only [Reps] at r ⊢
    obtain ⟨v, t, h1, h2, h3⟩ := r
    exact ⟨v, t, h1, still_rep m d v s.1 h2, stills_rep m ds t s.2 h3⟩
end
end NL

end
section
set_option Elab.async false
set_option linter.all false
set_option maxRecDepth 100000
set_option maxHeartbeats 4000000
namespace NL
open PySem PySem.Spec PyProof.Rows L2 L2H HotX
/-! ### walks while an exception is handled -/
section
variable {prog : Program} {w : World} {A : Around} {E : Value → Shared → Prop} {s : Shared} {x1 : Addr}
theorem listEndHot {I l : Addr} {k : Nat} {vs : Array Value} {Q : Option Value → Shared → Prop} (hot : HotAt A x1 s.heap) (ne : x1 ≠ I) (hI : s.heap.IsListIter I l k) (hl : s.heap.IsList l vs) (hx : vs[k]? = none)
    (fin : ∀ h', (∀ b o, b ≠ I → s.heap.get? b = some o → h'.get? b = some o) → Q none { s with heap := h' }) : wpAny (model prog w) A (pyNext (.ref I)) Q E s := by
  obtain ⟨oI, gI, cI, dI⟩ := id hI; obtain ⟨oL, gL, _, nL, dL⟩ := hl; obtain ⟨hh, o1, v1, g1, d1, c1⟩ := hot
  unfold pyNext
  refine wpAny_bind (wpAny_attempt (wpAny_callSpecial?_slot (name := Str.ofString "__next__") hI.typeIs slot_listiter_next (wpAny_call_entry slot_listiter_next hI.typeIs entry_listiter_next ?_ (args_listiter_next _))))
  show wpAny _ _ (field (.ref I) 0 >>= _) _ _ s
  refine wpAny_bind (wpAny_field gI dI (x := .ref l) rfl ?_)
  show wpAny _ _ (if (Value.ref l == Value.none) = true then _ else _) _ _ s; rw [if_neg (show ¬ ((Value.ref l == Value.none) = true) from Bool.false_ne_true)]
  show wpAny _ _ (field (.ref I) 1 >>= _) _ _ s
  refine wpAny_bind (wpAny_field gI dI (x := .int k 0) rfl ?_)
  show wpAny _ _ (seqItems? (.ref l) >>= _) _ _ s
  refine wpAny_bind (wpAny_seqItems gL dL ?_); simp only [Int.toNat_natCast, hx]
  refine wpAny_bind (wpAny_rule (wpAny_bind (wpAny_setField gI dI (by simp) ?_)))
  have n1 : ∀ h', Heap.SameBut I s.heap h' → h'.get? x1 = some o1 := fun h' sb => (sb.2 x1 ne).trans g1
  generalize hh1 : (s.heap.update I _) = h1
  have sb1 : Heap.SameBut I s.heap h1 := by rw [← hh1]; exact Heap.SameBut.update ..
  have k1 := n1 h1 sb1
  show wpAny _ _ (newExc (.type "StopIteration") [] >>= _) _ _ _; refine wpAny_bind ?_; simp only [newExc, newTuple]
  refine wpAny_bind (wpAny_newObj_type ?_ (by size_fits)); refine wpAny_bind (m := firstArgMember _ _) (wpAny_of_eq (a := Value.none) (by first | rfl | (simp only [firstArgMember]; rfl)) ?_)
  refine wpAny_newObj_type ?_ (by size_fits)
  refine raiseNew_hot ⟨hh, o1, v1, Heap.get?_push_of_some _ (Heap.get?_push_of_some _ k1), d1, c1⟩ (Nat.ne_of_lt (Heap.lt_size (Heap.get?_push_of_some _ k1))) (Heap.get?_push_size _ rfl) rfl (by first | (simp; done) | (simp; omega)) ?_
  refine wpAny_bind (wpAny_isInstance (T := "StopIteration") (b := true) ⟨_, Heap.get?_update_self _ (Heap.get?_push_size _ rfl) rfl, rfl⟩ isSubtype_stop (wpAny_pure (fin _ fun b o hb e => ?_)))
  have e1 : h1.get? b = some o := (sb1.2 b hb).trans e
  rw [Heap.get?_update_other _ _ (Nat.ne_of_gt (Heap.lt_size (Heap.get?_push_of_some _ e1)))]
  exact Heap.get?_push_of_some _ (Heap.get?_push_of_some _ e1)
theorem tupEndHot {I l : Addr} {k : Nat} {vs : Array Value} {Q : Option Value → Shared → Prop} (hot : HotAt A x1 s.heap) (ne : x1 ≠ I) (hI : s.heap.IsTupleIter I l k) (hl : s.heap.IsTuple l vs) (hx : vs[k]? = none)
    (fin : ∀ h', (∀ b o, b ≠ I → s.heap.get? b = some o → h'.get? b = some o) → Q none { s with heap := h' }) : wpAny (model prog w) A (pyNext (.ref I)) Q E s := by
  obtain ⟨oI, gI, cI, dI⟩ := id hI; obtain ⟨oL, gL, _, nL, dL⟩ := hl; obtain ⟨hh, o1, v1, g1, d1, c1⟩ := hot
  unfold pyNext
  refine wpAny_bind (wpAny_attempt (wpAny_callSpecial?_slot (name := Str.ofString "__next__") hI.typeIs F.slot_tuple_iterator_next (wpAny_call_entry F.slot_tuple_iterator_next hI.typeIs F.entry_tuple_iterator_next ?_ (F.args_tuple_iterator_next_1 _))))
  show wpAny _ _ (field (.ref I) 0 >>= _) _ _ s
  refine wpAny_bind (wpAny_field gI dI (x := .ref l) rfl ?_)
  show wpAny _ _ (if (Value.ref l == Value.none) = true then _ else _) _ _ s; rw [if_neg (show ¬ ((Value.ref l == Value.none) = true) from Bool.false_ne_true)]
  show wpAny _ _ (field (.ref I) 1 >>= _) _ _ s
  refine wpAny_bind (wpAny_field gI dI (x := .int k 0) rfl ?_)
  show wpAny _ _ (seqItems? (.ref l) >>= _) _ _ s
  refine wpAny_bind (wpAny_seqItems gL dL ?_); simp only [Int.toNat_natCast, hx]
  refine wpAny_bind (wpAny_rule (wpAny_bind (wpAny_setField gI dI (by simp) ?_)))
  have n1 : ∀ h', Heap.SameBut I s.heap h' → h'.get? x1 = some o1 := fun h' sb => (sb.2 x1 ne).trans g1
  generalize hh1 : (s.heap.update I _) = h1
  have sb1 : Heap.SameBut I s.heap h1 := by rw [← hh1]; exact Heap.SameBut.update ..
  have k1 := n1 h1 sb1
  show wpAny _ _ (newExc (.type "StopIteration") [] >>= _) _ _ _; refine wpAny_bind ?_; simp only [newExc, newTuple]
  refine wpAny_bind (wpAny_newObj_type ?_ (by size_fits)); refine wpAny_bind (m := firstArgMember _ _) (wpAny_of_eq (a := Value.none) (by first | rfl | (simp only [firstArgMember]; rfl)) ?_)
  refine wpAny_newObj_type ?_ (by size_fits)
  refine raiseNew_hot ⟨hh, o1, v1, Heap.get?_push_of_some _ (Heap.get?_push_of_some _ k1), d1, c1⟩ (Nat.ne_of_lt (Heap.lt_size (Heap.get?_push_of_some _ k1))) (Heap.get?_push_size _ rfl) rfl (by first | (simp; done) | (simp; omega)) ?_
  refine wpAny_bind (wpAny_isInstance (T := "StopIteration") (b := true) ⟨_, Heap.get?_update_self _ (Heap.get?_push_size _ rfl) rfl, rfl⟩ isSubtype_stop (wpAny_pure (fin _ fun b o hb e => ?_)))
  have e1 : h1.get? b = some o := (sb1.2 b hb).trans e
  rw [Heap.get?_update_other _ _ (Nat.ne_of_gt (Heap.lt_size (Heap.get?_push_of_some _ e1)))]
  exact Heap.get?_push_of_some _ (Heap.get?_push_of_some _ e1)
end
/-- the handled exception is none of the walk's own objects -/
theorem hot_ne {X : Cx} (c : HotC X) {pins : List (Addr × Obj)} {σ : St} {H : Hp} {s : Shared} (I : Inv X pins σ H s) {b : Addr} (f : FpOk X pins H b) : ∃ x1, HotAt X.A x1 s.heap ∧ x1 ≠ b := by
  obtain ⟨p, ⟨h1, v1, e1, c1⟩, hp⟩ := c
  exact ⟨p.1, ⟨h1, p.2, v1, (I.pin p (List.mem_append_left _ hp)).1, e1, c1⟩, f.2.2.2.2.2 p (List.mem_append_left _ hp)⟩
section
variable {P : Program} {w : World} {K : PySem.W.Frag} {tg : Expr}
theorem turnL_hot (a it : Addr) : TurnH P w K tg (Itl K a) [it] it (fun i h => h.IsListIter it a i) := by
  have T := turn_list (P := P) (w := w) (K := K) (tg := tg) a it
  refine ⟨T.mem, T.obj, T.keep, ?_, ?_, T.self⟩
  · rintro X rfl rfl rfl hc i pins s σ H E I hf st ⟨xs, x, hq, hx⟩
    obtain ⟨its, rv, p, hz⟩ := I.list hq
    obtain ⟨u, hu, ru⟩ := rv.get hx
    obtain ⟨f0, f1, f2, f3, f4, f5⟩ := hf it (List.mem_singleton.mpr rfl)
    refine wpAny_pyNext_list_item st p.isList (x := u) (by simpa using hu) fun h2 st2 sb => ?_
    have J : Inv X pins σ H { s with heap := h2 } := I.turned (t' := s.toks) (fun b o hb e => (sb.2 b hb).trans e) f0 f1 f3 f4 f5
    obtain ⟨ob, g, cl, dt⟩ := id st2
    refine ⟨u, rfl, go_of (s := { s with heap := h2 }) g cl dt (by decide) ⟨x, H, J, ru, ⟨rfl, fun ys hy => ?_⟩, st2, fun b hb => (hf b hb).1⟩⟩
    rw [I.list_inj hy hq]
    exact hx
  · rintro X rfl rfl rfl hc i pins s σ H E I hf st ⟨xs, hq, hx⟩
    obtain ⟨its, rv, p, hz⟩ := I.list hq
    have f := hf it (List.mem_singleton.mpr rfl)
    obtain ⟨x1, hot, ne⟩ := hot_ne hc I f
    obtain ⟨f0, f1, f2, f3, f4, f5⟩ := f
    have hl := rv.length
    exact listEndHot hot ne st p.isList (by simp; omega) fun h2 k => ⟨rfl, I.turned (t' := s.toks) k f0 f1 f3 f4 f5⟩
theorem turnT_hot (a it : Addr) : TurnH P w K tg (Itt K a) [it] it (fun i h => h.IsTupleIter it a i) := by
  have T := turn_tuple (P := P) (w := w) (K := K) (tg := tg) a it
  refine ⟨T.mem, T.obj, T.keep, ?_, ?_, T.self⟩
  · rintro X rfl rfl rfl hc i pins s σ H E I hf st ⟨xs, x, hq, hx⟩
    obtain ⟨its, rv, p, hz⟩ := I.tuple hq
    obtain ⟨u, hu, ru⟩ := rv.get hx
    obtain ⟨f0, f1, f2, f3, f4, f5⟩ := hf it (List.mem_singleton.mpr rfl)
    refine wpAny_pyNext_tuple_item st (show s.heap.IsTuple a its.toArray from p) (x := u) (by simpa using hu) fun h2 st2 sb => ?_
    have J : Inv X pins σ H { s with heap := h2 } := I.turned (t' := s.toks) (fun b o hb e => (sb.2 b hb).trans e) f0 f1 f3 f4 f5
    obtain ⟨ob, g, cl, dt⟩ := id st2
    refine ⟨u, rfl, go_of (s := { s with heap := h2 }) g cl dt (by decide) ⟨x, H, J, ru, ⟨rfl, fun ys hy => ?_⟩, st2, fun b hb => (hf b hb).1⟩⟩
    rw [I.tuple_inj hy hq]
    exact hx
  · rintro X rfl rfl rfl hc i pins s σ H E I hf st ⟨xs, hq, hx⟩
    obtain ⟨its, rv, p, hz⟩ := I.tuple hq
    have f := hf it (List.mem_singleton.mpr rfl)
    obtain ⟨x1, hot, ne⟩ := hot_ne hc I f
    obtain ⟨f0, f1, f2, f3, f4, f5⟩ := f
    have hl := rv.length
    exact tupEndHot hot ne st (show s.heap.IsTuple a its.toArray from p) (by simp; omega) fun h2 k => ⟨rfl, I.turned (t' := s.toks) k f0 f1 f3 f4 f5⟩
end
theorem pi_seqH {X : Cx} {tg l : Expr} {tl : TE} (hl : PE X l tl) : PIH X tg l (iSeq X.K tl) := by
  constructor
  intro pins s σ H R I h
  refine thn (hl.run pins s σ H _ I h) ?_
  rintro v s1 ⟨x, H1, I1, r1, a, rfl, q⟩
  cases r1
  have new : ∀ b ∈ [s1.heap.objs.size], FpOk X pins H1 b := fun b hb => by
    rw [List.mem_singleton] at hb
    rw [hb]
    exact I1.fpOk (Nat.le_refl _) (I1.hok.fresh (Nat.le_refl _))
  rcases q with ⟨⟨xs, hq⟩, q⟩ | ⟨⟨xs, hq⟩, q⟩
  · obtain ⟨its, rv, p, hz⟩ := I1.list hq
    exact wpAny_pyIter_list p.isList ⟨_, _, _, _, H1, rfl, I1.kept (t' := s1.toks) (fun b o e => Heap.get?_push_of_some _ e), turnL_hot a _, ⟨_, Heap.get?_push_size _ rfl, rfl, rfl⟩, new, q⟩
  · obtain ⟨its, rv, p, hz⟩ := I1.tuple hq
    exact wpAny_pyIter_tuple (show s1.heap.IsTuple a its.toArray from p) ⟨_, _, _, _, H1, rfl, I1.kept (t' := s1.toks) (fun b o e => Heap.get?_push_of_some _ e), turnT_hot a _, ⟨_, Heap.get?_push_size _ rfl, rfl, rfl⟩, new, q⟩
end NL
namespace NL
open PySem PySem.Spec PyProof.Rows L2 L2H HotX
theorem pi_range2H {X : Cx} {tg a b : Expr} {ta : TA} {p pos : Pos} (hg : Gl X "range") (hm : X.mg "range" = none) (ha : PA X [a, b] ta) (hs : starEach [a, b] X.env = [(false, eval a X.env), (false, eval b X.env)]) (hs2 : starEach [b] X.env = [(false, eval b X.env)]) :
    PIH X tg (.Call (.Name "range" p) [a, b] [] pos) (iRng2 ta) := by
  constructor
  intro pins s σ H R I h
  refine Call_ (ld_blt I hg hm boot_range (PyProof.Rows.callWith_type1 (thn (ha.run pos pins s σ H _ I h) ?_) (by rw [hs, hs2]) (by rw [hs2]; rfl)))
  rintro us s1 ⟨vs, H1, I1, r1, i, j, e, ⟨q1, q2, q3, q4⟩, q⟩
  subst e
  obtain ⟨u, v, rfl, ⟨t, rfl⟩, ⟨t', rfl⟩⟩ := vals2 r1
  exact call_range_2 (range_itH I1 q1 q2 q3 q4 q)
/-! ### comprehensions while an exception is handled: the block keeps the frame's pins -/
abbrev blkH (X : Cx) (s : Shared) (H : Hp) (scope : Scope) (cenv : Env) (fp : List Addr) : Cx := { X.blk s H scope cenv fp with pn := X.pn }
section
variable {X : Cx}
theorem blkH_start {pins : List (Addr × Obj)} {σ : St} {H : Hp} {s : Shared} {scope : Scope} {own : List (Str × Nat)} {fp : List Addr} (I : Inv X pins σ H s) (ok : BlkOk X.N X.env.scope scope own) (hN : X.N.Nodup) (hfp : ∀ b ∈ fp, FpOk X pins H b ∧ b < s.heap.objs.size) :
    Inv (blkH X s H scope (compEnvC scope (cellsFrom (s.heap.objs.size + 1) scope.names (cloFrom X.env.cells scope.names [])) s.heap.objs.size X.env) fp) [] (wipe σ (own.map (·.2))) H { s with heap := pushCells (s.heap.push { cls := .type "dict", data := .dict #[] }) scope.names } := by
  have J := block_start I ok hN hfp
  refine ⟨⟨J.ok.mod, J.ok.kind, J.ok.glob, J.ok.blt, J.ok.above, J.ok.inj, J.ok.has, J.ok.cab, J.ok.hd, J.ok.frames, J.ok.stk, J.ok.exf, J.ok.bs, J.ok.bsz, J.ok.noex, J.ok.exfs, J.ok.funs, J.ok.frf⟩, J.os, J.bare, J.base, J.loc, J.cell, J.free, J.freeC, fun p hp => ?_, J.hok, J.len⟩
  have hp' : p ∈ X.pn := by simpa using hp
  obtain ⟨a1, a2, a3, a4, a5⟩ := I.pin p (List.mem_append_left _ hp')
  refine ⟨pushCells_keeps _ _ _ _ (Heap.get?_push_of_some _ a1), a2, Nat.ne_of_lt (Heap.lt_size a1), fun z => ?_, a5⟩
  rcases List.mem_cons.mp (I.stkSub p.1 z) with z | z
  · exact a3 z
  · exact a4 z
theorem hotBlk (c : HotC X) (s : Shared) (H : Hp) (scope : Scope) (cenv : Env) (fp : List Addr) : HotC (blkH X s H scope cenv fp) := c
theorem lcHot {pins : List (Addr × Obj)} {s : Shared} {σ : St} {H : Hp} {Q : VK} {elt tg iter : Expr} {ifs : List Expr} {scope : Scope} {own : List (Str × Nat)} {pos pos' : Pos} {wi : TI} {g : TG} {tt : TT} {te : TE} {use : Option (Value → Sem Unit)} {Qf : Value → Shared → Prop}
    (hc : HotC X) (hN : X.N.Nodup) (I : Inv X pins σ H s) (hi : PIH X tg iter wi) (ok : BlkOk X.N X.env.scope scope own)
    (hg : ∀ (s : Shared) (H : Hp) (C : Addr) (cl : List (Str × Addr)) (fp : List Addr), PG (blkH X s H scope (compEnvC scope cl C X.env) fp) tg g) (ht : ∀ (s : Shared) (H : Hp) (C : Addr) (cl : List (Str × Addr)) (fp : List Addr), PTs (blkH X s H scope (compEnvC scope cl C X.env) fp) ifs tt)
    (he : ∀ (s : Shared) (H : Hp) (C : Addr) (cl : List (Str × Addr)) (fp : List Addr), PE (blkH X s H scope (compEnvC scope cl C X.env) fp) elt te) (hs : ∀ x, foldedSetIterable iter X.env x = pure x)
    (h : tLc wi g tt te (own.map (·.2)) σ H Q)
    (last : ∀ D C s' m H', Inv X pins σ H' s' → Q (.ref D) H' → s'.heap.Ns C m → FpOk X pins H' C → compPost (model X.prog X.w) X.A X.xe use Qf (.ref D) C (.ok .next) s') :
    wpAny (model X.prog X.w) X.A (comprehension (.ListComp elt [⟨tg, iter, ifs, 0⟩] scope pos) scope X.env pos' (newList []) false (eval iter X.env) use) Qf X.xe s := by
  have cells : ∀ y ∈ scope.names, y.2 = .free → ∃ c, X.env.cells.lookup y.1 = some c := fun y hy e => (ok.free y hy e).elim (fun k => I.ok.has _ (.inl k)) fun k => I.ok.has _ (.inr k)
  refine wpAny_comprehension_free (use := use) rfl hs (closure_ok cells) ok.kind (fun y hy e => by rw [ok.uniq y hy, e]) (thn (hi.run pins s σ H _ I h) fun xv sA hx => thn hx ?_)
  rintro itv s2 ⟨it, fp, tn, J, H2, rfl, I2, T, st2, f2, q⟩
  refine wpAny_newObj_type (newEnv_comp ?_) (by show 0 ≤ sizeLine; decide)
  generalize eD : s2.heap.objs.size = D
  have nD : H2 D = none := I2.hok.fresh (Nat.le_of_eq eD)
  obtain ⟨W, ⟨m0, w0⟩, turn⟩ := q D nD
  generalize e3 : ({ s2 with heap := s2.heap.push { cls := .type "list", data := .seq ([] : List Value).toArray } } : Shared) = s3
  have I3 : Inv X pins σ (upd H2 D (.lst [])) s3 := by
    rw [← e3]; refine I2.laid (t' := s2.toks) (fun b o e => Heap.get?_push_of_some _ e) (Nat.le_of_eq eD) ⟨Nat.zero_le _, [], 0, .nil, ?_⟩
    rw [← eD]; exact Heap.get?_push_size _ rfl
  have h3 : s3.heap = s2.heap.push { cls := .type "list", data := .seq ([] : List Value).toArray } := by rw [← e3]
  have f3 : ∀ b ∈ fp, FpOk X pins (upd H2 D (.lst [])) b ∧ b < s3.heap.objs.size := fun b hb => by
    obtain ⟨o, eo, _⟩ := T.obj _ _ st2 b hb
    have lt := Heap.lt_size eo
    refine ⟨⟨?_, (f2 b hb).2⟩, by rw [h3, Heap.size_push]; exact Nat.lt_succ_of_lt lt⟩
    rw [upd_ne (by rw [← eD]; exact Nat.ne_of_lt lt)]; exact (f2 b hb).1
  have st3 : tn 0 s3.heap := T.keep _ _ _ st2 fun b _ o e => by rw [h3]; exact Heap.get?_push_of_some _ e
  have I4 := blkH_start I3 ok hN f3
  have pg := hg s3 (upd H2 D (.lst [])) s3.heap.objs.size (cellsFrom (s3.heap.objs.size + 1) scope.names (cloFrom X.env.cells scope.names [])) fp
  have pt := ht s3 (upd H2 D (.lst [])) s3.heap.objs.size (cellsFrom (s3.heap.objs.size + 1) scope.names (cloFrom X.env.cells scope.names [])) fp
  have pe := he s3 (upd H2 D (.lst [])) s3.heap.objs.size (cellsFrom (s3.heap.objs.size + 1) scope.names (cloFrom X.env.cells scope.names [])) fp
  show codeAny _ _ (.compStart (.ListComp elt [⟨tg, iter, ifs, 0⟩] scope pos) 0 (.ref it) (.ref D) (compEnvC scope (cellsFrom (s3.heap.objs.size + 1) scope.names (cloFrom X.env.cells scope.names [])) s3.heap.objs.size X.env)) (compPost (model X.prog X.w) X.A X.xe use Qf (.ref D) s3.heap.objs.size) { s3 with heap := pushCells (s3.heap.push { cls := .type "dict", data := .dict #[] }) scope.names }
  have nfp : ∀ b ∈ fp, (upd H2 D (.lst [])) b = none := fun b hb => (f3 b hb).1.1
  generalize ece : compEnvC scope (cellsFrom (s3.heap.objs.size + 1) scope.names (cloFrom X.env.cells scope.names [])) s3.heap.objs.size X.env = ce at I4 pg pt pe ⊢
  have cL : ce.locals = s3.heap.objs.size := by rw [← ece]; rfl
  generalize eH3 : upd H2 D (.lst []) = H3 at I3 I4 pg pt pe w0 nfp f3
  generalize e4 : ({ s3 with heap := pushCells (s3.heap.push { cls := .type "dict", data := .dict #[] }) scope.names } : Shared) = s4 at I4 ⊢
  have st4 : tn 0 s4.heap := T.keep _ _ _ st3 fun b _ o e => by rw [← e4]; exact pushCells_keeps _ _ _ _ (Heap.get?_push_of_some _ e)
  have pinfp : ∀ b ∈ fp, ∀ p ∈ X.pn, p.1 ≠ b := fun b hb p hp => (f3 b hb).1.2.2.2.2.2 p (List.mem_append_left _ hp)
  have stat : ∀ {σ' : St} {H' : Hp} {s' : Shared}, Inv (blkH X s3 H3 scope ce fp) [] σ' H' s' → (∀ b ∈ fp, H' b = none) → ∀ b ∈ fp, FpOk (blkH X s3 H3 scope ce fp) [] H' b := fun {σ' H' s'} I' hn b hb =>
    ⟨hn b hb, (I'.ok.exf b hb).1, I'.ok.exfs b hb, .inl hb, (fun x c e => (I'.ok.exf b hb).2 x c e), fun p hp => pinfp b hb p (by simpa using hp)⟩
  have hcB : HotC (blkH X s3 H3 scope ce fp) := hotBlk hc s3 H3 scope ce fp
  have loop : codeAny (model X.prog X.w) X.A (.compLoop (.ListComp elt [⟨tg, iter, ifs, 0⟩] scope pos) 0 (.ref it) (.ref D) ce) (compPost (model X.prog X.w) X.A X.xe use Qf (.ref D) s3.heap.objs.size) s4 := by
    refine compLoop_any (fun k s' => ∃ i H', Inv (blkH X s3 H3 scope ce fp) [] (wipe σ (own.map (·.2))) H' s' ∧ tn i s'.heap ∧ (∀ b ∈ fp, H' b = none) ∧ W i k H') ?_ m0 ⟨0, H3, I4, st4, nfp, w0⟩
    rintro k s5 ⟨i, H5, I5, st5, n5, w5⟩
    rcases turn i k H5 w5 with ⟨stop, qq⟩ | ⟨go, Nx, hNx, step⟩
    · refine thnF (T.done (blkH X s3 H3 scope ce fp) rfl rfl rfl hcB i [] s5 _ H5 (fun _ _ => False) I5 (stat I5 n5) st5 stop) ?_
      rintro r s6 ⟨rfl, I6⟩
      have I7 : Inv X pins σ H5 s6 := I3.call' (ch := fp) I6.os I6.base I6.hok I6.bare fun b hb => let f := (f3 b hb).1; ⟨f.2.2.2.1, f.2.1, f.2.2.2.2.1, f.2.2.2.2.2⟩
      have z : H5 ce.locals = none := I6.free
      obtain ⟨m, hn, _⟩ := I6.loc
      replace hn : s6.heap.Ns ce.locals m := hn
      rw [cL] at z hn
      exact last D s3.heap.objs.size s6 m H5 I7 qq hn (I3.fpOk (Nat.le_refl _) z)
    · refine thnF (T.item (blkH X s3 H3 scope ce fp) rfl rfl rfl hcB i [] s5 _ H5 (fun _ _ => False) I5 (stat I5 n5) st5 go) ?_
      rintro r s6 ⟨u, rfl, h6⟩
      refine thnF h6 ?_
      rintro _ s7 ⟨x, H7, I7, r7, y7, st7, n7⟩
      refine thnF (pg.run _ s7 _ H7 x u _ (I7.pinned (stat I7 n7) (T.obj _ _ st7)) r7 (step x H7 y7)) ?_
      rintro _ s8 ⟨σ8, H8, I8, hw8, q8⟩
      refine thnF (pt.run _ s8 σ8 H8 _ I8 q8) ?_
      rintro b s9 ⟨H9, I9, q9⟩
      have again : ∀ {s' : Shared} {H' : Hp}, Inv (blkH X s3 H3 scope ce fp) ([] ++ pinsAt fp s7.heap) σ8 H' s' → Nx H' → ∃ m, m < k ∧ ∃ i H', Inv (blkH X s3 H3 scope ce fp) [] (wipe σ (own.map (·.2))) H' s' ∧ tn i s'.heap ∧ (∀ b ∈ fp, H' b = none) ∧ W i m H' := fun {s' H'} I' nx => by
        obtain ⟨m', hm, w'⟩ := hNx H' nx
        have at7 : ∀ b ∈ fp, ∀ o, s7.heap.get? b = some o → s'.heap.get? b = some o ∧ H' b = none := fun b hb o e => by
          have z := I'.pin (b, o) (List.mem_append_right _ (List.mem_append_right _ (mem_pinsAt hb e)))
          exact ⟨z.1, z.2.1⟩
        refine ⟨m', hm, i + 1, H', (I'.unpinned (pins := [])).weak (by rw [← hw8, wipe_length]) (fun j v e => by rw [← hw8] at e; exact (wipe_some e).1), T.keep _ _ _ st7 fun b hb o e => (at7 b hb o e).1, fun b hb => ?_, w'⟩
        obtain ⟨o, e, _⟩ := T.obj _ _ st7 b hb
        exact (at7 b hb o e).2
      cases b with
      | false => simp only [Bool.false_eq_true, if_false] at q9 ⊢; exact again I9 q9
      | true =>
        simp only [if_true] at q9 ⊢
        refine thnF (pe.run _ s9 σ8 H9 _ I9 q9) ?_
        rintro z s10 ⟨yv, H10, I10, r10, acc, hD10, hz10, nx⟩
        exact app_ok (X := blkH X s3 H3 scope ce fp) I10 hD10 hz10 r10 fun s11 I11 => again I11 nx
  exact codeAny_compStart_list loop (T.self X.A 0 _ _ _ st4 loop)
theorem pe_lcHot {elt tg iter : Expr} {ifs : List Expr} {scope : Scope} {own : List (Str × Nat)} {pos : Pos} {wi : TI} {g : TG} {tt : TT} {te : TE} (hc : HotC X) (hN : X.N.Nodup) (hi : PIH X tg iter wi) (ok : BlkOk X.N X.env.scope scope own)
    (hg : ∀ (s : Shared) (H : Hp) (C : Addr) (cl : List (Str × Addr)) (fp : List Addr), PG (blkH X s H scope (compEnvC scope cl C X.env) fp) tg g) (ht : ∀ (s : Shared) (H : Hp) (C : Addr) (cl : List (Str × Addr)) (fp : List Addr), PTs (blkH X s H scope (compEnvC scope cl C X.env) fp) ifs tt)
    (he : ∀ (s : Shared) (H : Hp) (C : Addr) (cl : List (Str × Addr)) (fp : List Addr), PE (blkH X s H scope (compEnvC scope cl C X.env) fp) elt te) (hs : ∀ x, foldedSetIterable iter X.env x = pure x) :
    PE X (.ListComp elt [⟨tg, iter, ifs, 0⟩] scope pos) (tLc wi g tt te (own.map (·.2))) := by
  constructor
  intro pins s σ H Q I h
  rw [eval_ListComp]
  refine lcHot hc hN I hi ok hg ht he hs h fun D C s' m H' J q hn f => ⟨m, hn, fun h2 sb => ?_⟩
  exact ⟨.ref D, H', J.turned (t' := s'.toks) (fun b o hb e => (sb.2 b hb).trans e) f.1 f.2.1 f.2.2.2.1 f.2.2.2.2.1 f.2.2.2.2.2, rfl, q⟩
theorem ps_setLcH {i : Nat} {y : Str} {py : Pos} {elt tg iter : Expr} {ifs : List Expr} {scope : Scope} {own : List (Str × Nat)} {pos spos : Pos} {wi : TI} {g : TG} {tt : TT} {te : TE} (hc : HotC X) (hN : X.N.Nodup) (hy : X.N[i]? = some y) (hyl : X.env.scope.names.lookup y = some .local)
    (hsw : swapsWith (.ListComp elt [⟨tg, iter, ifs, 0⟩] scope pos) (some (.Name y py)) spos.line X.env = pure true) (hi : PIH X tg iter wi) (ok : BlkOk X.N X.env.scope scope own)
    (hg : ∀ (s : Shared) (H : Hp) (C : Addr) (cl : List (Str × Addr)) (fp : List Addr), PG (blkH X s H scope (compEnvC scope cl C X.env) fp) tg g) (ht : ∀ (s : Shared) (H : Hp) (C : Addr) (cl : List (Str × Addr)) (fp : List Addr), PTs (blkH X s H scope (compEnvC scope cl C X.env) fp) ifs tt)
    (he : ∀ (s : Shared) (H : Hp) (C : Addr) (cl : List (Str × Addr)) (fp : List Addr), PE (blkH X s H scope (compEnvC scope cl C X.env) fp) elt te) (hs : ∀ x, foldedSetIterable iter X.env x = pure x) :
    PS X (.Assign [.Name y py] (.ListComp elt [⟨tg, iter, ifs, 0⟩] scope pos) spos) (tAsg (tLc wi g tt te (own.map (·.2))) (gName i)) := by
  constructor
  intro pins s σ H D I h
  rw [exec_Assign_Name_used _ _ _ _ hsw]
  refine wpAny_bind (wpAny_standAt (wpAny_bind ?_))
  show wpAny _ X.A (do let _ ← comprehension (.ListComp elt [⟨tg, iter, ifs, 0⟩] scope pos) scope X.env (firstIterPos [⟨tg, iter, ifs, 0⟩] pos) (newList []) false (eval iter X.env) (some (assign (.Name y py) X.env))) _ _ s
  have h : tLc wi g tt te (own.map (·.2)) σ H (fun x H1 => gName i x σ H1 D.nx) := h
  refine wpAny_bind (thn (lcHot (Qf := fun _ s' => SP X pins D .next s') hc hN I hi ok hg ht he hs h ?_) fun _ s' hq => wpAny_pure (wpAny_pure hq))
  rintro L C s' m H' I' q hn ⟨f0, f1, f2, f3, f4, f5⟩
  show wpAny _ _ (assign (.Name y py) X.env (.ref L)) _ _ _
  refine wpAny_assign_Name (store_ok2 (v := V.ref L) I' hN hy (.inl hyl) rfl ?_ (.inr hyl))
  rintro s2 I2 ⟨a, sb, ha⟩
  have haC : C ≠ a := by
    rcases ha with z | z
    · rw [z]; exact f1
    · exact fun e => f4 y a z e.symm
  exact ⟨m, hn.sameBut sb haC, fun h3 sb3 => ⟨_, H', I2.turned (t' := s2.toks) (fun b o hb e => (sb3.2 b hb).trans e) f0 f1 f3 f4 f5, q⟩⟩
end
end NL

end
section
set_option Elab.async false
set_option linter.all false
set_option maxRecDepth 100000
namespace NL
open PySem PySem.Spec PyProof.Rows L2
abbrev SndE (R : RC) (W : WX) (t : TE) (e : List Sl → Res) : Prop := ∀ (σ : St) (H : Hp) (Q : VK) (ρ : List Sl) (L : List Addr) (H0 : Hp) (O : List Addr), SR R H0 O H L σ ρ → Fin R L H (WE W σ) (e ρ) Q → t σ H Q
abbrev SndT (R : RC) (W : WX) (t : TT) (e : List Sl → Out Bool) : Prop := ∀ (σ : St) (H : Hp) (Q : Bool → Hp → Prop) (ρ : List Sl) (L : List Addr) (H0 : Hp) (O : List Addr), SR R H0 O H L σ ρ → FinP R L H (WE W σ) (e ρ) Q → t σ H Q
abbrev SndA (R : RC) (W : WX) (t : TA) (e : List Sl → Out (List D)) : Prop := ∀ (σ : St) (H : Hp) (Q : List V → Hp → Prop) (ρ : List Sl) (L : List Addr) (H0 : Hp) (O : List Addr), SR R H0 O H L σ ρ →
  FinP R L H (WE W σ) (e ρ) (fun ds H1 => ∀ vs, Reps R (vis H1 L) ds vs → Q vs H1) → t σ H Q
abbrev SndO (R : RC) (W : WX) (t : TO) (e : List Sl → Out (Option Int)) : Prop := ∀ (σ : St) (H : Hp) (Q : Option Int → Hp → Prop) (ρ : List Sl) (L : List Addr) (H0 : Hp) (O : List Addr), SR R H0 O H L σ ρ → FinP R L H (WE W σ) (e ρ) Q → t σ H Q
abbrev SndI (R : RC) (W : WX) (t : TI) (e : List Sl → Out (List D)) : Prop := ∀ (σ : St) (H : Hp) (Q : L2.It → Hp → Prop) (ρ : List Sl) (L : List Addr) (H0 : Hp) (O : List Addr), SR R H0 O H L σ ρ →
  FinP R L H (WE W σ) (e ρ) (fun ds H1 => ∀ J, IterS R L H1 J ds → Q J H1) → t σ H Q
/-- a target's store -/
abbrev SndG (R : RC) (t : TG) (tg : Tg) : Prop := ∀ (x : V) (σ : St) (H : Hp) (Q : St → Hp → Prop) (ρ r : List Sl) (L : List Addr) (H0 : Hp) (O : List Addr) (d : D), SR R H0 O H L σ ρ → Rep R (vis H L) d x → setTg ρ tg d = .ok r →
  (∀ σ', SR R H0 O H L σ' r → (∀ vs, tgIn vs tg = true → wipe σ' vs = wipe σ vs) → Q σ' H) → t x σ H Q

section
variable {X : Cx} {R : RC} {T : Tb} {F : Nat} {nm : Nm} {ad : Ad} {n : Nat} {W : WX} {S : Sur}
/-- two parts, one operator -/
theorem snd2 {ta tb : TE} {ea eb : List Sl → Res} {g : D → D → Res} {r : R2} (ha : SndE R W ta ea) (hb : SndE R W tb eb) (hg : Hold2 R g r) : SndE R W (tOp r ta tb) fun ρ => (ea ρ).bind fun x => (eb ρ).bind fun y => g x y := by
  intro σ H Q ρ L H0 O s h
  refine ha _ _ _ _ _ _ _ s (h.step.weak fun x H1 ⟨d1, e1, r1, m1, h1⟩ => ?_)
  refine hb _ _ _ _ _ _ _ (s.mono m1) (h1.step.weak fun y H2 ⟨d2, e2, r2, m2, h2⟩ => ?_)
  exact hg _ _ _ _ _ _ _ _ (s.mono (m1.trans m2)).ld (Rep.mono (vis_mono m2 fun _ z => z) _ _ r1) r2 h2
theorem out_er {α β : Type} {r : Out α} {f : α → Out β} {c fs ds} (h : r = .er c fs ds) : r.bind f = .er c fs ds := by rw [h]; rfl
/-- sum up: what an outcome of a test is -/
theorem FinP.bl {L : List Addr} {H : Hp} {E : XK} {r : Res} {Q : Bool → Hp → Prop} (h : FinP R L H E (r.bind truthD) Q) : Fin R L H E r fun x H1 => ∃ d, r = .ok d ∧ Rep R (vis H1 L) d x ∧ Same H H1 ∧ FinP R L H1 E (truthD d) Q := Fin.stepP h
theorem truth_ok (hK : R.K = X.K) {L : List Addr} {H : Hp} {E : XK} {d : D} {x : V} {Q : Bool → Hp → Prop} (r : Rep R (vis H L) d x) (h : FinP R L H E (truthD d) Q) : ∃ k, TruV X.K x H k ∧ Q k H := by
  cases d <;> simp only [truthD] at h <;> first | exact h.elim | skip
  · simp only [Rep] at r; subst r; exact ⟨_, rfl, h.now⟩
  · simp only [Rep] at r; subst r; exact ⟨_, rfl, h.now⟩
  · simp only [Rep] at r; subst r; exact ⟨_, rfl, h.now⟩
  · simp only [Rep] at r; subst r
    split at h
    · rename_i s hz
      refine ⟨_, ⟨hz, rfl⟩, ?_⟩
      have e : (s.length != 0) = ((s.length : Int) != 0) := by
        cases s.length <;> rfl
      rw [← e]
      exact h.now
    · exact h.elim
  · rename_i zs
    simp only [Rep] at r
    obtain ⟨a, xs, rfl, h2, h3⟩ := r
    refine ⟨_, .inr (.inl ⟨xs, ?_, rfl⟩), ?_⟩
    · rw [← hK]; exact same_sqT vis_ge h2
    · have q := h3.len
      have e : xs.isEmpty = zs.isEmpty := by
        rw [Bool.eq_iff_iff, List.isEmpty_iff_length_eq_zero, List.isEmpty_iff_length_eq_zero, q]
      rw [e]
      exact h.now
  · rename_i zs
    simp only [Rep] at r
    obtain ⟨a, xs, rfl, h2, h3⟩ := r
    refine ⟨_, .inl ⟨xs, SqL.of (vis_ge _ _ h2), rfl⟩, ?_⟩
    have q := h3.len
    have e : xs.isEmpty = zs.isEmpty := by
      rw [Bool.eq_iff_iff, List.isEmpty_iff_length_eq_zero, List.isEmpty_iff_length_eq_zero, q]
    rw [e]
    exact h.now
theorem isNone_ex {e : Expr} (h : isNoneE e = true) : ∃ j p, e = .Constant .none j p := by
  unfold isNoneE at h
  split at h
  · exact ⟨_, _, rfl⟩
  · cases h
/-! targets -/
theorem setAll_ok {H0 H : Hp} {O L : List Addr} : ∀ {is : List Nat} {ds : List D} {vs : List V} {σ : St} {ρ : List Sl}, SR R H0 O H L σ ρ → Reps R (vis H L) ds vs → is.length = ds.length →
    ∃ σ', SR R H0 O H L σ' (setAll ρ is ds) ∧ (∀ own : List Nat, (∀ i ∈ is, i ∈ own) → wipe σ' own = wipe σ own) ∧ σ' = (is.zip vs).foldl (fun a p => a.set p.1 (some p.2)) σ
  | [], ds, vs, σ, ρ, s, r, h => ⟨σ, by simpa [setAll] using s, fun _ _ => rfl, rfl⟩
  | i :: is, [], vs, σ, ρ, s, r, h => by simp at h
  | i :: is, d :: ds, vs, σ, ρ, s, r, h => by
    simp only [Reps] at r
    obtain ⟨v, t, rfl, h2, h3⟩ := r
    obtain ⟨σ', s', w, e⟩ := setAll_ok (is := is) (s.set i h2) h3 (by simpa using h)
    exact ⟨σ', s', fun own ho => (w own fun j hj => ho j (List.mem_cons_of_mem _ hj)).trans (wipe_set (ho i (List.mem_cons_self ..))), e⟩
theorem agG_ok {fb : Str → Bool} {N : List Str} {sc : Scope} {i : Nat} {e : Expr} (h : agG fb N sc i e = true) : ∃ x p, e = .Name x p ∧ N[i]? = some x ∧ (sc.names.lookup x = some .local ∨ (sc.names.lookup x = some .cell ∧ fb x = true)) := by
  unfold agG at h
  split at h
  · rename_i x p
    simp only [Bool.and_eq_true, Bool.or_eq_true, decide_eq_true_eq] at h
    exact ⟨x, p, rfl, h.1, h.2⟩
  · cases h
theorem pg_nm {fb : Str → Bool} {i : Nat} {e : Expr} (hN : X.N.Nodup) (hf : ∀ x, fb x = true → X.fn x = true) (h : agG fb X.N X.env.scope i e = true) : PG X e (gName i) := by
  obtain ⟨x, p, rfl, h1, h2⟩ := agG_ok h
  rcases h2 with h2 | ⟨h2, h3⟩
  · exact pg_name hN h1 (.inl h2) (.inr h2)
  · exact pg_name hN h1 (.inr h2) (.inl (hf x h3))
/-- several names in a row -/
def gNames : List Nat → TGs
  | [] => gNil
  | i :: is => gCons (gName i) (gNames is)
theorem gNames_ok : ∀ {is : List Nat} {vs : List V} {σ : St} {H : Hp} {Q : St → Hp → Prop}, is.length = vs.length → Q ((is.zip vs).foldl (fun a p => a.set p.1 (some p.2)) σ) H → gNames is vs σ H Q
  | [], [], _, _, _, _, q => ⟨rfl, q⟩
  | [], _ :: _, _, _, _, h, _ => by simp at h
  | _ :: _, [], _, _, _, h, _ => by simp at h
  | i :: is, v :: vs, σ, H, Q, h, q => ⟨v, vs, rfl, gNames_ok (is := is) (by simpa using h) q⟩
theorem assignEach_names {fb : Str → Bool} {N : List Str} {sc : Scope} {env : Env} : ∀ {is : List Nat} {es : List Expr}, agGs fb N sc is es = true → (assignEach es env).length = is.length ∧ (assignEach es env).findIdx? (·.1) = none
  | [], [], _ => ⟨rfl, rfl⟩
  | [], _ :: _, h => by simp [agGs] at h
  | _ :: _, [], h => by simp [agGs] at h
  | i :: is, e :: es, h => by
    simp only [agGs, Bool.and_eq_true] at h
    obtain ⟨x, p, rfl, _⟩ := agG_ok h.1
    obtain ⟨q1, q2⟩ := assignEach_names (env := env) h.2
    have c : assignEach (.Name x p :: es) env = (false, fun v => assign (.Name x p) env v) :: assignEach es env := by rfl
    rw [c]
    refine ⟨by rw [List.length_cons, List.length_cons, q1], ?_⟩
    rw [List.findIdx?_cons]
    simp [q2]
theorem pgs_nm {fb : Str → Bool} (hN : X.N.Nodup) (hf : ∀ x, fb x = true → X.fn x = true) : ∀ {is : List Nat} {es : List Expr}, agGs fb X.N X.env.scope is es = true → PGs X es (gNames is)
  | [], [], _ => pgs_nil
  | [], _ :: _, h => by simp [agGs] at h
  | _ :: _, [], h => by simp [agGs] at h
  | i :: is, e :: es, h => by
    simp only [agGs, Bool.and_eq_true] at h
    obtain ⟨x, p, rfl, _⟩ := agG_ok h.1
    exact pgs_cons (pg_nm hN hf h.1) (pgs_nm hN hf h.2)
theorem tsnd_tg {fb : Str → Bool} (hK : R.K = X.K) (tg : Tg) (hc : X.calm = true ∨ tg.isTup = false) (hN : X.N.Nodup) (hf : ∀ x, fb x = true → X.fn x = true) (e : Expr) (h : agTg fb X.N X.env.scope tg e = true) : ∃ g, PG X e g ∧ SndG R g tg := by
  cases tg with
  | one i =>
    simp only [agTg] at h
    refine ⟨_, pg_nm hN hf h, fun x σ H Q ρ r L H0 O d s rp e q => ?_⟩
    simp only [setTg, Out.ok.injEq] at e
    subst e
    refine q _ (s.set i rp) fun vs hv => wipe_set ?_
    simpa [tgIn] using hv
  | tup is =>
    have hc := hc.resolve_right (fun z => by cases z)
    unfold agTg at h
    split at h
    · rename_i he
      cases he
    · rename_i is' es k p he
      cases he
      simp only [Bool.and_eq_true] at h
      obtain ⟨q1, q2⟩ := assignEach_names (env := X.env) h.1
      refine ⟨_, pg_tup (n := is.length) hc (pgs_nm hN hf h.1) q1 q2, fun x σ H Q ρ r L H0 O d s rp e q => ?_⟩
      cases d with
      | tup ds =>
        simp only [setTg] at e
        split at e
        · rename_i hl
          cases e
          simp only [Rep] at rp
          obtain ⟨a, xs, rfl, h2, h3⟩ := rp
          obtain ⟨σ', s', w, eσ⟩ := setAll_ok s h3 hl
          refine ⟨a, xs, rfl, by rw [← hK]; exact same_sqT vis_ge h2, by rw [h3.len, hl], gNames_ok (by rw [h3.len, hl]) ?_⟩
          rw [← eσ]
          exact q σ' s' fun vs hv => w vs fun i hi => by
            simp only [tgIn, List.all_eq_true] at hv
            simpa using hv i hi
        · cases e
      | _ => simp [setTg] at e
    · cases h
/-! the readings by outcomes -/
def tS (R : RC) (W : WX) (f : List Sl → Res) : TE := fun σ H Q => ∃ ρ L H0 O, SR R H0 O H L σ ρ ∧ Fin R L H (WE W σ) (f ρ) Q
def tSt (R : RC) (W : WX) (f : List Sl → Out Bool) : TT := fun σ H Q => ∃ ρ L H0 O, SR R H0 O H L σ ρ ∧ FinP R L H (WE W σ) (f ρ) Q
def tSa (R : RC) (W : WX) (f : List Sl → Out (List D)) : TA := fun σ H Q => ∃ ρ L H0 O, SR R H0 O H L σ ρ ∧ FinP R L H (WE W σ) (f ρ) fun ds H1 => ∀ vs, Reps R (vis H1 L) ds vs → Q vs H1
def tSo (R : RC) (W : WX) (f : List Sl → Out (Option Int)) : TO := fun σ H Q => ∃ ρ L H0 O, SR R H0 O H L σ ρ ∧ FinP R L H (WE W σ) (f ρ) Q
def tSi (R : RC) (W : WX) (f : List Sl → Out (List D)) : TI := fun σ H Q => ∃ ρ L H0 O, SR R H0 O H L σ ρ ∧ FinP R L H (WE W σ) (f ρ) fun ds H1 => ∀ J, IterS R L H1 J ds → Q J H1
theorem sndS {f : List Sl → Res} : SndE R W (tS R W f) f := fun _ _ _ ρ L H0 O s h => ⟨ρ, L, H0, O, s, h⟩
theorem sndSt {f : List Sl → Out Bool} : SndT R W (tSt R W f) f := fun _ _ _ ρ L H0 O s h => ⟨ρ, L, H0, O, s, h⟩
theorem sndSa {f : List Sl → Out (List D)} : SndA R W (tSa R W f) f := fun _ _ _ ρ L H0 O s h => ⟨ρ, L, H0, O, s, h⟩
theorem sndSo {f : List Sl → Out (Option Int)} : SndO R W (tSo R W f) f := fun _ _ _ ρ L H0 O s h => ⟨ρ, L, H0, O, s, h⟩
theorem sndSi {f : List Sl → Out (List D)} : SndI R W (tSi R W f) f := fun _ _ _ ρ L H0 O s h => ⟨ρ, L, H0, O, s, h⟩
theorem toS {e : Expr} {t : TE} {f : List Sl → Res} (h : PE X e t) (g : SndE R W t f) : PE X e (tS R W f) := ⟨fun pins s σ H Q I ⟨ρ, L, H0, O, a, b⟩ => h.run pins s σ H Q I (g _ _ _ _ _ _ _ a b)⟩
theorem toSt {e : Expr} {t : TT} {f : List Sl → Out Bool} (h : PT X e t) (g : SndT R W t f) : PT X e (tSt R W f) := ⟨fun pins s σ H Q I ⟨ρ, L, H0, O, a, b⟩ => h.run pins s σ H Q I (g _ _ _ _ _ _ _ a b)⟩
theorem toSw {e : Expr} {t : TT} {f : List Sl → Out Bool} (h : PW X e t) (g : SndT R W t f) : PW X e (tSt R W f) := ⟨fun wh pins s σ H Q I ⟨ρ, L, H0, O, a, b⟩ => h.run wh pins s σ H Q I (g _ _ _ _ _ _ _ a b)⟩
theorem toSa {es : List Expr} {t : TA} {f : List Sl → Out (List D)} (h : PA X es t) (g : SndA R W t f) : PA X es (tSa R W f) := ⟨fun pos pins s σ H Q I ⟨ρ, L, H0, O, a, b⟩ => h.run pos pins s σ H Q I (g _ _ _ _ _ _ _ a b)⟩
theorem toSo {e : Option Expr} {t : TO} {f : List Sl → Out (Option Int)} (h : PO X e t) (g : SndO R W t f) : PO X e (tSo R W f) := ⟨fun pins s σ H Q I ⟨ρ, L, H0, O, a, b⟩ => h.run pins s σ H Q I (g _ _ _ _ _ _ _ a b)⟩
theorem toSi {tg e : Expr} {t : TI} {f : List Sl → Out (List D)} (h : PI X tg e t) (g : SndI R W t f) : PI X tg e (tSi R W f) := ⟨fun pins s σ H Q I ⟨ρ, L, H0, O, a, b⟩ => h.run pins s σ H Q I (g _ _ _ _ _ _ _ a b)⟩
theorem takesN0 : L2N.Takes X (fun _ _ _ _ => False) := fun u s' x => by
  obtain ⟨_, _, _, _, _, _, _, _, _, _, _, _, _, _, _, _, z⟩ := x
  exact z.elim
/-- a comprehension's block stands alike -/
theorem Cn.blk (c : Cn X R T F nm ad n W S) (hm : X.calm = true ∧ R.hx = none ∧ Room (n + 2) X.A ∧ S.hot = false) (s : Shared) (H : Hp) (csc : Scope) (cl : List (Str × Addr)) (C : Addr) (fp : List Addr) : Cn (X.blk s H csc (compEnvC csc cl C X.env) fp) R T F nm ad n (fun _ _ _ _ => False) S :=
  ⟨c.rk, c.gf, c.lv, takesN0, c.nd, c.hu, .inl hm, c.sf, c.sg, c.sB, c.sE⟩
theorem Cn.blkHot (c : Cn X R T F nm ad n W S) (hm : S.hot = true ∧ ∃ h, R.hx = some h ∧ HotQ X nm R.ca h ∧ L2H.RoomH (n + 2) X.A) (s : Shared) (H : Hp) (csc : Scope) (cl : List (Str × Addr)) (C : Addr) (fp : List Addr) : Cn (blkH X s H csc (compEnvC csc cl C X.env) fp) R T F nm ad n (fun _ _ _ _ => False) S := by
  refine ⟨c.rk, c.gf, c.lv, takesN0, c.nd, c.hu, .inr ⟨hm.1, ?_⟩, c.sf, c.sg, c.sB, c.sE⟩
  obtain ⟨h, h1, h2, h3⟩ := hm.2
  exact ⟨h, h1, ⟨h2.hot, h2.pn, h2.k⟩, h3⟩
theorem cmpD_bl {o : COp} {x y z : D} (h : cmpD o x y = .ok z) : ∃ b, z = .bl b := by
  cases o <;> simp only [cmpD, inD] at h
  all_goals (first
    | (cases q : eqD x y with
       | ok b => rw [q] at h; simp only [bOut, Out.ok.injEq] at h; exact ⟨_, h.symm⟩
       | er => rw [q] at h; simp [bOut] at h
       | bad => rw [q] at h; simp [bOut] at h)
    | (repeat' split at h) <;> first | (cases h; done) | (simp only [Out.ok.injEq] at h; exact ⟨_, h.symm⟩)
    | skip)
  all_goals (cases x <;> cases y <;> simp only [Out.ok.injEq] at h <;> first | exact ⟨_, h.symm⟩ | (cases h; done))
def tSg (R : RC) (tg : Tg) : TG := fun x σ H Q => ∃ ρ r L H0 O d, SR R H0 O H L σ ρ ∧ Rep R (vis H L) d x ∧ setTg ρ tg d = .ok r ∧ (∀ σ', SR R H0 O H L σ' r → (∀ vs, tgIn vs tg = true → wipe σ' vs = wipe σ vs) → Q σ' H)
theorem sndSg {tg : Tg} : SndG R (tSg R tg) tg := fun _ _ _ _ ρ r L H0 O d s rp e q => ⟨ρ, r, L, H0, O, d, s, rp, e, q⟩
theorem toSg {fb : Str → Bool} (hK : R.K = X.K) (tg : Tg) (hc : X.calm = true ∨ tg.isTup = false) (hN : X.N.Nodup) (hf : ∀ x, fb x = true → X.fn x = true) (e : Expr) (h : agTg fb X.N X.env.scope tg e = true) : PG X e (tSg R tg) := by
  obtain ⟨g, g1, g2⟩ := tsnd_tg hK tg hc hN hf e h
  exact ⟨fun pins s σ H v u Q I rv ⟨ρ, r, L, H0, O, d, a1, a2, a3, a4⟩ => g1.run pins s σ H v u Q I rv (g2 _ _ _ _ _ _ _ _ _ _ a1 a2 a3 a4)⟩
/-! fresh lists -/
def FinF (R : RC) (L : List Addr) (H : Hp) (E : XK) (r : Res) (Q : VK) : Prop := match r with
  | .ok (.lst ds) => ∀ p xs H', Same H H' → H p = none → H' p = some (.lst xs) → Reps R (vis H' (p :: L)) ds xs → Q (.ref p) H'
  | .ok _ => True
  | .er c fs ds => R.hx = none ∧ ∀ cls dd H', Same H H' → XR R (vis H' L) cls dd c fs ds → E cls dd H'
  | .bad => False
abbrev SndF (R : RC) (W : WX) (t : TE) (f : List Sl → Res) : Prop := ∀ (σ : St) (H : Hp) (Q : VK) (ρ : List Sl) (L : List Addr) (H0 : Hp) (O : List Addr), SR R H0 O H L σ ρ → (∃ ds, f ρ = .ok (.lst ds)) ∨ (∃ c fs ds, f ρ = .er c fs ds) → FinF R L H (WE W σ) (f ρ) Q → t σ H Q
theorem finF_lst {L : List Addr} {H H0 : Hp} {E : XK} {ds : List D} {xs : List V} {p : Addr} {Q : VK} (h : FinF R L H0 E (.ok (.lst ds)) Q) (m : Same H0 H) (hl : Hid H L) (r : Reps R (vis H L) ds xs) (n : H p = none) : Q (.ref p) (upd H p (.lst xs)) :=
  h p xs _ (m.trans (same_upd n)) (m.free n) upd_same (Reps.mono (vis_new (same_upd n) fun a ha => (List.mem_cons.mp ha).elim (fun z => .inr (by rw [z]; exact n)) .inl) _ _ r)
theorem FinF.of {L : List Addr} {H : Hp} {E : XK} {r : Res} {Q : VK} (h : Fin R L H E r Q) (k : (∃ ds, r = .ok (.lst ds)) ∨ (∃ c fs ds, r = .er c fs ds)) (hl : Hid H L) : FinF R L H E r Q := by
  rcases k with ⟨ds, rfl⟩ | ⟨c, fs, ds, rfl⟩
  · intro p xs H' m n q r
    refine h _ _ m ?_
    simp only [Rep]
    exact ⟨p, xs, rfl, vis_at q (hl.new n), Reps.mono (vis_mono (Same.refl _) fun a z => List.mem_cons_of_mem _ z) _ _ r⟩
  · exact h
theorem SndF.e {t : TE} {f : List Sl → Res} (h : SndF R W t f) (k : ∀ ρ, f ρ = .bad ∨ (∃ ds, f ρ = .ok (.lst ds)) ∨ (∃ c fs ds, f ρ = .er c fs ds)) : SndE R W t f := fun σ H Q ρ L H0 O s q => by
  rcases k ρ with z | z
  · rw [z] at q; exact q.elim
  · exact h σ H Q ρ L H0 O s z (FinF.of q z s.ld)
end
end NL

end
section
set_option Elab.async false
set_option linter.all false
set_option maxRecDepth 100000
namespace NL
open PySem PySem.Spec PyProof.Rows L2
theorem run_len {T : Tb} {F n : Nat} {hot : Bool} {f : Nat} {ds : List D} (h : run T F n hot f ds ≠ .bad) : ∃ d, T.df f = some d ∧ ds.length = d.np := by
  cases n with
  | zero => exact absurd rfl h
  | succ n =>
    unfold run at h
    cases e : T.df f with
    | none => rw [e] at h; exact absurd rfl h
    | some d =>
      rw [e] at h
      by_cases q : ds.length = d.np
      · exact ⟨d, rfl, q⟩
      · simp only [if_neg q] at h
        exact absurd rfl h
theorem compD_len {f : D → Out (Option D)} : ∀ {ds : List D} {ys : List D}, compD f ds = .ok ys → ys.length ≤ ds.length
  | [], ys, h => by simp only [compD, Out.ok.injEq] at h; rw [← h]; exact Nat.le_refl _
  | d :: ds, ys, h => by
    simp only [compD] at h
    split at h
    · split at h
      · rename_i y _ r e
        simp only [Out.ok.injEq] at h
        have q := compD_len e
        rw [← h]
        split <;> simp only [List.length_cons] <;> omega
      · cases h
    · cases h
theorem compD_er {f : D → Out (Option D)} {c : Str} {fs : List Str} {es : List D} : ∀ {ds : List D}, compD f ds = .er c fs es → False
  | [], h => by simp [compD] at h
  | d :: ds, h => by
    simp only [compD] at h
    split at h
    · split at h <;> cases h
    · cases h
section
variable {X : Cx} {R : RC} {T : Tb} {F : Nat} {nm : Nm} {ad : Ad} {n : Nat} {W : WX} {S : Sur}
theorem ownOf_blk {N : List Str} {sc csc : Scope} {own : List Nat} (h : blkC N sc csc (ownOf N own) = true) : BlkOk N sc csc (ownOf N own) := blkOk_by h
/-- a comprehension, by its parts -/
theorem comp_F {wi : TI} {g : TG} {own : List Nat} {tg : Tg} {it : It} {cq : Tq} {elt : Ex} (hw : SndI R W wi (evI S it)) (hg : SndG R g tg) (ho : tgIn own tg = true) :
    SndF R W (tLc wi g (tSt R (fun _ _ _ _ => False) (evq S cq)) (tS R (fun _ _ _ _ => False) (ev S elt)) own) fun ρ => (evI S it ρ).bind fun ds => (compD (fun d => (setTg (wipeR ρ own) tg d).bind fun r => (evq S cq r).bind fun t => match t with
      | true => (ev S elt r).bind fun y => .ok (some y)
      | false => .ok none) ds).bind fun ys => if ys.length ≤ 1000000 then .ok (.lst ys) else .bad := by
  intro σ H Q ρ L H0 O s hh h
  replace h : FinF R L H (WE W σ) ((evI S it ρ).bind fun ds => (compD (fun d => (setTg (wipeR ρ own) tg d).bind fun r => (evq S cq r).bind fun t => match t with
      | true => (ev S elt r).bind fun y => Out.ok (some y)
      | false => .ok none) ds).bind fun ys => if ys.length ≤ 1000000 then .ok (.lst ys) else .bad) Q := h
  generalize hf : (fun d => (setTg (wipeR ρ own) tg d).bind fun r => (evq S cq r).bind fun t => match t with
      | true => (ev S elt r).bind fun y => Out.ok (some y)
      | false => .ok none) = f at h
  have hI : FinP R L H (WE W σ) (evI S it ρ) fun ds H1 => evI S it ρ = .ok ds ∧ Same H H1 := by
    cases e : evI S it ρ with
    | ok ds => exact fun H1 m => ⟨rfl, m⟩
    | er c fs ds => rw [e] at h; exact h
    | bad => rw [e] at h; exact h.elim
  refine hw _ _ _ _ _ _ _ s (hI.weak fun ds H1 ⟨e1, m1⟩ J hJ => ?_)
  rw [e1] at h
  have h1 : FinF R L H (WE W σ) ((compD f ds).bind fun ys => if ys.length ≤ 1000000 then .ok (.lst ys) else .bad) Q := h
  intro D nD
  have s1 := s.mono m1
  cases ec : compD f ds with
  | bad => rw [ec] at h1; exact h1.elim
  | er c fs es =>
    exact (compD_er ec).elim
  | ok ys =>
  rw [ec] at h1
  simp only [Out.bind] at h1
  split at h1
  rotate_left
  · exact h1.elim
  rename_i hz
  refine ⟨fun i m H' => m = ds.length - i ∧ i ≤ ds.length ∧ Same H1 H' ∧ ∃ acc vs rest, H' D = some (.lst vs) ∧ Reps R (vis H' (D :: L)) acc vs ∧ compD f (ds.drop i) = .ok rest ∧ ys = acc ++ rest,
    ⟨ds.length, rfl, Nat.zero_le _, same_upd nD, [], [], ys, upd_same, Reps.nil, by simpa using ec, rfl⟩, ?_⟩
  rintro i m H2 ⟨rfl, hi, m2, acc, vs, rest, hD, ra, er, ey⟩
  have s2 : SR R H0 O H2 (D :: L) σ ρ := s1.hide m2 nD hD
  by_cases hlt : i < ds.length
  · have ei : ds[i]? = some ds[i] := List.getElem?_eq_getElem hlt
    refine .inr ⟨hJ.go H2 (vis_ge.trans m2) i _ ei, fun H' => ∃ acc vs rest, Same H1 H' ∧ H' D = some (.lst vs) ∧ Reps R (vis H' (D :: L)) acc vs ∧ compD f (ds.drop (i + 1)) = .ok rest ∧ ys = acc ++ rest, ?_, ?_⟩
    · rintro H' ⟨acc', vs', rest', m3, a1, a2, a3, a4⟩
      exact ⟨ds.length - (i + 1), by omega, rfl, hlt, m3, acc', vs', rest', a1, a2, a3, a4⟩
    · intro x H3 hy
      obtain ⟨m3, k3, rx⟩ := hJ.yld H2 (vis_ge.trans m2) i _ ei x H3 hy
      have s3 : SR R H0 O H3 (D :: L) (wipe σ own) (wipeR ρ own) := (s2.mono m3).wipe own
      have rx' := rx (D :: L) (fun a h => (List.mem_cons.mp h).elim (fun z => .inr (by rw [z]; exact nD)) .inl) s2.ld
      rw [List.drop_eq_getElem_cons hlt] at er
      simp only [compD] at er
      have ef := congrFun hf ds[i]
      cases et : setTg (wipeR ρ own) tg ds[i] with
      | bad => rw [et] at ef; simp only [Out.bind] at ef; rw [← ef] at er; cases er
      | er => rw [et] at ef; simp only [Out.bind] at ef; rw [← ef] at er; cases er
      | ok r =>
      rw [et] at ef
      simp only [Out.bind] at ef
      refine hg _ _ _ _ _ _ _ _ _ _ s3 rx' et fun σ4 s4 hw4 => ⟨(hw4 own ho).trans wipe_wipe, ?_⟩
      refine sndSt _ _ _ _ _ _ _ s4 ?_
      cases eq : evq S cq r with
      | bad => rw [eq] at ef; simp only [Out.bind] at ef; rw [← ef] at er; cases er
      | er => rw [eq] at ef; simp only [Out.bind] at ef; rw [← ef] at er; cases er
      | ok b =>
      rw [eq] at ef
      simp only [Out.bind] at ef
      intro H4 m4
      cases b with
      | false =>
        simp only at ef
        rw [← ef] at er
        simp only at er
        show (if false = true then _ else _)
        rw [if_neg Bool.false_ne_true]
        split at er
        · rename_i rest' e'
          simp only [Out.ok.injEq] at er
          subst er
          exact ⟨acc, vs, rest', m2.trans (m3.trans m4), m4 _ _ (m3 _ _ hD), Reps.mono (vis_mono (m3.trans m4) fun _ z => z) _ _ ra, e', ey⟩
        · cases er
      | true =>
        simp only at ef
        show (if true = true then _ else _)
        rw [if_pos rfl]
        refine sndS _ _ _ _ _ _ _ (s4.mono m4) ?_
        cases ee : ev S elt r with
        | bad => rw [ee] at ef; simp only [Out.bind] at ef; rw [← ef] at er; cases er
        | er => rw [ee] at ef; simp only [Out.bind] at ef; rw [← ef] at er; cases er
        | ok y =>
        rw [ee] at ef
        simp only [Out.bind] at ef
        rw [← ef] at er
        simp only at er
        split at er
        · rename_i rest' e'
          simp only [Out.ok.injEq] at er
          subst er
          intro v H5 m5 rv
          have hD5 : H5 D = some (.lst vs) := m5 _ _ (m4 _ _ (m3 _ _ hD))
          have ra5 := Reps.mono (vis_mono (m3.trans (m4.trans m5)) fun _ z => z) _ _ ra
          have el : ys.length = acc.length + (rest'.length + 1) := by rw [ey, List.length_append, List.length_cons]
          refine ⟨vs, hD5, ?_, acc ++ [y], vs ++ [v], rest', fun b o e => ?_, upd_same, ?_, e', by rw [ey, List.append_assoc]; rfl⟩
          · rw [ra5.len, sizeLine_eq]
            omega
          · rw [upd_ne (ne_of_none e nD)]
            exact m5 _ _ (m4 _ _ (m3 _ _ (m2 _ _ e)))
          · rw [vis_upd (List.mem_cons_self ..)]
            exact ra5.append (Reps.one rv)
        · cases er
  · have en : i = ds.length := by omega
    subst en
    rw [List.drop_length] at er
    simp only [compD, Out.ok.injEq] at er
    subst er
    rw [List.append_nil] at ey
    subst ey
    refine .inl ⟨hJ.stop H2 (vis_ge.trans m2), ?_⟩
    exact h1 D vs H2 (m1.trans m2) (m1.free nD) hD ra
theorem comp_snd {wi : TI} {g : TG} {own : List Nat} {tg : Tg} {it : It} {cq : Tq} {elt : Ex} (hw : SndI R W wi (evI S it)) (hg : SndG R g tg) (ho : tgIn own tg = true) :
    SndE R W (tLc wi g (tSt R (fun _ _ _ _ => False) (evq S cq)) (tS R (fun _ _ _ _ => False) (ev S elt)) own) fun ρ => (evI S it ρ).bind fun ds => (compD (fun d => (setTg (wipeR ρ own) tg d).bind fun r => (evq S cq r).bind fun t => match t with
      | true => (ev S elt r).bind fun y => .ok (some y)
      | false => .ok none) ds).bind fun ys => if ys.length ≤ 1000000 then .ok (.lst ys) else .bad := by
  refine (comp_F hw hg ho).e fun ρ => ?_
  cases evI S it ρ with
  | bad => exact .inl rfl
  | er c fs ds => exact .inr (.inr ⟨c, fs, ds, rfl⟩)
  | ok ds =>
    simp only [Out.bind]
    generalize compD _ ds = z
    cases z with
    | bad => exact .inl rfl
    | er c fs ds => exact .inr (.inr ⟨c, fs, ds, rfl⟩)
    | ok ys =>
      simp only [Out.bind]
      split
      · exact .inr (.inl ⟨_, rfl⟩)
      · exact .inl rfl
end
end NL

end
section
set_option Elab.async false
set_option linter.all false
set_option maxRecDepth 100000
set_option maxHeartbeats 2000000
namespace NL
open PySem PySem.Spec PyProof.Rows L2
section
variable {R : RC} {T : Tb} {F : Nat} {nm : Nm} {ad : Ad} {n : Nat} {S : Sur}
theorem room1 {X : Cx} {W : WX} (c : Cn X R T F nm ad n W S) : X.A.units + 64 < cLine := by have := c.hu; omega
theorem kit_bt {a b : String} (ha : a ∈ ["NoneType", "bool", "int", "str", "tuple", "list"]) (hb : b ∈ tys) : kitB a b = some (a == b || (a == "bool" && b == "int")) := by
  have h : (["NoneType", "bool", "int", "str", "tuple", "list"].all fun a => tys.all fun b => decide (kitB a b = some (a == b || (a == "bool" && b == "int")))) = true := by decide +kernel
  rw [List.all_eq_true] at h
  have h1 := h a ha
  rw [List.all_eq_true] at h1
  exact of_decide_eq_true (h1 b hb)
theorem boot_tys {t : String} (h : t ∈ tys) : bootBuiltins (Str.ofString t) = some (.type t) := by
  have q : (tys.all fun t => decide (bootBuiltins (Str.ofString t) = some (.type t))) = true := by decide +kernel
  rw [List.all_eq_true] at q
  exact of_decide_eq_true (q t h)
theorem tyName_in {d : D} {a : String} (h : tyName d = some a) : a ∈ ["NoneType", "bool", "int", "str", "tuple", "list"] := by
  cases d <;> simp only [tyName, Option.some.injEq] at h <;> first | (subst h; simp) | (cases h)
theorem rep_ty {K : PySem.W.Frag} (hK : R.K = K) {L : List Addr} {H : Hp} {d : D} {v : V} {a : String} (h : tyName d = some a) (r : Rep R (vis H L) d v) : TyX K H v (.type a) := by
  cases d <;> simp only [tyName, Option.some.injEq] at h <;> first | (cases h; done) | skip
  all_goals (subst h; simp only [Rep] at r)
  · subst r; exact .base .non
  · subst r; exact .base (.bl _)
  · subst r; exact .base (.int _)
  · subst r; exact .base (.str _)
  · obtain ⟨p, xs, rfl, h2, _⟩ := r
    rcases h2 with (h2 | ⟨o, h2⟩) | ⟨o, its, n, h2, h3, _⟩
    · exact .base (.tup (vis_ge _ _ h2))
    · exact .fTuple (vis_ge _ _ h2)
    · rw [hK] at h2
      exact .kTuple h2 h3
  · obtain ⟨p, xs, rfl, h2, _⟩ := r
    exact .base (.lst (vis_ge _ _ h2))
/-- a class that is named -/
theorem cl_ok {X : Cx} {W : WX} (c : Cn X R T F nm ad n W S) {k : Cl} {e : Expr} (h : agC nm X.env.scope k e = true) : clsOk nm k = true ∧ PE X e (tC (cl_V R.ca k)) := by
  unfold agC at h
  split at h
  · rename_i t x p
    simp only [Bool.and_eq_true, decide_eq_true_eq, List.contains_iff_mem] at h
    obtain ⟨⟨⟨⟨h1, h2⟩, h3⟩, h4⟩, h5⟩ := h
    have h2' : t ∈ tys := by simpa using h2
    exact ⟨by unfold clsOk; simpa [tys] using h2, pe_bltn (v := .ty t) (glB_ok h4) (c.gf.bn x (by simpa using h3)) (by rw [h1]; exact boot_tys h2') rfl (nodun3 h5) (nodun1 h5)⟩
  · rename_i q x p
    simp only [Bool.and_eq_true, decide_eq_true_eq, List.contains_iff_mem] at h
    obtain ⟨⟨⟨h1, h3⟩, h4⟩, h5⟩ := h
    subst h1
    have hm : x ∈ nm.cl := by simpa using h3
    exact ⟨by unfold clsOk; simpa using hm, pe_glob (v := .ref (R.ca x)) (glB_ok h4) (c.gf.cl x hm).1 rfl (nodun1 h5)⟩
  · cases h
/-- one question: the kit's answer -/
theorem one_kit {X : Cx} {W : WX} (c : Cn X R T F nm ad n W S) {d : D} {a : String} (ha : tyName d = some a) {k : Cl} (hk : clsOk nm k = true) : ∃ b, isOne S.B d k = .ok b ∧ PySem.W.kitOne X.K (.type a) (clV R.ca k) = some b := by
  cases k with
  | ty t =>
    have ht : t ∈ tys := by unfold clsOk at hk; simpa [tys] using hk
    refine ⟨_, ?_, kit_ty (kit_bt (tyName_in ha) ht)⟩
    cases d <;> simp only [tyName, Option.some.injEq] at ha <;> first | (cases ha; done) | (subst ha; rfl)
  | cls x =>
    have hx : x ∈ nm.cl := by unfold clsOk at hk; simpa using hk
    refine ⟨false, ?_, c.gf.kt a x (tyName_in ha) hx⟩
    cases d <;> simp only [tyName, Option.some.injEq] at ha <;> first | (cases ha; done) | (subst ha; rfl)
theorem all_kit {X : Cx} {W : WX} (c : Cn X R T F nm ad n W S) {d : D} {a : String} (ha : tyName d = some a) : ∀ {ks : List Cl} {b : Bool}, (∀ k ∈ ks, clsOk nm k = true) → isAny S.B d ks = .ok b → PySem.W.kitAny X.K (.type a) (ks.map (clV R.ca)) = some b
  | [], b, _, h => by
    simp only [isAny, Out.ok.injEq] at h
    subst h
    rfl
  | k :: ks, b, hm, h => by
    obtain ⟨b1, e1, e2⟩ := one_kit c ha (hm k (List.mem_cons_self ..))
    simp only [isAny, e1, Out.bind] at h
    refine kitAny_cons e2 (fun q => ?_) (fun q => ?_)
    · rw [q] at h
      exact all_kit c ha (fun u hu => hm u (List.mem_cons_of_mem _ hu)) (by simpa using h)
    · rw [q] at h
      simpa using h.symm
/-- the same of an exception -/
theorem all_kitX {X : Cx} {W : WX} (c : Cn X R T F nm ad n W S) {x : Str} {fs : List Str} {ds : List D} (hx : x ∈ nm.rc) : ∀ {ks : List Cl} {b : Bool}, (∀ k ∈ ks, clsOk nm k = true) → isAny S.B (.exc x fs ds) ks = .ok b → PySem.W.kitAny X.K (.ref (R.ca x)) (ks.map (clV R.ca)) = some b
  | [], b, _, h => by
    simp only [isAny, Out.ok.injEq] at h
    subst h
    rfl
  | k :: ks, b, hm, h => by
    have e2 := c.gf.kx x k hx (hm k (List.mem_cons_self ..))
    rw [← c.sB] at e2
    simp only [isAny, isOne, Out.bind] at h
    refine kitAny_cons e2 (fun q => ?_) (fun q => ?_)
    · rw [q] at h
      exact all_kitX c hx (fun u hu => hm u (List.mem_cons_of_mem _ hu)) (by simpa using h)
    · rw [q] at h
      simpa using h.symm
theorem kit_head {K : PySem.W.Frag} {t c : Value} {b : Bool} (h : PySem.W.kitAny K t [c] = some b) : PySem.W.kitOne K t c = some b := by
  unfold PySem.W.kitAny at h
  split at h
  · rename_i w
    rw [w]
    exact h
  · rename_i w
    rw [w]
    exact h
  · cases h
theorem isAny_er {B : Bases} {d : D} : ∀ {cs : List Cl} {c fs ds}, isAny B d cs = .er c fs ds → False
  | [], _, _, _, h => by simp [isAny] at h
  | k :: ks, c, fs, ds, h => by
    simp only [isAny] at h
    have q : ∀ {c fs ds}, isOne B d k = .er c fs ds → False := by
      intro c fs ds h
      cases d <;> cases k <;> simp [isOne, tyName] at h
    cases e : isOne B d k with
    | er => exact q e
    | bad => rw [e] at h; simp at h
    | ok b =>
      rw [e] at h
      simp only [Out.bind] at h
      cases b with
      | true => simp at h
      | false => exact isAny_er (by simpa using h)
theorem tys_of {X : Cx} {W : WX} (c : Cn X R T F nm ad n W S) : ∀ {cs : List Cl} {es : List Expr}, agCs nm X.env.scope cs es = true → noStars es = true → (∀ k ∈ cs, clsOk nm k = true) ∧ ∃ t, PA X es t ∧ ∀ σ H Q, Q (cs.map (cl_V R.ca)) H → t σ H Q
  | [], [], _, _ => ⟨fun _ h => (nomatch h), _, pa_nil, fun σ H Q q => q⟩
  | [], _ :: _, h, _ => by simp [agCs] at h
  | _ :: _, [], h, _ => by simp [agCs] at h
  | k :: ks, e :: es, h, hs => by
    simp only [agCs, Bool.and_eq_true] at h
    obtain ⟨h1, h2⟩ := cl_ok c h.1
    have hs' := hs
    unfold noStars at hs
    rw [List.all_cons, Bool.and_eq_true] at hs
    obtain ⟨h3, tt, h4, h5⟩ := tys_of c h.2 hs.2
    refine ⟨fun u hu => (List.mem_cons.mp hu).elim (fun z => by rw [z]; exact h1) (h3 u), _, pa_cons h2 h4 (star_cons (by simpa using hs.1)), fun σ H Q q => h5 _ _ _ q⟩
theorem clsV_of (ca : Str → Addr) (k : Cl) : ClsV (cl_V ca k) (clV ca k) := by
  cases k with
  | ty t => exact .ty t
  | cls c => exact .own _
theorem paired_cls (ca : Str → Addr) : ∀ ks : List Cl, Paired ClsV (ks.map (cl_V ca)) (ks.map (clV ca))
  | [] => .nil
  | k :: ks => .cons (clsV_of ca k) (paired_cls ca ks)
theorem isAny_name {B : Bases} {d : D} {k : Cl} {ks : List Cl} {b : Bool} (h : isAny B d (k :: ks) = .ok b) (hd : ∀ c fs ds, d ≠ .exc c fs ds) : ∃ a, tyName d = some a := by
  cases d <;> first | exact ⟨_, rfl⟩ | skip
  all_goals (first | (cases k <;> simp [isAny, isOne, tyName] at h; done) | exact absurd rfl (hd _ _ _))
theorem and_ag {nm : Nm} {N : List Str} {sc : Scope} {a b : Ex} {e : Expr} (h : agE nm N sc (.and a b) e = true) : ∃ p q r pos, e = .BoolOp .And (p :: q :: r) pos ∧ agE nm N sc a p = true ∧ ((r = [] ∧ agE nm N sc b q = true) ∨ agE nm N sc b (.BoolOp .And (q :: r) pos) = true) := by
  simp only [agE] at h
  split at h
  · rw [Bool.and_eq_true] at h
    exact ⟨_, _, _, _, rfl, h.1, .inl ⟨rfl, h.2⟩⟩
  · rw [Bool.and_eq_true] at h
    exact ⟨_, _, _, _, rfl, h.1, .inr h.2⟩
  · cases h
theorem or_ag {nm : Nm} {N : List Str} {sc : Scope} {a b : Ex} {e : Expr} (h : agE nm N sc (.or a b) e = true) : ∃ p q r pos, e = .BoolOp .Or (p :: q :: r) pos ∧ agE nm N sc a p = true ∧ ((r = [] ∧ agE nm N sc b q = true) ∨ agE nm N sc b (.BoolOp .Or (q :: r) pos) = true) := by
  simp only [agE] at h
  split at h
  · rw [Bool.and_eq_true] at h
    exact ⟨_, _, _, _, rfl, h.1, .inl ⟨rfl, h.2⟩⟩
  · rw [Bool.and_eq_true] at h
    exact ⟨_, _, _, _, rfl, h.1, .inr h.2⟩
  · cases h
theorem andT_ag {nm : Nm} {N : List Str} {sc : Scope} {a b : Tx} {e : Expr} (h : agT nm N sc (.and a b) e = true) : ∃ p q r pos, e = .BoolOp .And (p :: q :: r) pos ∧ agT nm N sc a p = true ∧ ((r = [] ∧ agT nm N sc b q = true) ∨ agT nm N sc b (.BoolOp .And (q :: r) pos) = true) := by
  simp only [agT] at h
  split at h
  · rw [Bool.and_eq_true] at h
    exact ⟨_, _, _, _, rfl, h.1, .inl ⟨rfl, h.2⟩⟩
  · rw [Bool.and_eq_true] at h
    exact ⟨_, _, _, _, rfl, h.1, .inr h.2⟩
  · cases h
theorem orT_ag {nm : Nm} {N : List Str} {sc : Scope} {a b : Tx} {e : Expr} (h : agT nm N sc (.or a b) e = true) : ∃ p q r pos, e = .BoolOp .Or (p :: q :: r) pos ∧ agT nm N sc a p = true ∧ ((r = [] ∧ agT nm N sc b q = true) ∨ agT nm N sc b (.BoolOp .Or (q :: r) pos) = true) := by
  simp only [agT] at h
  split at h
  · rw [Bool.and_eq_true] at h
    exact ⟨_, _, _, _, rfl, h.1, .inl ⟨rfl, h.2⟩⟩
  · rw [Bool.and_eq_true] at h
    exact ⟨_, _, _, _, rfl, h.1, .inr h.2⟩
  · cases h
end
/-! ### the pieces of the soundness theorem, one a construct -/
section
variable {X : Cx} {R : RC} {T : Tb} {F : Nat} {nm : Nm} {ad : Ad} {n : Nat} {W : WX} {S : Sur}
theorem snd_var {i : Nat} : SndE R W (tVar i) (ev S (.var i)) := fun σ H Q ρ L H0 O s h => by
  simp only [ev] at h
  split at h
  · rename_i d e
    obtain ⟨v, e1, e2⟩ := s.dat e
    exact ⟨v, e1, h.now e2⟩
  · exact h.elim
theorem snd_and {ta tb : TE} {fa fb : List Sl → Res} (ha : SndE R W ta fa) (hb : SndE R W tb fb) : SndE R W (tAndV ta tb) fun ρ => (fa ρ).bind fun x => match x with
    | .bl true => fb ρ
    | .bl false => .ok (.bl false)
    | _ => .bad := by
  intro σ H Q ρ L H0 O s h
  refine ha _ _ _ _ _ _ _ s (h.step.weak fun x H1 ⟨d1, e1, r1, m1, h1⟩ => ?_)
  cases d1 <;> first | exact h1.elim | skip
  rename_i b
  simp only [Rep] at r1
  subst r1
  refine ⟨b, rfl, ?_⟩
  cases b with
  | true => exact iteT (hb _ _ _ _ _ _ _ (s.mono m1) h1)
  | false => exact iteF (fin_bl h1)
theorem snd_or {ta tb : TE} {fa fb : List Sl → Res} (ha : SndE R W ta fa) (hb : SndE R W tb fb) : SndE R W (tOrV ta tb) fun ρ => (fa ρ).bind fun x => match x with
    | .bl true => .ok (.bl true)
    | .bl false => fb ρ
    | _ => .bad := by
  intro σ H Q ρ L H0 O s h
  refine ha _ _ _ _ _ _ _ s (h.step.weak fun x H1 ⟨d1, e1, r1, m1, h1⟩ => ?_)
  cases d1 <;> first | exact h1.elim | skip
  rename_i b
  simp only [Rep] at r1
  subst r1
  refine ⟨b, rfl, ?_⟩
  cases b with
  | false => exact iteF (hb _ _ _ _ _ _ _ (s.mono m1) h1)
  | true => exact iteT (fin_bl h1)
theorem snd_not {ta : TE} {fa : List Sl → Res} (ha : SndE R W ta fa) : SndE R W (tNotV ta) fun ρ => (fa ρ).bind fun x => match x with
    | .bl b => .ok (.bl (!b))
    | _ => .bad := by
  intro σ H Q ρ L H0 O s h
  refine ha _ _ _ _ _ _ _ s (h.step.weak fun x H1 ⟨d1, e1, r1, m1, h1⟩ => ?_)
  cases d1 <;> first | exact h1.elim | skip
  simp only [Rep] at r1
  exact ⟨_, r1, fin_bl h1⟩
theorem snd_ife {tc : TT} {ta tb : TE} {fc : List Sl → Out Bool} {fa fb : List Sl → Res} (hc : SndT R W tc fc) (ha : SndE R W ta fa) (hb : SndE R W tb fb) : SndE R W (tIf tc ta tb) fun ρ => (fc ρ).bind fun t => match t with
    | true => fa ρ
    | false => fb ρ := by
  intro σ H Q ρ L H0 O s h
  refine hc _ _ _ _ _ _ _ s ((FinP.step h).weak fun t H1 ⟨e1, m1, h1⟩ => ?_)
  cases t with
  | true => exact iteT (ha _ _ _ _ _ _ _ (s.mono m1) h1)
  | false => exact iteF (hb _ _ _ _ _ _ _ (s.mono m1) h1)
theorem sndT_and {ta tb : TT} {fa fb : List Sl → Out Bool} (ha : SndT R W ta fa) (hb : SndT R W tb fb) : SndT R W (tAnd ta tb) fun ρ => (fa ρ).bind fun t => match t with
    | true => fb ρ
    | false => .ok false := by
  intro σ H Q ρ L H0 O s h
  refine ha _ _ _ _ _ _ _ s ((FinP.stepP h).weak fun t H1 ⟨e1, m1, h1⟩ => ?_)
  cases t with
  | true => exact iteT (hb _ _ _ _ _ _ _ (s.mono m1) h1)
  | false => exact iteF h1.now
theorem sndT_or {ta tb : TT} {fa fb : List Sl → Out Bool} (ha : SndT R W ta fa) (hb : SndT R W tb fb) : SndT R W (tOr ta tb) fun ρ => (fa ρ).bind fun t => match t with
    | true => .ok true
    | false => fb ρ := by
  intro σ H Q ρ L H0 O s h
  refine ha _ _ _ _ _ _ _ s ((FinP.stepP h).weak fun t H1 ⟨e1, m1, h1⟩ => ?_)
  cases t with
  | false => exact iteF (hb _ _ _ _ _ _ _ (s.mono m1) h1)
  | true => exact iteT h1.now
theorem sndT_not {ta : TT} {fa : List Sl → Out Bool} (ha : SndT R W ta fa) : SndT R W (tNot ta) fun ρ => (fa ρ).bind fun t => .ok (!t) := by
  intro σ H Q ρ L H0 O s h
  exact ha _ _ _ _ _ _ _ s ((FinP.stepP h).weak fun t H1 ⟨e1, m1, h1⟩ => h1.now)
theorem sndT_truth {ta : TE} {fa : List Sl → Res} (hK : R.K = X.K) (ha : SndE R W ta fa) : SndT R W (fun σ H Q => ta σ H fun x H' => ∃ k, TruV X.K x H' k ∧ Q k H') fun ρ => (fa ρ).bind truthD := by
  intro σ H Q ρ L H0 O s h
  exact ha _ _ _ _ _ _ _ s ((Fin.stepP h).weak fun x H1 ⟨d, e1, r1, m1, h1⟩ => truth_ok hK r1 h1)
/-- a test by a value that is True or False -/
theorem sndT_bl {ta : TE} {fa : List Sl → Res} (ha : SndE R W ta fa) (hb : ∀ ρ z, fa ρ = .ok z → ∃ b, z = .bl b) : SndT R W (tTest ta) fun ρ => (fa ρ).bind truthD := by
  intro σ H Q ρ L H0 O s h
  refine ha _ _ _ _ _ _ _ s ((Fin.stepP h).weak fun x H1 ⟨d, e1, r1, m1, h1⟩ => ?_)
  obtain ⟨b, rfl⟩ := hb ρ d e1
  simp only [Rep] at r1
  exact ⟨b, r1, h1.now⟩
theorem sndT_blB {ta : TE} {fa : List Sl → Res} (ha : SndE R W ta fa) (hb : ∀ ρ z, fa ρ = .ok z → ∃ b, z = .bl b) : SndT R W (tB ta) fun ρ => (fa ρ).bind truthD := sndT_bl ha hb
theorem snd_chain {o o' : COp} {r r' : R2} {ta tb tc : TE} {fa fb fc : List Sl → Res} (h1 : Hold2 R (cmpD o) r) (h2 : Hold2 R (cmpD o') r') (ha : SndE R W ta fa) (hb : SndE R W tb fb) (hc : SndE R W tc fc) :
    SndE R W (tChain r r' ta tb tc) fun ρ => (fa ρ).bind fun x => (fb ρ).bind fun y => (cmpD o x y).bind fun z => match z with
    | .bl true => (fc ρ).bind fun w => cmpD o' y w
    | .bl false => .ok (.bl false)
    | _ => .bad := by
  intro σ H Q ρ L H0 O s h
  refine ha _ _ _ _ _ _ _ s (h.step.weak fun x H1 ⟨d1, e1, r1, m1, k1⟩ => ?_)
  refine hb _ _ _ _ _ _ _ (s.mono m1) (k1.step.weak fun y H2 ⟨d2, e2, r2, m2, k2⟩ => ?_)
  refine h1 _ _ _ _ _ _ _ _ (s.mono (m1.trans m2)).ld (Rep.mono (vis_mono m2 fun _ z => z) _ _ r1) r2 (k2.step.weak fun z H3 ⟨d3, e3, r3, m3, k3⟩ => ?_)
  obtain ⟨b, rfl⟩ := cmpD_bl e3
  simp only [Rep] at r3
  refine ⟨b, r3, ?_⟩
  cases b with
  | false => exact iteF (fin_bl k3)
  | true =>
    refine iteT (hc _ _ _ _ _ _ _ (s.mono (m1.trans (m2.trans m3))) (k3.step.weak fun w H4 ⟨d4, e4, r4, m4, k4⟩ => ?_))
    exact h2 _ _ _ _ _ _ _ _ (s.mono (m1.trans (m2.trans (m3.trans m4)))).ld (Rep.mono (vis_mono (m3.trans m4) fun _ z => z) _ _ r2) r4 k4
theorem sndA_nil : SndA R W tNil (evs S .nil) := fun σ H Q ρ L H0 O s h => FinP.now h [] Reps.nil
theorem sndA_cons {te : TE} {t : TA} {fe : List Sl → Res} {fr : List Sl → Out (List D)} (he : SndE R W te fe) (hr : SndA R W t fr) : SndA R W (tCons te t) fun ρ => (fe ρ).bind fun d => (fr ρ).bind fun ds => .ok (d :: ds) := by
  intro σ H Q ρ L H0 O s h
  refine he _ _ _ _ _ _ _ s ((Fin.stepP h).weak fun x H1 ⟨d1, e1, r1, m1, h1⟩ => ?_)
  refine hr _ _ _ _ _ _ _ (s.mono m1) ((FinP.stepP h1).weak fun ds H2 ⟨e2, m2, h2⟩ vs rv => ?_)
  exact h2.now _ (Reps.cons (Rep.mono (vis_mono m2 fun _ z => z) _ _ r1) rv)
theorem snd_brw {is : List Nat} {te : TE} {fe : List Sl → Res} (he : SndE R W te fe) : SndE R W te fun ρ => stillR (fe (frzAll ρ is)) := by
  intro σ H Q ρ L H0 O s h
  replace h : Fin R L H (WE W σ) (stillR (fe (frzAll ρ is))) Q := h
  obtain ⟨L', sub, s', m⟩ := s.frzs is
  refine he _ _ _ _ _ _ _ s' ?_
  have up : ∀ {H' : Hp}, Same H H' → ∀ a ∈ L, a ∈ L' ∨ (∃ xs, H' a = some (.lst xs)) ∨ ∃ kvs, H' a = some (.dK kvs) := fun {H'} k a ha => by
    rcases m a ha with z | ⟨xs, z⟩ | ⟨kvs, z⟩
    · exact .inl z
    · exact .inr (.inl ⟨xs, k _ _ z⟩)
    · exact .inr (.inr ⟨kvs, k _ _ z⟩)
  cases e : fe (frzAll ρ is) with
  | bad => rw [e] at h; exact h.elim
  | ok d =>
    rw [e] at h
    simp only [stillR] at h
    split at h
    · rename_i hs
      exact fun v H' k r => h v H' k (still_rep (up k) d v hs r)
    · exact h.elim
  | er c fs ds =>
    rw [e] at h
    simp only [stillR] at h
    split at h
    · rename_i hs
      refine ⟨h.1, fun cls dd H' k ⟨x1, xfs, x2, x3, x4⟩ => h.2 cls dd H' k ⟨x1, xfs, x2, stills_rep (up k) ds _ hs x3, ?_⟩⟩
      rcases x4 with x4 | ⟨d, x5, x6⟩
      · exact .inl x4
      · refine .inr ⟨d, x5, ?_⟩
        have e6 := vis_ge _ _ x6
        refine vis_at e6 fun z => ?_
        rcases up k d z with q | ⟨ys, q⟩ | ⟨ys, q⟩
        · unfold vis at x6
          rw [if_pos q] at x6
          cases x6
        · rw [e6] at q
          cases q
        · rw [e6] at q
          cases q
    · exact h.elim
end
/-! ### classes asked -/
section
variable {X : Cx} {R : RC} {T : Tb} {F : Nat} {nm : Nm} {ad : Ad} {n : Nat} {W : WX} {S : Sur}
theorem rep_xdd {h : HotD} {G H : Hp} {d : D} {v : V} {c : Str} {fs : List Str} {ds : List D} (e : d = .exc c fs ds) (hx : R.hx = some h) (m : Same G H) (r : Rep R G d v) : v = .ref h.a ∧ h.c = c ∧ Xdd H h.dd := by
  subst e
  simp only [Rep] at r
  obtain ⟨h', xfs, e1, e2, e3, e4, e5, e6⟩ := r
  rw [hx] at e1
  cases e1
  refine ⟨e2, e3, ?_⟩
  rcases e5 with ⟨_, e5⟩ | ⟨dd, e5, e7⟩
  · exact .inl e5
  · exact .inr ⟨dd, xfs, e5, m _ _ e7⟩
theorem isi_rule (c : Cn X R T F nm ad n W S) : ∃ r, CallR X (.builtin "isinstance") r ∧
    (∀ (d : D) (v : V) (k : Cl) (L : List Addr) (H : Hp) (Q : VK) (b : Bool), Rep R (vis H L) d v → clsOk nm k = true → isAny S.B d [k] = .ok b → Q (.bl b) H → r [v, cl_V R.ca k] H Q) ∧
    (∀ (d : D) (v : V) (ks : List Cl) (L : List Addr) (H : Hp) (Q : VK) (b : Bool) (p : Addr), Rep R (vis H L) d v → (∀ k ∈ ks, clsOk nm k = true) → ks ≠ [] → isAny S.B d ks = .ok b → H p = some (.tup (ks.map (cl_V R.ca))) → Q (.bl b) H → r [v, .ref p] H Q) := by
  have one : ∀ (d : D) (v : V) (k : Cl) (L : List Addr) (H : Hp) (Q : VK) (b : Bool), (∀ c fs ds, d ≠ .exc c fs ds) → Rep R (vis H L) d v → clsOk nm k = true → isAny S.B d [k] = .ok b → Q (.bl b) H → rIsi X.K [v, cl_V R.ca k] H Q := by
    intro d v k L H Q b nx r ok e q
    obtain ⟨u, e3⟩ := isAny_name e nx
    have e4 := all_kit c e3 (ks := [k]) (fun y hy => by rw [List.mem_singleton] at hy; rw [hy]; exact ok) e
    exact ⟨v, _, _, _, b, rfl, clsV_of _ k, rep_ty c.rk e3 r, kit_head e4, q⟩
  have many : ∀ (d : D) (v : V) (ks : List Cl) (L : List Addr) (H : Hp) (Q : VK) (b : Bool) (p : Addr), (∀ c fs ds, d ≠ .exc c fs ds) → Rep R (vis H L) d v → (∀ k ∈ ks, clsOk nm k = true) → ks ≠ [] → isAny S.B d ks = .ok b → H p = some (.tup (ks.map (cl_V R.ca))) → Q (.bl b) H → rIsiT X.K [v, .ref p] H Q := by
    intro d v ks L H Q b p nx r ok ne e hp q
    cases ks with
    | nil => exact absurd rfl ne
    | cons k ks =>
      obtain ⟨u, e3⟩ := isAny_name e nx
      have e4 := all_kit c e3 ok e
      exact ⟨v, p, _, _, _, b, rfl, hp, paired_cls R.ca _, rep_ty c.rk e3 r, e4, q⟩
  rcases c.md with ⟨m1, m2, m3, m4⟩ | ⟨m1, h, m2, m3, m4⟩
  · have nox : ∀ {H : Hp} {L : List Addr} {d : D} {v : V}, Rep R (vis H L) d v → ∀ c fs ds, d ≠ .exc c fs ds := fun {H L d v} r c' fs ds z => by
      subst z
      simp only [Rep] at r
      obtain ⟨h, _, e, _⟩ := r
      rw [m2] at e
      cases e
    exact ⟨_, CallR.both call_isi call_isiT, fun d v k L H Q b r ok e q => .inl (one d v k L H Q b (nox r) r ok e q), fun d v ks L H Q b p r ok ne e hp q => .inr (many d v ks L H Q b p (nox r) r ok ne e hp q)⟩
  · have G := c.gf.rc h.c m3.k.cl
    have hz := m3.k.zc
    rw [m3.k.ec] at hz
    have hi : CallR X (.builtin "isinstance") (rIsH X.K h.a (R.ca h.c) h.dd) := isi_hot G.1 m3.pn hz m3.k.fs
    refine ⟨_, CallR.both (CallR.both call_isi call_isiT) hi, fun d v k L H Q b r ok e q => ?_, fun d v ks L H Q b p r ok ne e hp q => ?_⟩
    · by_cases z : ∃ c fs ds, d = .exc c fs ds
      · obtain ⟨c', fs, ds, z⟩ := z
        obtain ⟨e1, e2, e3⟩ := rep_xdd z m2 vis_ge r
        subst z e2
        rw [e1]
        have e4 := all_kitX c m3.k.cl (ks := [k]) (fun y hy => by rw [List.mem_singleton] at hy; rw [hy]; exact ok) e
        exact .inr ⟨e3, .inl ⟨_, _, b, rfl, clsV_of _ k, kit_head e4, q⟩⟩
      · exact .inl (.inl (one d v k L H Q b (fun c' fs ds w => z ⟨c', fs, ds, w⟩) r ok e q))
    · by_cases z : ∃ c fs ds, d = .exc c fs ds
      · obtain ⟨c', fs, ds, z⟩ := z
        obtain ⟨e1, e2, e3⟩ := rep_xdd z m2 vis_ge r
        subst z e2
        rw [e1]
        have e4 := all_kitX c m3.k.cl ok e
        exact .inr ⟨e3, .inr ⟨p, _, _, b, rfl, hp, paired_cls R.ca ks, e4, q⟩⟩
      · exact .inl (.inr (many d v ks L H Q b p (fun c' fs ds w => z ⟨c', fs, ds, w⟩) r ok ne e hp q))
/-- a field of the exception that is handled -/
theorem attr_base {e : Expr} {nf : Str} {env : Env} {w : Sem Value} (h : notCall e = true) : attributeBase e nf env w = w := by
  cases e <;> first | rfl | (cases h)
theorem zip_look {G : Hp} {f : Str} {d : D} : ∀ {xfs : List (Str × V)} {ds : List D}, Reps R G ds (xfs.map (·.2)) → ((xfs.map (·.1)).zip ds).lookup f = some d → ∃ v, xfs.lookup f = some v ∧ Rep R G d v
  | [], _, r, h => by simp at h
  | (k, v) :: xfs, [], r, h => by simp at h
  | (k, v) :: xfs, d' :: ds, r, h => by
    simp only [List.map_cons, Reps] at r
    obtain ⟨v', t, e, h2, h3⟩ := r
    cases e
    simp only [List.map_cons, List.zip_cons_cons, List.lookup_cons] at h ⊢
    cases e : (f == k) with
    | true =>
      rw [e] at h
      simp only [Option.some.injEq] at h
      subst h
      exact ⟨v, rfl, h2⟩
    | false =>
      rw [e] at h
      exact zip_look h3 h
theorem look_mem {α β : Type} [BEq α] [LawfulBEq α] {f : α} {b : β} : ∀ {fs : List α} {ds : List β}, (fs.zip ds).lookup f = some b → f ∈ fs
  | [], _, h => by simp at h
  | k :: fs, [], h => by simp at h
  | k :: fs, d :: ds, h => by
    simp only [List.zip_cons_cons, List.lookup_cons] at h
    cases e : (f == k) with
    | true => exact List.mem_cons.mpr (.inl (by simpa using e))
    | false =>
      rw [e] at h
      exact List.mem_cons_of_mem _ (look_mem h)
theorem fld_rule (c : Cn X R T F nm ad n W S) {e : Expr} {f : Str} {g : List Sl → Res} {pos : Pos} (he : PE X e (tS R W g)) (hn : notCall e = true) :
    PE X (.Attribute e f pos) (tS R W fun ρ => (g ρ).bind fun x => fldX S.ef x f) := by
  have never : (∀ ρ L H E Q d v, Rep R (vis H L) d v → g ρ = .ok d → Fin R L H E (fldX S.ef d f) Q → False) → PE X (.Attribute e f pos) (tS R W fun ρ => (g ρ).bind fun x => fldX S.ef x f) := fun k => by
    constructor
    rintro pins s σ H Q I ⟨ρ, L, H0, O, s0, q⟩
    refine attr_of (attr_base hn) (thn (he.run pins s σ H (fun _ _ => False) I ⟨ρ, L, H0, O, s0, q.step.weak fun v H1 ⟨d, e1, r1, m1, h1⟩ => k _ _ _ _ _ _ _ r1 e1 h1⟩) ?_)
    rintro u s1 ⟨x, H1, _, _, z⟩
    exact z.elim
  have only : ∀ d, (∀ L H E Q, Fin R L H E (fldX S.ef d f) Q → ∃ c fs ds, d = .exc c fs ds ∧ S.ef c = some fs.reverse ∧ ∃ y, (fs.zip ds).lookup f = some y ∧ Fin R L H E (.ok y) Q) := fun d L H E Q q => by
    cases d <;> simp only [fldX] at q <;> first | exact q.elim | skip
    split at q
    · rename_i hz
      simp only [fldD] at q
      split at q
      · rename_i y hy
        exact ⟨_, _, _, rfl, hz, y, hy, q⟩
      · exact q.elim
    · exact q.elim
  rcases c.md with ⟨m1, m2, m3, m4⟩ | ⟨m1, h, m2, m3, m4⟩
  · refine never fun ρ L H E Q d v r e1 q => ?_
    obtain ⟨c', fs, ds, rfl, _⟩ := only d L H E Q q
    simp only [Rep] at r
    obtain ⟨h, _, e, _⟩ := r
    rw [m2] at e
    cases e
  · have G := c.gf.rc h.c m3.k.cl
    have hz := m3.k.zc
    rw [m3.k.ec] at hz
    have fact : ∀ c' fs ds L H v, Rep R (vis H L) (.exc c' fs ds) v → S.ef c' = some fs.reverse → f ∈ fs → PySem.W.findIn X.K (.ref (R.ca h.c)) f = some none := fun c' fs ds L H v r e1 e2 => by
      obtain ⟨_, e3, _⟩ := rep_xdd rfl m2 vis_ge r
      rw [c.sE, ← e3] at e1
      have := G.2 fs.reverse f e1 (List.mem_reverse.mpr e2)
      exact this
    by_cases hno : PySem.W.findIn X.K (.ref (R.ca h.c)) f = some none
    · refine toS (pe_xh G.1 hno m3.pn hz m3.k.fs he (attr_base hn)) fun σ H Q ρ L H0 O s q => ?_
      refine sndS _ _ _ _ _ _ _ s (q.step.weak fun v H1 ⟨d, e1, r1, m1, h1⟩ => ?_)
      obtain ⟨c', fs, ds, rfl, k1, y, k2, k3⟩ := only d _ _ _ _ h1
      simp only [Rep] at r1
      obtain ⟨h', xfs, e1', e2, e3, e4, e5, e6⟩ := r1
      rw [m2] at e1'
      cases e1'
      subst e4
      obtain ⟨w, w1, w2⟩ := zip_look e6 k2
      rcases e5 with ⟨e5, _⟩ | ⟨dd, e5, e7⟩
      · subst e5
        simp at w1
      · exact ⟨e2, dd, xfs, w, e5, vis_ge _ _ e7, w1, k3.now w2⟩
    · refine never fun ρ L H E Q d v r e1 q => ?_
      obtain ⟨c', fs, ds, rfl, k1, y, k2, k3⟩ := only d L H E Q q
      exact hno (fact c' fs ds L H v r k1 (look_mem k2))
end
end NL

end
section
set_option Elab.async false
set_option linter.all false
set_option maxRecDepth 100000
set_option maxHeartbeats 4000000
namespace NL
open PySem PySem.Spec PyProof.Rows L2 L2H
variable {R : RC} {T : Tb} {F : Nat} {nm : Nm} {ad : Ad} {n : Nat} {S : Sur}
theorem noStars_hd {e : Expr} {es : List Expr} (h : noStars (e :: es) = true) : isStar e = false ∧ noStars es = true := by
  unfold noStars at h
  rw [List.all_cons, Bool.and_eq_true] at h
  exact ⟨by simpa using h.1, h.2⟩
theorem plainI_ok {sc : Scope} {e : Expr} {env : Env} (h : plainI sc e = true) : ∀ x, foldedSetIterable e env x = pure x := by
  intro x
  cases e <;> first | rfl | (cases h)
theorem evI_len {it : It} {ρ : List Sl} : True := trivial
theorem cmp_bl {o : COp} {a b : Ex} {ρ : List Sl} {z : D} (e : ((ev S a ρ).bind fun x => (ev S b ρ).bind fun y => cmpD o x y) = .ok z) : ∃ b, z = .bl b := by
  cases e1 : ev S a ρ <;> rw [e1] at e <;> simp only [Out.bind] at e <;> first | (cases e; done) | skip
  cases e2 : ev S b ρ <;> rw [e2] at e <;> simp only [Out.bind] at e <;> first | (cases e; done) | skip
  exact cmpD_bl e
theorem chain_bl {o o' : COp} {a b d : Ex} {ρ : List Sl} {z : D} (e : ((ev S a ρ).bind fun x => (ev S b ρ).bind fun y => (cmpD o x y).bind fun z => match z with
    | .bl true => (ev S d ρ).bind fun w => cmpD o' y w
    | .bl false => .ok (.bl false)
    | _ => .bad) = .ok z) : ∃ b, z = .bl b := by
  cases e1 : ev S a ρ <;> rw [e1] at e <;> simp only [Out.bind] at e <;> first | (cases e; done) | skip
  cases e2 : ev S b ρ <;> rw [e2] at e <;> simp only [Out.bind] at e <;> first | (cases e; done) | skip
  rename_i x y
  cases e3 : cmpD o x y <;> rw [e3] at e <;> simp only [Out.bind] at e <;> first | (cases e; done) | skip
  split at e
  · cases e4 : ev S d ρ <;> rw [e4] at e <;> simp only [Out.bind] at e <;> first | (cases e; done) | skip
    exact cmpD_bl e
  · cases e
    exact ⟨_, rfl⟩
  · cases e
theorem tys_len {X : Cx} {W : WX} (c : Cn X R T F nm ad n W S) : ∀ {cs : List Cl} {es : List Expr}, agCs nm X.env.scope cs es = true → cs.length = es.length
  | [], [], _ => rfl
  | [], _ :: _, h => by simp [agCs] at h
  | _ :: _, [], h => by simp [agCs] at h
  | _ :: cs, _ :: es, h => by
    simp only [agCs, Bool.and_eq_true] at h
    rw [List.length_cons, List.length_cons, tys_len c h.2]
theorem toSiH {X : Cx} {W : WX} {tg e : Expr} {t : TI} {f : List Sl → Out (List D)} (h : PIH X tg e t) (g : SndI R W t f) : PIH X tg e (tSi R W f) := ⟨fun pins s σ H Q I ⟨ρ, L, H0, O, a, b⟩ => h.run pins s σ H Q I (g _ _ _ _ _ _ _ a b)⟩
mutual
theorem esnd : ∀ (x : Ex) {X : Cx} {W : WX} (c : Cn X R T F nm ad n W S) (e : Expr), agE nm X.N X.env.scope x e = true → PE X e (tS R W (ev S x))
  | .var i, X, W, c, e, h => by
    simp only [agE] at h
    split at h
    · rename_i x p
      simp only [Bool.and_eq_true, decide_eq_true_eq] at h
      exact toS (pe_var h.1.1 (visB_ok h.1.2) (nodun1 h.2) (nodun2 h.2)) snd_var
    · cases h
  | .non, X, W, c, e, h => by
    simp only [agE] at h
    obtain ⟨j, p, rfl⟩ := isNone_ex h
    exact toS pe_non fun σ H Q ρ L H0 O s q => fin_non q
  | .bl b, X, W, c, e, h => by
    simp only [agE] at h
    split at h
    · rename_i b' j p
      have eb : b = b' := by simpa using h
      subst eb
      exact toS pe_bl fun σ H Q ρ L H0 O s q => fin_bl q
    · cases h
  | .int i, X, W, c, e, h => by
    simp only [agE] at h
    split at h
    · have eb := of_decide_eq_true h
      subst eb
      exact toS pe_int fun σ H Q ρ L H0 O s q => fin_int q
    · cases h
  | .str i, X, W, c, e, h => by
    simp only [agE] at h
    split at h
    · have eb := of_decide_eq_true h
      subst eb
      exact toS pe_str fun σ H Q ρ L H0 O s q => fin_str q
    · cases h
  | .glo k, X, W, c, e, h => by
    simp only [agE] at h
    split at h
    · simp only [Bool.and_eq_true, decide_eq_true_eq] at h
      obtain ⟨s, t, h1, h2⟩ := c.gf.gn k _ h.1.1
      refine toS (pe_glob (v := .str s) (glB_ok h.1.2) h2 ⟨t, rfl⟩ (nodun1 h.2)) fun σ H Q ρ L H0 O s q => ?_
      simp only [ev] at q
      rw [c.sg, h1] at q
      exact fin_str q
    · cases h
  | .bin o a b, X, W, c, e, h => by
    simp only [agE] at h
    split at h
    · simp only [Bool.and_eq_true, decide_eq_true_eq] at h
      obtain ⟨⟨h1, h2⟩, h3⟩ := h
      subst h1
      obtain ⟨r, hr, hg⟩ := ops_bin (X := X) c.rk o
      exact toS (pe_op hr (esnd a c _ h2) (esnd b c _ h3)) (snd2 sndS sndS hg)
    · cases h
  | .neg a, X, W, c, e, h => by
    simp only [agE] at h
    split at h
    · refine toS (pe_un un_neg (esnd a c _ h)) fun σ H Q ρ L H0 O s q => ?_
      simp only [ev] at q
      refine sndS _ _ _ _ _ _ _ s (q.step.weak fun v H1 ⟨d, e1, r1, m1, h1⟩ => ?_)
      cases d <;> first | exact h1.elim | skip
      simp only [Rep] at r1
      exact ⟨_, r1, fin_int h1⟩
    · cases h
  | .cmp o a b, X, W, c, e, h => by
    simp only [agE] at h
    split at h
    · simp only [Bool.and_eq_true, decide_eq_true_eq, Bool.or_eq_true, Bool.not_eq_true'] at h
      obtain ⟨⟨⟨⟨h1, h2⟩, h3⟩, h4⟩, h5⟩ := h
      subst h1
      by_cases hp : plainC o = true
      · obtain ⟨r, hr, hg⟩ := ops_cmp (X := X) c.rk (room1 c) o hp
        exact toS (pe_cmpR hr (esnd a c _ h4) (esnd b c _ h5) h3) (snd2 sndS sndS hg)
      · have hq := h2.resolve_left hp
        obtain ⟨j, p, rfl⟩ := isNone_ex hq.1
        have eb : b = .non := by
          have q := hq.2
          unfold isNonX at q
          split at q
          · rfl
          · cases q
        subst eb
        cases o <;> first | exact absurd rfl hp | skip
        · refine toS (pe_cmp (pc_isN (esnd a c _ h4)) rfl) fun σ H Q ρ L H0 O s q => ?_
          simp only [ev] at q
          refine sndS _ _ _ _ _ _ _ s (q.step.weak fun v H1 ⟨d, e1, r1, m1, h1⟩ => ?_)
          rw [rep_isN r1]
          exact fin_bl h1
        · refine toS (pe_cmp (pc_notN (esnd a c _ h4)) rfl) fun σ H Q ρ L H0 O s q => ?_
          simp only [ev] at q
          refine sndS _ _ _ _ _ _ _ s (q.step.weak fun v H1 ⟨d, e1, r1, m1, h1⟩ => ?_)
          rw [rep_isN r1]
          exact fin_bl h1
    · cases h
  | .chain o o' a b d, X, W, c, e, h => by
    simp only [agE] at h
    split at h
    · simp only [Bool.and_eq_true, decide_eq_true_eq, Bool.not_eq_true'] at h
      obtain ⟨⟨⟨⟨⟨⟨⟨h1, h2⟩, h3⟩, h4⟩, h5⟩, h6⟩, h7⟩, h8⟩ := h
      subst h1 h2
      obtain ⟨r, hr, hg⟩ := ops_cmp (X := X) c.rk (room1 c) o h3
      obtain ⟨r', hr', hg'⟩ := ops_cmp (X := X) c.rk (room1 c) o' h4
      exact toS (pe_chain hr hr' (esnd a c _ h6) (esnd b c _ h7) (esnd d c _ h8) h5) (snd_chain hg hg' sndS sndS sndS)
    · cases h
  | .and a b, X, W, c, e, h => by
    obtain ⟨p, q, r, pos, rfl, h1, h2⟩ := and_ag h
    refine toS (pe_and (esnd a c _ h1) (tb := tS R W (ev S b)) ?_) (snd_and sndS sndS)
    rcases h2 with ⟨rfl, h2⟩ | h2
    · exact pe_one (esnd b c _ h2)
    · exact esnd b c _ h2
  | .or a b, X, W, c, e, h => by
    obtain ⟨p, q, r, pos, rfl, h1, h2⟩ := or_ag h
    refine toS (pe_or (esnd a c _ h1) (tb := tS R W (ev S b)) ?_) (snd_or sndS sndS)
    rcases h2 with ⟨rfl, h2⟩ | h2
    · exact pe_one (esnd b c _ h2)
    · exact esnd b c _ h2
  | .not a, X, W, c, e, h => by
    simp only [agE] at h
    split at h
    · exact toS (pe_not (esnd a c _ h)) (snd_not sndS)
    · cases h
  | .ife t a b, X, W, c, e, h => by
    simp only [agE] at h
    split at h
    · simp only [Bool.and_eq_true] at h
      exact toS (pe_ifExp (tsnd t c _ h.1.1).1 (esnd a c _ h.1.2) (esnd b c _ h.2)) (snd_ife sndSt sndS sndS)
    · cases h
  | .tup es, X, W, c, e, h => by
    simp only [agE] at h
    split at h
    · rename_i ps k p
      simp only [Bool.and_eq_true, decide_eq_true_eq] at h
      refine toS (pe_tup (asnd es c _ h.1.1 h.1.2)) fun σ H Q ρ L H0 O s q => ?_
      simp only [ev] at q
      refine sndSa _ _ _ _ _ _ _ s ((FinP.step q).weak fun ds H1 ⟨e1, m1, h1⟩ vs rv => ?_)
      refine ⟨?_, fun p np => fin_tup h1 (s.mono m1).ld rv np⟩
      rw [rv.len, sizeLine_eq]
      have := alen es h.1.1 e1
      omega
    · cases h
  | .lst es, X, W, c, e, h => by
    simp only [agE] at h
    split at h
    · rename_i ps p
      simp only [Bool.and_eq_true, decide_eq_true_eq] at h
      refine toS (pe_lst (asnd es c _ h.1.1 h.1.2)) fun σ H Q ρ L H0 O s q => ?_
      simp only [ev] at q
      refine sndSa _ _ _ _ _ _ _ s ((FinP.step q).weak fun ds H1 ⟨e1, m1, h1⟩ vs rv => ?_)
      refine ⟨?_, fun p np => fin_lst h1 (s.mono m1).ld rv np⟩
      rw [rv.len, sizeLine_eq]
      have := alen es h.1.1 e1
      omega
    · cases h
  | .sub a i, X, W, c, e, h => by
    simp only [agE] at h
    split at h
    · simp only [Bool.and_eq_true] at h
      obtain ⟨r, hr, hg⟩ := ops_sub (X := X) c.rk
      exact toS (pe_ix hr (esnd a c _ h.1.1) (esnd i c _ h.1.2) (noSlice_ok h.2)) (snd2 sndS sndS hg)
    · cases h
  | .slice a lo hi, X, W, c, e, h => by
    simp only [agE] at h
    split at h
    · simp only [Bool.and_eq_true] at h
      obtain ⟨r, hr, hg⟩ := ops_slice (X := X) c.rk
      refine toS (pe_slice hr (esnd a c _ h.1.1) (osnd lo c _ h.1.2) (osnd hi c _ h.2)) fun σ H Q ρ L H0 O s q => ?_
      simp only [ev] at q
      refine sndS _ _ _ _ _ _ _ s (q.step.weak fun v H1 ⟨d, e1, r1, m1, h1⟩ => ?_)
      refine sndSo _ _ _ _ _ _ _ (s.mono m1) ((FinP.step h1).weak fun l H2 ⟨e2, m2, h2⟩ => ?_)
      refine sndSo _ _ _ _ _ _ _ (s.mono (m1.trans m2)) ((FinP.step h2).weak fun u H3 ⟨e3, m3, h3⟩ => ?_)
      exact hg _ _ _ _ _ _ _ _ (s.mono (m1.trans (m2.trans m3))).ld (Rep.mono (vis_mono (m2.trans m3) fun _ z => z) _ _ r1) h3
    · cases h
  | .call f es, X, W, c, e, h => by
    simp only [agE] at h
    split at h
    · simp only [Bool.and_eq_true, decide_eq_true_eq] at h
      obtain ⟨⟨⟨⟨h1, h2⟩, h3⟩, h4⟩, h5⟩ := h
      obtain ⟨g1, g2, g3⟩ := c.gf.fn f _ h1
      obtain ⟨s1, s2⟩ := noStars_hd h4
      rcases c.md with ⟨m1, m2, m3, m4⟩ | ⟨m1, h, m2, m3, m4⟩
      · refine toS (pe_callS (c.lv.calm f _ h1) m3 (glB_ok h2) g1 g2 g3 (E := fun σ => WE W σ) (fun σ => L2N.passAt c.tk σ) (asnd es c _ h5 h4) (nodun1 h3) (star_cons s1) (by rw [backTo_any]; exact stars_any s2)) fun σ H Q ρ L H0 O s q => ?_
        simp only [ev] at q
        refine sndSa _ _ _ _ _ _ _ s ((FinP.step q).weak fun ds H1 ⟨e1, m1, k1⟩ vs rv => ?_)
        rw [c.sf, m4] at k1
        have nb : run T F n false f ds ≠ .bad := fun z => by rw [z] at k1; exact k1
        obtain ⟨d, d1, d2⟩ := run_len nb
        have eR : (⟨X.K, none, R.ca⟩ : RC) = R := by
          have := c.rk
          cases R
          simp_all
        unfold spC
        rw [eR]
        exact ⟨by rw [rv.len, d2]; exact c.gf.fl f _ d h1 d1, L, ds, (s.mono m1).ld, rv, k1⟩
      · refine toS (pe_callHp (c.lv.hot f _ h1) m4 m3.hot m3.pn (glB_ok h2) g1 g2 g3 (E := fun σ => WE W σ) (fun σ => L2N.passAt c.tk σ) (asnd es c _ h5 h4) (nodun1 h3) (star_cons s1) (by rw [backTo_any]; exact stars_any s2)) fun σ H Q ρ L H0 O s q => ?_
        simp only [ev] at q
        refine sndSa _ _ _ _ _ _ _ s ((FinP.step q).weak fun ds H1 ⟨e1, m1', k1⟩ vs rv => ?_)
        rw [c.sf, m1] at k1
        have nb : run T F n true f ds ≠ .bad := fun z => by rw [z] at k1; exact k1
        obtain ⟨d, d1, d2⟩ := run_len nb
        have eR : (⟨X.K, some h, R.ca⟩ : RC) = R := by
          have := c.rk
          cases R
          simp_all
        unfold spH
        refine ⟨by rw [rv.len, d2]; exact c.gf.fl f _ d h1 d1, h, L, ds, m3.k, (s.mono m1').ld, ?_, ?_⟩
        · rw [eR]; exact rv
        · rw [eR]; exact k1
    · cases h
  | .prim p es, X, W, c, e, h => by
    simp only [agE] at h
    split at h
    · simp only [Bool.and_eq_true, decide_eq_true_eq] at h
      obtain ⟨⟨⟨⟨⟨h1, h2⟩, h3⟩, h4⟩, h5⟩, h6⟩ := h
      obtain ⟨s1, s2⟩ := noStars_hd h5
      have fin : ∀ {r : List V → Hp → VK → Prop}, HoldV R (primD S.hot p) r → SndE R W (tCB r (tSa R W (evs S es))) (ev S (.prim p es)) := fun {r} hg σ H Q ρ L H0 O s q => by
        simp only [ev] at q
        refine sndSa _ _ _ _ _ _ _ s ((FinP.step q).weak fun ds H1 ⟨e1, m1, k1⟩ vs rv => ?_)
        exact hg _ _ _ _ _ _ (s.mono m1).ld rv k1
      by_cases hp : p = .gcd
      · subst hp
        obtain ⟨g1, g2⟩ := c.gf.im _ (by simpa using h2)
        exact toS (pe_callBfun cr_gcd (glB_ok h3) g2 (asnd es c _ h6 h5) (nodun1 h4) (star_cons s1) (by rw [backTo_any]; exact stars_any s2)) (fin gcd_holds)
      · subst h1
        have hb : p.nam ∈ nm.bn := by
          cases p <;> first | exact absurd rfl hp | simpa using h2
        rcases (prim_ok (X := X) c.rk (hot := S.hot) (fun z => (c.md.elim (fun m => m.1) fun m => by rw [m.1] at z; cases z)) p hp).ex with ⟨id, r, k1, k2, k3⟩ | ⟨id, r, k1, k2, k3⟩
        · exact toS (pe_callB k2 (glB_ok h3) (c.gf.bn _ hb) k1 (asnd es c _ h6 h5) (nodun3 h4) (nodun1 h4) (star_cons s1) (by rw [backTo_any]; exact stars_any s2)) (fin k3)
        · exact toS (pe_callTy k2 (glB_ok h3) (c.gf.bn _ hb) k1 (asnd es c _ h6 h5) (nodun3 h4) (nodun1 h4) (star_cons s1) (by rw [backTo_any]; exact stars_any s2)) (fin k3)
    · cases h
  | .meth m o es, X, W, c, e, h => by
    simp [agE] at h
  | .isi a cs one, X, W, c, e, h => by
    simp only [agE] at h
    split at h
    · rename_i x p1 p q p2
      simp only [Bool.and_eq_true, decide_eq_true_eq] at h
      obtain ⟨⟨⟨⟨⟨⟨h1, h2⟩, h3⟩, h4⟩, h5⟩, h6⟩, h7⟩ := h
      subst h1
      obtain ⟨s1, s2⟩ := noStars_hd h5
      obtain ⟨s3, _⟩ := noStars_hd s2
      have hb : ("isinstance" : Str) ∈ nm.bn := by simpa using h2
      obtain ⟨r, k1, k2, k3⟩ := isi_rule c
      cases one with
      | true =>
        simp only at h7
        have h8 : ∃ k, cs = [k] := by
          cases cs with
          | nil => simp [agCs] at h7
          | cons k ks =>
            cases ks with
            | nil => exact ⟨k, rfl⟩
            | cons _ _ => simp [agCs] at h7
        obtain ⟨k, rfl⟩ := h8
        simp only [agCs, Bool.and_true] at h7
        obtain ⟨t1, t2⟩ := cl_ok c h7
        refine toS (pe_callB k1 (glB_ok h3) (c.gf.bn _ hb) (by decide +kernel : bootBuiltins "isinstance" = some (.builtin "isinstance")) (pa_cons (esnd a c _ h6) (pa_cons t2 pa_nil (star_cons s3)) (star_cons s1)) (nodun3 h4) (nodun1 h4) (star_cons s1) (by rw [backTo_any]; exact stars_any s2)) fun σ H Q ρ L H0 O s z => ?_
        simp only [ev] at z
        refine sndS _ _ _ _ _ _ _ s (z.step.weak fun v H1 ⟨d, e1, r1, m1, k⟩ => ?_)
        cases e2 : isAny S.B d [_] with
        | bad => rw [e2] at k; exact k.elim
        | er => exact (isAny_er e2).elim
        | ok b =>
          rw [e2] at k
          exact k2 _ _ _ _ _ _ _ r1 t1 e2 (fin_bl k)
      | false =>
        simp only at h7
        split at h7
        · simp only [Bool.and_eq_true, decide_eq_true_eq] at h7
          obtain ⟨⟨h7, h8⟩, h9⟩ := h7
          obtain ⟨t1, tt, t2, t3⟩ := tys_of c h7 h8
          refine toS (pe_callB k1 (glB_ok h3) (c.gf.bn _ hb) (by decide +kernel : bootBuiltins "isinstance" = some (.builtin "isinstance")) (pa_cons (esnd a c _ h6) (pa_cons (pe_tup t2) pa_nil (star_cons s3)) (star_cons s1)) (nodun3 h4) (nodun1 h4) (star_cons s1) (by rw [backTo_any]; exact stars_any s2)) fun σ H Q ρ L H0 O s z => ?_
          simp only [ev] at z
          refine sndS _ _ _ _ _ _ _ s (z.step.weak fun v H1 ⟨d, e1, r1, m1, k⟩ => ?_)
          refine t3 _ _ _ ⟨?_, fun p np => ?_⟩
          · rw [List.length_map, sizeLine_eq]
            have := tys_len c h7
            omega
          cases e2 : isAny S.B d cs with
          | bad => rw [e2] at k; exact k.elim
          | er => exact (isAny_er e2).elim
          | ok b =>
            rw [e2] at k
            have up : Same H1 (upd H1 p (.tup (cs.map (cl_V R.ca)))) := same_upd np
            have fin : Q (.bl b) (upd H1 p (.tup (cs.map (cl_V R.ca)))) := k _ _ up (by simp only [Rep, id])
            exact k3 _ _ _ _ _ _ _ _ (Rep.mono (vis_mono up fun _ z => z) _ _ r1) t1 h9.2 e2 upd_same fin
        · cases h7
    · cases h
  | .comp own tg it cq elt, X, W, c, e, h => by
    simp only [agE] at h
    split at h
    · simp only [Bool.and_eq_true, decide_eq_true_eq] at h
      obtain ⟨⟨⟨⟨⟨⟨⟨h1, h2⟩, h3⟩, h4⟩, h5⟩, h6⟩, h7⟩, h8⟩ := h
      rename_i p t i ifs csc pos
      rcases c.md with m | ⟨m1, hh, m2, m3, m4⟩
      · have gX : ∀ (s : Shared) (H : Hp) (C : Addr) (cl : List (Str × Addr)) (fp : List Addr), PG (X.blk s H csc (compEnvC csc cl C X.env) fp) t (tSg R tg) := fun s H C cl fp =>
          toSg (X := X.blk s H csc (compEnvC csc cl C X.env) fp) c.rk tg (.inl m.1) c.nd (fun x hx => hx) t h6
        refine toS ?_ fun σ H Q ρ L H0 O s q => comp_snd (S := S) (W := W) (it := it) (cq := cq) (elt := elt) sndSi (sndSg (R := R) (tg := tg)) h5 σ H Q ρ L H0 O s (by
          simp only [ev, m.2.2.2, Bool.false_and, Bool.false_eq_true, if_false] at q
          exact q)
        have q := pe_lc (own := ownOf X.N own) (pos := pos) m.1 c.nd (isnd it (tg := t) c i h1) (blkOk_by h3) gX (fun s H C cl fp => qsnd cq (c.blk m s H csc cl C fp) ifs h7) (fun s H C cl fp => esnd elt (c.blk m s H csc cl C fp) p h8) (plainI_ok h2)
        rw [h4] at q
        exact q
      · by_cases ht : tg.isTup = false
        · have gX : ∀ (s : Shared) (H : Hp) (C : Addr) (cl : List (Str × Addr)) (fp : List Addr), PG (blkH X s H csc (compEnvC csc cl C X.env) fp) t (tSg R tg) := fun s H C cl fp =>
            toSg (X := blkH X s H csc (compEnvC csc cl C X.env) fp) c.rk tg (.inr ht) c.nd (fun x hx => hx) t h6
          refine toS ?_ fun σ H Q ρ L H0 O s q => comp_snd (S := S) (W := W) (it := it) (cq := cq) (elt := elt) sndSi (sndSg (R := R) (tg := tg)) h5 σ H Q ρ L H0 O s (by
            simp only [ev, m1, ht, Bool.true_and, Bool.false_eq_true, if_false] at q
            exact q)
          have q := pe_lcHot (own := ownOf X.N own) (pos := pos) m3.c c.nd (isndH it (tg := t) c i h1 m1) (blkOk_by h3) gX (fun s H C cl fp => qsnd cq (c.blkHot ⟨m1, hh, m2, m3, m4⟩ s H csc cl C fp) ifs h7) (fun s H C cl fp => esnd elt (c.blkHot ⟨m1, hh, m2, m3, m4⟩ s H csc cl C fp) p h8) (plainI_ok h2)
          rw [h4] at q
          exact q
        · refine ⟨fun pins s σ H Q I ⟨ρ, L, H0, O, a, b⟩ => ?_⟩
          simp only [ev, m1, Bool.true_and] at b
          rw [if_pos (by simpa using ht)] at b
          exact b.elim
    · cases h
  | .brw is a, X, W, c, e, h => by
    simp only [agE] at h
    exact toS (esnd a c _ h) (snd_brw sndS)
  | .fld o f, X, W, c, e, h => by
    simp only [agE] at h
    split at h
    · simp only [Bool.and_eq_true, decide_eq_true_eq] at h
      obtain ⟨⟨h1, h2⟩, h3⟩ := h
      subst h1
      exact fld_rule c (esnd o c _ h3) h2
    · cases h
theorem tsnd : ∀ (x : Tx) {X : Cx} {W : WX} (c : Cn X R T F nm ad n W S) (e : Expr), agT nm X.N X.env.scope x e = true → PT X e (tSt R W (evT S x)) ∧ ((∃ op vs p, e = .BoolOp op vs p) → PW X e (tSt R W (evT S x)))
  | .cmp o a b, X, W, c, e, h => by
    simp only [agT] at h
    split at h
    · simp only [Bool.and_eq_true, decide_eq_true_eq, Bool.or_eq_true, Bool.not_eq_true'] at h
      obtain ⟨⟨⟨⟨h1, h2⟩, h3⟩, h4⟩, h5⟩ := h
      subst h1
      refine ⟨?_, fun ⟨_, _, _, z⟩ => nomatch z⟩
      by_cases hp : plainC o = true
      · obtain ⟨r, hr, hg⟩ := ops_cmp (X := X) c.rk (room1 c) o hp
        exact toSt (pt_cmpR hr (esnd a c _ h4) (esnd b c _ h5) h3) (sndT_bl (snd2 sndS sndS hg) fun ρ z e => cmp_bl (a := a) (b := b) e)
      · have hq := h2.resolve_left hp
        obtain ⟨j, p, rfl⟩ := isNone_ex hq.1
        have eb : b = .non := by
          have q := hq.2
          unfold isNonX at q
          split at q
          · rfl
          · cases q
        subst eb
        cases o <;> first | exact absurd rfl hp | skip
        · refine toSt (pt_cmp (pc_isN (esnd a c _ h4)) rfl) fun σ H Q ρ L H0 O s q => ?_
          simp only [evT, ev] at q
          have q : FinP R L H (WE W σ) ((ev S a ρ).bind fun x => (cmpD .isN x .non).bind truthD) Q := by
            cases e : ev S a ρ <;> rw [e] at q <;> exact q
          refine sndS _ _ _ _ _ _ _ s ((Fin.stepP q).weak fun v H1 ⟨d, e1, r1, m1, h1⟩ => ?_)
          refine ⟨_, rfl, ?_⟩
          rw [rep_isN r1]
          exact FinP.now h1
        · refine toSt (pt_cmp (pc_notN (esnd a c _ h4)) rfl) fun σ H Q ρ L H0 O s q => ?_
          simp only [evT, ev] at q
          have q : FinP R L H (WE W σ) ((ev S a ρ).bind fun x => (cmpD .notN x .non).bind truthD) Q := by
            cases e : ev S a ρ <;> rw [e] at q <;> exact q
          refine sndS _ _ _ _ _ _ _ s ((Fin.stepP q).weak fun v H1 ⟨d, e1, r1, m1, h1⟩ => ?_)
          refine ⟨_, rfl, ?_⟩
          rw [rep_isN r1]
          exact FinP.now h1
    · cases h
  | .chain o o' a b d, X, W, c, e, h => by
    simp only [agT] at h
    split at h
    · simp only [Bool.and_eq_true, decide_eq_true_eq, Bool.not_eq_true'] at h
      obtain ⟨⟨⟨⟨⟨⟨⟨h1, h2⟩, h3⟩, h4⟩, h5⟩, h6⟩, h7⟩, h8⟩ := h
      subst h1 h2
      obtain ⟨r, hr, hg⟩ := ops_cmp (X := X) c.rk (room1 c) o h3
      obtain ⟨r', hr', hg'⟩ := ops_cmp (X := X) c.rk (room1 c) o' h4
      refine ⟨toSt (pt_chain hr hr' (esnd a c _ h6) (esnd b c _ h7) (esnd d c _ h8) h5) (sndT_bl (snd_chain hg hg' sndS sndS sndS) fun ρ z e => chain_bl (a := a) (b := b) (d := d) e), fun ⟨_, _, _, z⟩ => nomatch z⟩
    · cases h
  | .val a, X, W, c, e, h => by
    simp only [agT, Bool.and_eq_true] at h
    have hp : plainT e = true := h.2
    refine ⟨toSt (pt_truth (esnd a c _ h.1) (plainT_ok hp)) (sndT_truth c.rk sndS), fun ⟨_, _, _, z⟩ => ?_⟩
    subst z
    cases hp
  | .and a b, X, W, c, e, h => by
    obtain ⟨p, q, r, pos, rfl, h1, h2⟩ := andT_ag h
    have w : PW X (.BoolOp .And (p :: q :: r) pos) (tSt R W (evT S (.and a b))) := by
      refine toSw (pw_and (tsnd a c _ h1).1 (tB' := tSt R W (evT S b)) ?_) (sndT_and sndSt sndSt)
      rcases h2 with ⟨rfl, h2⟩ | h2
      · exact pw_and1 (tsnd b c _ h2).1
      · exact (tsnd b c _ h2).2 ⟨_, _, _, rfl⟩
    exact ⟨w.pt, fun _ => w⟩
  | .or a b, X, W, c, e, h => by
    obtain ⟨p, q, r, pos, rfl, h1, h2⟩ := orT_ag h
    have w : PW X (.BoolOp .Or (p :: q :: r) pos) (tSt R W (evT S (.or a b))) := by
      refine toSw (pw_or (tsnd a c _ h1).1 (tB' := tSt R W (evT S b)) ?_) (sndT_or sndSt sndSt)
      rcases h2 with ⟨rfl, h2⟩ | h2
      · exact pw_or1 (tsnd b c _ h2).1
      · exact (tsnd b c _ h2).2 ⟨_, _, _, rfl⟩
    exact ⟨w.pt, fun _ => w⟩
  | .not a, X, W, c, e, h => by
    simp only [agT] at h
    split at h
    · exact ⟨toSt (pt_not (tsnd a c _ h).1) (sndT_not sndSt), fun ⟨_, _, _, z⟩ => nomatch z⟩
    · cases h
theorem asnd : ∀ (x : Es) {X : Cx} {W : WX} (c : Cn X R T F nm ad n W S) (es : List Expr), agEs nm X.N X.env.scope x es = true → noStars es = true → PA X es (tSa R W (evs S x))
  | .nil, X, W, c, es, h, hs => by
    simp only [agEs, List.isEmpty_iff] at h
    subst h
    exact toSa pa_nil sndA_nil
  | .cons a r, X, W, c, es, h, hs => by
    simp only [agEs] at h
    split at h
    · rw [Bool.and_eq_true] at h
      obtain ⟨s1, s2⟩ := noStars_hd hs
      exact toSa (pa_cons (esnd a c _ h.1) (asnd r c _ h.2 s2) (star_cons s1)) (sndA_cons sndS sndSa)
    · cases h
theorem alen : ∀ (x : Es) {N : List Str} {sc : Scope} {es : List Expr} {ρ : List Sl} {ds : List D}, agEs nm N sc x es = true → evs S x ρ = .ok ds → ds.length = es.length
  | .nil, N, sc, es, ρ, ds, h, k => by
    simp only [agEs, List.isEmpty_iff] at h
    simp only [evs, Out.ok.injEq] at k
    rw [h, ← k]
    rfl
  | .cons a r, N, sc, es, ρ, ds, h, k => by
    simp only [agEs] at h
    split at h
    · rw [Bool.and_eq_true] at h
      simp only [evs] at k
      cases e1 : ev S a ρ with
      | ok d =>
        rw [e1] at k
        cases e2 : evs S r ρ with
        | ok ds' =>
          rw [e2] at k
          simp only [Out.bind, Out.ok.injEq] at k
          rw [← k, List.length_cons, List.length_cons, alen r h.2 e2]
        | er => rw [e2] at k; simp at k
        | bad => rw [e2] at k; simp at k
      | er => rw [e1] at k; simp at k
      | bad => rw [e1] at k; simp at k
    · cases h
theorem qsnd : ∀ (x : Tq) {X : Cx} {W : WX} (c : Cn X R T F nm ad n W S) (es : List Expr), agQ nm X.N X.env.scope x es = true → PTs X es (tSt R W (evq S x))
  | .yes, X, W, c, es, h => by
    simp only [agQ, List.isEmpty_iff] at h
    subst h
    exact ⟨fun pins s σ H Q I ⟨ρ, L, H0, O, a, b⟩ => pts_nil.run pins s σ H Q I (FinP.now b)⟩
  | .one t, X, W, c, es, h => by
    simp only [agQ] at h
    split at h
    · exact pts_one (tsnd t c _ h).1
    · cases h
theorem isnd : ∀ (x : It) {X : Cx} {W : WX} (c : Cn X R T F nm ad n W S) {tg : Expr} (e : Expr), agI nm X.N X.env.scope x e = true → PI X tg e (tSi R W (evI S x))
  | .seq a, X, W, c, tg, e, h => by
    simp only [agI] at h
    refine toSi (pi_seq (esnd a c _ h)) fun σ H Q ρ L H0 O s q => ?_
    simp only [evI] at q
    refine sndS _ _ _ _ _ _ _ s ((Fin.stepP q).weak fun v H1 ⟨d, e1, r1, m1, h1⟩ => ?_)
    cases d <;> simp only [seqOf] at h1 <;> first | exact h1.elim | skip
    all_goals simp only [Rep] at r1
    · obtain ⟨p, xs, rfl, h2, h3⟩ := r1
      rw [c.rk] at h2
      exact ⟨p, rfl, .inr ⟨⟨xs, same_sqT vis_ge h2⟩, h1.now _ (iterS_tup h2 h3)⟩⟩
    · obtain ⟨p, xs, rfl, h2, h3⟩ := r1
      exact ⟨p, rfl, .inl ⟨⟨xs, SqL.of (vis_ge _ _ h2)⟩, h1.now _ (iterS_list (SqL.of h2) h3)⟩⟩
    · obtain ⟨p, rfl, h2⟩ := r1
      rw [c.rk] at h2
      exact ⟨p, rfl, .inl ⟨⟨_, vis_ge.seq h2⟩, h1.now _ (iterS_list h2 reps_ints)⟩⟩
  | .rng1 a, X, W, c, tg, e, h => by
    simp only [agI] at h
    split at h
    · simp only [Bool.and_eq_true, decide_eq_true_eq] at h
      obtain ⟨⟨⟨⟨h1, h2⟩, h3⟩, h4⟩, h5⟩ := h
      subst h1
      obtain ⟨s1, _⟩ := noStars_hd h4
      refine toSi (pi_range1 (glB_ok h3) (c.gf.bn _ (by simpa using h2)) (pa_cons (esnd a c _ h5) pa_nil (star_cons s1)) (star_cons s1)) fun σ H Q ρ L H0 O s q => ?_
      simp only [evI] at q
      refine sndS _ _ _ _ _ _ _ s ((Fin.stepP q).weak fun v H1 ⟨d, e1, r1, m1, h1⟩ => ?_)
      cases d <;> first | exact h1.elim | skip
      rename_i hi
      simp only [Rep] at r1
      simp only at h1
      split at h1
      · rename_i hk
        have hk := rngOk_ok hk
        refine ⟨hi, by rw [r1], hk.2.2.1, hk.2.2.2, ?_⟩
        have e : (hi - 0).toNat = hi.toNat := by rw [Int.sub_zero]
        have := h1.now (Itr 0 (hi - 0).toNat) iterS_rng
        rw [e] at this
        exact this
      · exact h1.elim
    · cases h
  | .rng2 a b, X, W, c, tg, e, h => by
    simp only [agI] at h
    split at h
    · simp only [Bool.and_eq_true, decide_eq_true_eq] at h
      obtain ⟨⟨⟨⟨⟨h1, h2⟩, h3⟩, h4⟩, h5⟩, h6⟩ := h
      subst h1
      obtain ⟨s1, s2⟩ := noStars_hd h4
      obtain ⟨s3, _⟩ := noStars_hd s2
      refine toSi (pi_range2 (glB_ok h3) (c.gf.bn _ (by simpa using h2)) (pa_cons (esnd a c _ h5) (pa_cons (esnd b c _ h6) pa_nil (star_cons s3)) (star_cons s1)) (by rw [star_cons s1, star_cons s3]; rfl) (star_cons s3)) fun σ H Q ρ L H0 O s q => ?_
      simp only [evI] at q
      refine sndS _ _ _ _ _ _ _ s ((Fin.stepP q).weak fun v H1 ⟨d, e1, r1, m1, h1⟩ => ?_)
      refine sndS _ _ _ _ _ _ _ (s.mono m1) ((Fin.stepP h1).weak fun w H2 ⟨d2, e2, r2, m2, h2⟩ => ?_)
      cases d <;> first | exact h2.elim | skip
      cases d2 <;> first | exact h2.elim | skip
      simp only [Rep] at r1 r2
      simp only at h2
      split at h2
      · rename_i hk
        have hk := rngOk_ok hk
        exact ⟨_, _, by rw [r1, r2], hk, h2.now _ iterS_rng⟩
      · exact h2.elim
    · cases h
theorem isndH : ∀ (x : It) {X : Cx} {W : WX} (c : Cn X R T F nm ad n W S) {tg : Expr} (e : Expr), agI nm X.N X.env.scope x e = true → S.hot = true → PIH X tg e (tSi R W (evI S x))
  | .seq a, X, W, c, tg, e, h, hot => by
    simp only [agI] at h
    refine toSiH (pi_seqH (esnd a c _ h)) fun σ H Q ρ L H0 O s q => ?_
    simp only [evI] at q
    refine sndS _ _ _ _ _ _ _ s ((Fin.stepP q).weak fun v H1 ⟨d, e1, r1, m1, h1⟩ => ?_)
    cases d <;> simp only [seqOf] at h1 <;> first | exact h1.elim | skip
    all_goals simp only [Rep] at r1
    · obtain ⟨p, xs, rfl, h2, h3⟩ := r1
      rw [c.rk] at h2
      exact ⟨p, rfl, .inr ⟨⟨xs, same_sqT vis_ge h2⟩, h1.now _ (iterS_tup h2 h3)⟩⟩
    · obtain ⟨p, xs, rfl, h2, h3⟩ := r1
      exact ⟨p, rfl, .inl ⟨⟨xs, SqL.of (vis_ge _ _ h2)⟩, h1.now _ (iterS_list (SqL.of h2) h3)⟩⟩
    · obtain ⟨p, rfl, h2⟩ := r1
      rw [c.rk] at h2
      exact ⟨p, rfl, .inl ⟨⟨_, vis_ge.seq h2⟩, h1.now _ (iterS_list h2 reps_ints)⟩⟩
  | .rng1 a, X, W, c, tg, e, h, hot => by
    simp only [agI] at h
    split at h
    · simp only [Bool.and_eq_true, decide_eq_true_eq] at h
      obtain ⟨⟨⟨⟨h1, h2⟩, h3⟩, h4⟩, h5⟩ := h
      subst h1
      obtain ⟨s1, _⟩ := noStars_hd h4
      refine toSiH (pi_range1H (glB_ok h3) (c.gf.bn _ (by simpa using h2)) (pa_cons (esnd a c _ h5) pa_nil (star_cons s1)) (star_cons s1)) fun σ H Q ρ L H0 O s q => ?_
      simp only [evI] at q
      refine sndS _ _ _ _ _ _ _ s ((Fin.stepP q).weak fun v H1 ⟨d, e1, r1, m1, h1⟩ => ?_)
      cases d <;> first | exact h1.elim | skip
      rename_i hi
      simp only [Rep] at r1
      simp only at h1
      split at h1
      · rename_i hk
        have hk := rngOk_ok hk
        refine ⟨hi, by rw [r1], hk.2.2.1, hk.2.2.2, ?_⟩
        have e : (hi - 0).toNat = hi.toNat := by rw [Int.sub_zero]
        have := h1.now (Itr 0 (hi - 0).toNat) iterS_rng
        rw [e] at this
        exact this
      · exact h1.elim
    · cases h
  | .rng2 a b, X, W, c, tg, e, h, hot => by
    simp only [agI] at h
    split at h
    · simp only [Bool.and_eq_true, decide_eq_true_eq] at h
      obtain ⟨⟨⟨⟨⟨h1, h2⟩, h3⟩, h4⟩, h5⟩, h6⟩ := h
      subst h1
      obtain ⟨s1, s2⟩ := noStars_hd h4
      obtain ⟨s3, _⟩ := noStars_hd s2
      refine toSiH (pi_range2H (glB_ok h3) (c.gf.bn _ (by simpa using h2)) (pa_cons (esnd a c _ h5) (pa_cons (esnd b c _ h6) pa_nil (star_cons s3)) (star_cons s1)) (by rw [star_cons s1, star_cons s3]; rfl) (star_cons s3)) fun σ H Q ρ L H0 O s q => ?_
      simp only [evI] at q
      refine sndS _ _ _ _ _ _ _ s ((Fin.stepP q).weak fun v H1 ⟨d, e1, r1, m1, h1⟩ => ?_)
      refine sndS _ _ _ _ _ _ _ (s.mono m1) ((Fin.stepP h1).weak fun w H2 ⟨d2, e2, r2, m2, h2⟩ => ?_)
      cases d <;> first | exact h2.elim | skip
      cases d2 <;> first | exact h2.elim | skip
      simp only [Rep] at r1 r2
      simp only at h2
      split at h2
      · rename_i hk
        have hk := rngOk_ok hk
        exact ⟨_, _, by rw [r1, r2], hk, h2.now _ iterS_rng⟩
      · exact h2.elim
    · cases h
theorem osnd : ∀ (x : Ox) {X : Cx} {W : WX} (c : Cn X R T F nm ad n W S) (e : Option Expr), agO nm X.N X.env.scope x e = true → PO X e (tSo R W (evo S x))
  | .no, X, W, c, e, h => by
    simp only [agO, Option.isNone_iff_eq_none] at h
    subst h
    exact toSo po_none fun σ H Q ρ L H0 O s q => FinP.now q
  | .yes a, X, W, c, e, h => by
    simp only [agO] at h
    split at h
    · refine toSo (po_some (esnd a c _ h)) fun σ H Q ρ L H0 O s q => ?_
      simp only [evo] at q
      refine sndS _ _ _ _ _ _ _ s ((Fin.stepP q).weak fun v H1 ⟨d, e1, r1, m1, h1⟩ => ?_)
      cases d <;> first | exact h1.elim | skip
      simp only [Rep] at r1
      exact ⟨_, r1, FinP.now h1⟩
    · cases h
end
end NL

end
section
set_option Elab.async false
set_option linter.all false
set_option maxRecDepth 100000
set_option maxHeartbeats 4000000
namespace NL
open PySem PySem.Spec PyProof.Rows L2 L2H
/-! ### the checker of statements -/
def isComp : Expr → Bool
  | .ListComp _ _ _ _ | .SetComp _ _ _ _ | .DictComp _ _ _ _ _ => true
  | _ => false
def isTup : Expr → Bool
  | .Tuple _ _ _ | .List _ _ => true
  | _ => false
def isStrC : Expr → Bool
  | .Constant (.str _) _ _ => true
  | _ => false
/-- does y = [..] store within the comprehension's frame? -/
def swB (sc : Scope) (y : Str) (py : Pos) (csc : Scope) (pos : Pos) : Bool :=
  decide (sc.names.lookup y = some .local) && (py.line == pos.line) && !(csc.names.any fun (n, k) => n == y && (k == .local || k == .cell))
def isFr : Ex → Bool
  | .lst _ => true
  | .comp _ _ _ _ _ => true
  | .prim .list _ => true
  | .slice _ _ _ => true
  | .bin .add _ _ => true
  | .bin .mul _ _ => true
  | _ => false
def compX : Ex → Bool
  | .comp _ _ _ _ _ => true
  | _ => false
/-- a try's one expression -/
def agTb (nm : Nm) (N : List Str) (sc : Scope) (k : TryK) (e : Ex) (b : List Stmt) : Bool := match k, b with
  | .expr, [.Expr v _] => agE nm N sc e v && !isComp v
  | .set i, [.Assign [t] v _] => agG (fun _ => true) N sc i t && agE nm N sc e v && !isComp v
  | .ret, [.Return (some v) _] => agE nm N sc e v
  | .thn r, [.Expr v _, .Return (some u) _] => agE nm N sc e v && !isComp v && agE nm N sc r u
  | _, _ => false
mutual
def agS (nm : Nm) (N : List Str) (sc : Scope) : Sm → Stmt → Bool
  | .frz _, _ => false
  | .set i e, s => (match s with | .Assign [t] v _ => agG (fun _ => true) N sc i t && agE nm N sc e v && (!isComp v || compX e) | _ => false)
  | .own i e, s => (match s with | .Assign [t] v _ => agG (fun _ => true) N sc i t && agE nm N sc e v && (!isComp v || compX e) && isFr e | _ => false)
  | .unp is e, s => (match s with | .Assign [t] v _ => agTg (fun _ => true) N sc (.tup is) t && agE nm N sc e v && !isComp v && !isTup v | _ => false)
  | .aug i o e, s => (match s with | .AugAssign t op v _ => agG (fun _ => true) N sc i t && agE nm N sc e v && decide (opPy o = op) && (match o with | .add | .sub => true | _ => false) | _ => false)
  | .app i e, s => (match s with
    | .Expr (.Call (.Attribute (.Name x p) a p2) [v] [] p3) _ => decide (a = "append") && decide (N[i]? = some x) && visB sc x && nodun x && agE nm N sc e v && !isStar v && (p2.endLine == p3.line)
    | _ => false)
  | .put i k e, s => (match s with
    | .Assign [.Subscript (.Name x p) j _] v _ => decide (N[i]? = some x) && visB sc x && nodun x && agE nm N sc k j && agE nm N sc e v && !isComp v && noSlice j
    | _ => false)
  | .expr e, s => (match s with | .Expr v _ => agE nm N sc e v && !isComp v | _ => false)
  | .ife c a b, s => (match s with | .If t u v _ => agT nm N sc c t && agSs nm N sc a u && agSs nm N sc b v | _ => false)
  | .for tg it b, s => (match s with | .For t i u [] _ => agTg (fun _ => true) N sc tg t && agI nm N sc it i && plainI sc i && agSs nm N sc b u | _ => false)
  | .while c b, s => (match s with | .While t u [] _ => agT nm N sc c t && agSs nm N sc b u | _ => false)
  | .ret e, s => (match s with | .Return (some v) _ => agE nm N sc e v | _ => false)
  | .retN, s => (match s with | .Return none _ => true | _ => false)
  | .brk, s => (match s with | .Break _ => true | _ => false)
  | .cont, s => (match s with | .Continue _ => true | _ => false)
  | .pas, s => (match s with | .Pass _ => true | .Expr v _ => isStrC v | _ => false)
  | .raise k es, s => (match s with | .Raise (some (.Call (.Name x _) (p :: ps) [] _)) none _ => decide (x = k) && nm.cl.contains k && glB sc x && nodun x && noStars (p :: ps) && decide (ps.length ≤ 900) && agEs nm N sc es (p :: ps) | _ => false)
  | .try k e hs, s => (match s with | .Try b (h :: r) [] [] _ => agTb nm N sc k e b && agHs nm N sc hs (h :: r) | _ => false)
  | .nev, _ => true
def agSs (nm : Nm) (N : List Str) (sc : Scope) : Ss → List Stmt → Bool
  | .nil, ss => ss.isEmpty
  | .cons (.frz _) r, ss => agSs nm N sc r ss
  | .cons s r, ss => (match ss with | p :: ps => agS nm N sc s p && agSs nm N sc r ps | [] => false)
def agHs (nm : Nm) (N : List Str) (sc : Scope) : Hs → List ExceptHandler → Bool
  | .nil, hs => hs.isEmpty
  | .cons c i b r, hs => (match hs with
    | .ExceptHandler (some (.Name x _)) y (s :: ss) _ :: hs => decide (x = c) && nm.cl.contains x && glB sc x && nodun x && (match i, y with
      | none, none => true
      | some j, some z => decide (N[j]? = some z) && decide (sc.names.lookup z = some .local)
      | _, _ => false) && agSs nm N sc b (s :: ss) && agHs nm N sc r hs
    | _ => false)
end

/-! ### what is wanted of a statement's outcome -/
def FinS (R : RC) (O : List Addr) (H0 : Hp) (W : WX) (r : FO) (D : Ends) : Prop := match r with
  | .ok (.nx ρ) => ∀ σ H L, SR R H0 O H L σ ρ → D.nx σ H
  | .ok (.rt d) => ∀ v H, Same H0 H → Rep R (vis H O) d v → D.rt v H
  | .ok (.bk ρ) => ∀ σ H L, SR R H0 O H L σ ρ → D.bk σ H
  | .ok (.ct ρ) => ∀ σ H L, SR R H0 O H L σ ρ → D.ct σ H
  | .er c fs ds => R.hx = none ∧ ∀ cls dd σ H, Same H0 H → XR R (vis H O) cls dd c fs ds → W cls dd σ H
  | .bad => False
abbrev SndS (R : RC) (W : WX) (t : TS) (f : List Sl → FO) : Prop := ∀ (σ : St) (H : Hp) (D : Ends) (ρ : List Sl) (L : List Addr) (H0 : Hp) (O : List Addr), SR R H0 O H L σ ρ → FinS R O H0 W (f ρ) D → t D σ H
def tSs (R : RC) (W : WX) (f : List Sl → FO) : TS := fun D σ H => ∃ ρ L H0 O, SR R H0 O H L σ ρ ∧ FinS R O H0 W (f ρ) D
section
variable {X : Cx} {R : RC} {T : Tb} {F : Nat} {nm : Nm} {ad : Ad} {n : Nat} {W : WX} {S : Sur}
theorem sndSs {f : List Sl → FO} : SndS R W (tSs R W f) f := fun _ _ _ ρ L H0 O s h => ⟨ρ, L, H0, O, s, h⟩
theorem toSs {st : Stmt} {t : TS} {f : List Sl → FO} (h : PS X st t) (g : SndS R W t f) : PS X st (tSs R W f) := ⟨fun pins s σ H D I ⟨ρ, L, H0, O, a, b⟩ => h.run pins s σ H D I (g _ _ _ _ _ _ _ a b)⟩
theorem toSss {st : List Stmt} {t : TS} {f : List Sl → FO} (h : PSs X st t) (g : SndS R W t f) : PSs X st (tSs R W f) := ⟨fun pins s σ H D I ⟨ρ, L, H0, O, a, b⟩ => h.run pins s σ H D I (g _ _ _ _ _ _ _ a b)⟩
theorem XR.mono {G G' : Hp} {cls : Value} {dd : Option Addr} {c : Str} {fs : List Str} {ds : List D} (h : XR R G cls dd c fs ds) (e : Same G G') : XR R G' cls dd c fs ds := by
  obtain ⟨h1, xfs, h2, h3, h4⟩ := h
  refine ⟨h1, xfs, h2, Reps.mono e _ _ h3, ?_⟩
  rcases h4 with h4 | ⟨d, h4, h5⟩
  · exact .inl h4
  · exact .inr ⟨d, h4, e _ _ h5⟩
/-- an expression's outcome within a statement -/
theorem FinS.step {O L : List Addr} {H0 H : Hp} {σ : St} {ρ : List Sl} {r : Res} {k : D → FO} {Dn : Ends} (s : SR R H0 O H L σ ρ) (h : FinS R O H0 W (r.bind k) Dn) :
    Fin R L H (WE W σ) r fun v H1 => ∃ d, r = .ok d ∧ Rep R (vis H1 L) d v ∧ Same H H1 ∧ FinS R O H0 W (k d) Dn := by
  cases r with
  | ok d => exact fun v H1 m rv => ⟨d, rfl, rv, m, h⟩
  | er c fs ds => exact ⟨h.1, fun cls dd H1 m x => h.2 cls dd σ H1 (s.same.trans m) (x.mono (vis_mono (Same.refl _) s.ol))⟩
  | bad => exact h
theorem FinS.stepP {α : Type} {O L : List Addr} {H0 H : Hp} {σ : St} {ρ : List Sl} {r : Out α} {k : α → FO} {Dn : Ends} (s : SR R H0 O H L σ ρ) (h : FinS R O H0 W (r.bind k) Dn) :
    FinP R L H (WE W σ) r fun a H1 => r = .ok a ∧ Same H H1 ∧ FinS R O H0 W (k a) Dn := by
  cases r with
  | ok d => exact fun H1 m => ⟨rfl, m, h⟩
  | er c fs ds => exact ⟨h.1, fun cls dd H1 m x => h.2 cls dd σ H1 (s.same.trans m) (x.mono (vis_mono (Same.refl _) s.ol))⟩
  | bad => exact h
theorem FinS.weak {O : List Addr} {H0 : Hp} {r : FO} {D D' : Ends} (h : FinS R O H0 W r D) (h1 : ∀ σ H, D.nx σ H → D'.nx σ H) (h2 : ∀ v H, D.rt v H → D'.rt v H) (h3 : ∀ σ H, D.bk σ H → D'.bk σ H) (h4 : ∀ σ H, D.ct σ H → D'.ct σ H) : FinS R O H0 W r D' := by
  cases r with
  | ok f =>
    cases f with
    | nx ρ => exact fun σ H L s => h1 _ _ (h σ H L s)
    | rt d => exact fun v H m r => h2 _ _ (h v H m r)
    | bk ρ => exact fun σ H L s => h3 _ _ (h σ H L s)
    | ct ρ => exact fun σ H L s => h4 _ _ (h σ H L s)
  | er c fs ds => exact h
  | bad => exact h
/-- y = e where e stands as data -/
theorem sndS_set {te : TE} {fe : List Sl → Res} {i : Nat} (he : SndE R W te fe) : SndS R W (tAsg te (gName i)) fun ρ => (fe ρ).bind fun d => .ok (.nx (ρ.set i (.dat d))) := by
  intro σ H D ρ L H0 O s h
  refine he _ _ _ _ _ _ _ s ((FinS.step s h).weak fun v H1 ⟨d, e1, r1, m1, h1⟩ => ?_)
  exact h1 _ _ _ ((s.mono m1).set i r1)
theorem sndS_unp {te : TE} {fe : List Sl → Res} {is : List Nat} (he : SndE R W te fe) : SndS R W (tAsg te (tSg R (.tup is))) fun ρ => (fe ρ).bind fun d => (setTg ρ (.tup is) d).bind fun r => .ok (.nx r) := by
  intro σ H D ρ L H0 O s h
  refine he _ _ _ _ _ _ _ s ((FinS.step s h).weak fun v H1 ⟨d, e1, r1, m1, h1⟩ => ?_)
  cases e : setTg ρ (.tup is) d with
  | bad => rw [e] at h1; exact h1.elim
  | er => 
    exfalso
    cases d <;> simp only [setTg] at e <;> first | (cases e; done) | (split at e <;> cases e)
  | ok r =>
    rw [e] at h1
    exact sndSg _ _ _ _ _ _ _ _ _ _ (s.mono m1) r1 e fun σ' s' _ => h1 _ _ _ s'
theorem sndS_expr {te : TE} {fe : List Sl → Res} (he : SndE R W te fe) : SndS R W (tDrop te) fun ρ => (fe ρ).bind fun _ => .ok (.nx ρ) := by
  intro σ H D ρ L H0 O s h
  refine he _ _ _ _ _ _ _ s ((FinS.step s h).weak fun v H1 ⟨d, e1, r1, m1, h1⟩ => ?_)
  exact h1 _ _ _ (s.mono m1)
theorem sndS_ret {te : TE} {fe : List Sl → Res} (he : SndE R W te fe) : SndS R W (tRet te) fun ρ => (fe ρ).bind fun d => .ok (.rt d) := by
  intro σ H D ρ L H0 O s h
  refine he _ _ _ _ _ _ _ s ((FinS.step s h).weak fun v H1 ⟨d, e1, r1, m1, h1⟩ => ?_)
  exact h1 _ _ (s.same.trans m1) (Rep.mono (vis_mono (Same.refl _) s.ol) _ _ r1)
theorem sndS_if {tc : TT} {ta tb : TS} {fc : List Sl → Out Bool} {fa fb : List Sl → FO} (hc : SndT R W tc fc) (ha : SndS R W ta fa) (hb : SndS R W tb fb) : SndS R W (tIfS tc ta tb) fun ρ => (fc ρ).bind fun t => match t with
    | true => fa ρ
    | false => fb ρ := by
  intro σ H D ρ L H0 O s h
  refine hc _ _ _ _ _ _ _ s ((FinS.stepP s h).weak fun t H1 ⟨e1, m1, h1⟩ => ?_)
  cases t with
  | true => exact iteT (ha _ _ _ _ _ _ _ (s.mono m1) h1)
  | false => exact iteF (hb _ _ _ _ _ _ _ (s.mono m1) h1)
theorem sndS_seq {ta tb : TS} {fa fb : List Sl → FO} (ha : SndS R W ta fa) (hb : SndS R W tb fb) : SndS R W (tSeq ta tb) fun ρ => seqF (fa ρ) fb := by
  intro σ H D ρ L H0 O s h
  refine ha _ _ _ _ _ _ _ s ?_
  have h : FinS R O H0 W (seqF (fa ρ) fb) D := h
  cases e : fa ρ with
  | ok f =>
    rw [e] at h
    cases f with
    | nx ρ' => exact fun σ' H' L' s' => hb _ _ _ _ _ _ _ s' h
    | rt d => exact h
    | bk ρ' => exact h
    | ct ρ' => exact h
  | er c fs ds => rw [e] at h; exact h
  | bad => rw [e] at h; exact h
/-- the part of the heap that stands in a loop: all but what the frame owns -/
def baseH (H0 H : Hp) (L : List Addr) : Hp := fun a => if a ∈ L ∧ H0 a = none then none else H a
theorem SR.up {H0 H : Hp} {O L : List Addr} {σ : St} {ρ : List Sl} (s : SR R H0 O H L σ ρ) : SR R (baseH H0 H L) O H L σ ρ ∧ Same H0 (baseH H0 H L) ∧ Same (vis H L) (baseH H0 H L) := by
  have g1 : Same H0 (baseH H0 H L) := fun a o e => by
    unfold baseH
    rw [if_neg fun z => by rw [e] at z; cases z.2]
    exact s.same a o e
  refine ⟨⟨fun a o e => ?_, s.len, s.ol, fun a h => (s.od a h).elim fun o w => ⟨o, g1 a o w⟩, s.ld, fun a h => (s.lo a h).elim .inl fun z => .inr (by unfold baseH; rw [if_pos ⟨h, z⟩]), fun i t v h1 h2 => ?_, s.ap⟩, g1, fun a o e => ?_⟩
  · unfold baseH at e
    split at e
    · cases e
    · exact e
  · have k := s.sl i t v h1 h2
    cases t with
    | un => trivial
    | dat d => exact k
    | own d =>
      obtain ⟨l, k1, k2, k3, k4⟩ := k
      refine ⟨l, k1, k2, ?_, k4⟩
      unfold baseH
      rw [if_pos ⟨k2, k3⟩]
  · unfold vis at e
    split at e
    · cases e
    · rename_i z
      unfold baseH
      rw [if_neg fun w => z w.1]
      exact e
theorem SR.down {H0 H1 H : Hp} {O L : List Addr} {σ : St} {ρ : List Sl} (s : SR R H1 O H L σ ρ) (g : Same H0 H1) (od : ∀ a ∈ O, ∃ o, H0 a = some o) : SR R H0 O H L σ ρ := by
  refine ⟨g.trans s.same, s.len, s.ol, od, s.ld, fun a h => (s.lo a h).elim .inl fun z => .inr (g.free z), fun i t v h1 h2 => ?_, s.ap⟩
  have k := s.sl i t v h1 h2
  cases t with
  | un => trivial
  | dat d => exact k
  | own d =>
    obtain ⟨l, k1, k2, k3, k4⟩ := k
    exact ⟨l, k1, k2, g.free k3, k4⟩
theorem FinS.base {O : List Addr} {H0 B : Hp} {r : FO} {D : Ends} (h : FinS R O H0 W r D) (g : Same H0 B) (od : ∀ a ∈ O, ∃ o, H0 a = some o) : FinS R O B W r D := by
  cases r with
  | ok f =>
    cases f with
    | nx ρ => exact fun σ H L s => h σ H L (s.down g od)
    | rt d => exact fun v H m r => h v H (g.trans m) r
    | bk ρ => exact fun σ H L s => h σ H L (s.down g od)
    | ct ρ => exact fun σ H L s => h σ H L (s.down g od)
  | er c fs ds => exact ⟨h.1, fun cls dd σ H m x => h.2 cls dd σ H (g.trans m) x⟩
  | bad => exact h
theorem sndS_for {wi : TI} {tb : TS} {tg : Tg} {it : It} {fb : List Sl → FO} (hw : SndI R W wi (evI S it)) (hb : SndS R W tb fb) : SndS R W (tFor wi (tSg R tg) tb) fun ρ => (evI S it ρ).bind fun ds => loopF tg fb ds ρ := by
  intro σ H D ρ L H0 O s h
  refine hw _ _ _ _ _ _ _ s ((FinS.stepP s h).weak fun ds H1 ⟨e1, m1, h1⟩ J hJ => ?_)
  have s1 := s.mono m1
  obtain ⟨s2, g1, g2⟩ := s1.up
  have h2 := h1.base g1 s.od
  generalize hB : baseH H0 H1 L = B at s2 g1 g2 h2
  generalize hr : loopF tg fb ds ρ = r at h2
  refine ⟨fun i m σ' H' => m = ds.length - i ∧ i ≤ ds.length ∧ ∃ ρ' L', SR R B O H' L' σ' ρ' ∧ loopF tg fb (ds.drop i) ρ' = r, ⟨ds.length, rfl, Nat.zero_le _, ρ, L, s2, by rw [List.drop_zero]; exact hr⟩, ?_⟩
  rintro i m σ' H' ⟨rfl, hi, ρ', L', s', e'⟩
  have vs : Same (vis H1 L) H' := g2.trans s'.same
  by_cases hlt : i < ds.length
  · have ei : ds[i]? = some ds[i] := List.getElem?_eq_getElem hlt
    refine .inr ⟨hJ.go H' vs i _ ei, fun σ2 H2 => ∃ ρ2 L2, SR R B O H2 L2 σ2 ρ2 ∧ loopF tg fb (ds.drop (i + 1)) ρ2 = r, ?_, ?_⟩
    · rintro σ2 H2 ⟨ρ2, L2, a1, a2⟩
      exact ⟨ds.length - (i + 1), by omega, rfl, hlt, ρ2, L2, a1, a2⟩
    · intro x H3 hy
      obtain ⟨m3, k3, rx⟩ := hJ.yld H' vs i _ ei x H3 hy
      have s3 := s'.mono m3
      have rx' := rx L' (fun a ha => by
        rcases s'.lo a ha with z | z
        · exact .inl (s.ol a z)
        · by_cases q : a ∈ L
          · exact .inl q
          · right
            cases w : H1 a with
            | none => rfl
            | some o =>
              have := g2 a o (vis_at w q)
              rw [z] at this
              cases this) s'.ld
      rw [List.drop_eq_getElem_cons hlt] at e'
      simp only [loopF] at e'
      cases et : setTg ρ' tg ds[i] with
      | bad => rw [et] at e'; simp only [Out.bind] at e'; rw [← e'] at h2; exact h2.elim
      | er =>
        exfalso
        cases tg with
        | one j => simp [setTg] at et
        | tup js =>
          cases ed : ds[i] <;> rw [ed] at et <;> simp only [setTg] at et <;> first | (cases et; done) | (split at et <;> cases et)
      | ok ρ3 =>
      rw [et] at e'
      simp only [Out.bind] at e'
      refine sndSg _ _ _ _ _ _ _ _ _ _ s3 rx' et fun σ4 s4 _ => ?_
      refine hb _ _ _ _ _ _ _ s4 ?_
      cases eb : fb ρ3 with
      | bad => rw [eb] at e'; simp only at e'; rw [← e'] at h2; exact h2.elim
      | er c fs es => rw [eb] at e'; simp only at e'; rw [← e'] at h2; exact h2
      | ok f =>
        rw [eb] at e'
        cases f with
        | nx ρ4 => exact fun σ5 H5 L5 s5 => ⟨ρ4, L5, s5, e'⟩
        | ct ρ4 => exact fun σ5 H5 L5 s5 => ⟨ρ4, L5, s5, e'⟩
        | bk ρ4 => simp only at e'; rw [← e'] at h2; exact h2
        | rt d => simp only at e'; rw [← e'] at h2; exact h2
  · have en : i = ds.length := by omega
    subst en
    rw [List.drop_length] at e'
    simp only [loopF] at e'
    rw [← e'] at h2
    exact .inl ⟨hJ.stop H' vs, h2 _ _ _ s'⟩
theorem sndS_while {tc : TT} {tb : TS} {fc : List Sl → Out Bool} {fb : List Sl → FO} {N : Nat} (hc : SndT R W tc fc) (hb : SndS R W tb fb) : SndS R W (tWhile tc tb) fun ρ => whileF fc fb N ρ := by
  intro σ H D ρ L H0 O s h
  replace h : FinS R O H0 W (whileF fc fb N ρ) D := h
  generalize hr : whileF fc fb N ρ = r at h
  refine ⟨fun m σ' H' => ∃ ρ' L', SR R H0 O H' L' σ' ρ' ∧ whileF fc fb m ρ' = r, ⟨N, ρ, L, s, hr⟩, ?_⟩
  rintro m σ' H' ⟨ρ', L', s', e'⟩
  cases m with
  | zero => simp only [whileF] at e'; rw [← e'] at h; exact h.elim
  | succ m =>
    simp only [whileF] at e'
    rw [← e'] at h
    refine hc _ _ _ _ _ _ _ s' ((FinS.stepP s' h).weak fun t H1 ⟨e1, m1, h1⟩ => ?_)
    rw [e1] at e'
    simp only [Out.bind] at e'
    cases t with
    | false => exact iteF (h1 _ _ _ (s'.mono m1))
    | true =>
      refine iteT ⟨fun σ5 H5 => ∃ ρ5 L5, SR R H0 O H5 L5 σ5 ρ5 ∧ whileF fc fb m ρ5 = r, fun σ5 H5 z => ⟨m, Nat.lt_succ_self _, z⟩, hb _ _ _ _ _ _ _ (s'.mono m1) ?_⟩
      simp only at e' h1
      cases eb : fb ρ' with
      | bad => rw [eb] at h1; exact h1.elim
      | er c fs es => rw [eb] at h1; exact h1
      | ok f =>
        rw [eb] at e' h1
        cases f with
        | nx ρ4 => exact fun σ5 H5 L5 s5 => ⟨ρ4, L5, s5, e'⟩
        | ct ρ4 => exact fun σ5 H5 L5 s5 => ⟨ρ4, L5, s5, e'⟩
        | bk ρ4 => exact h1
        | rt d => exact h1
/-- a slot is made the owner of a new list -/
theorem SR.own_new {H0 H1 : Hp} {O L : List Addr} {H : Hp} {σ : St} {ρ : List Sl} (s : SR R H0 O H L σ ρ) (e : Same H H1) {p : Addr} {xs : List V} {ds : List D} (n : H p = none) (q : H1 p = some (.lst xs)) (r : Reps R (vis H1 (p :: L)) ds xs) (i : Nat) :
    SR R H0 O H1 (p :: L) (σ.set i (some (.ref p))) (ρ.set i (.own (.lst ds))) := by
  have s1 := s.hide e n q
  refine ⟨s1.same, by rw [List.length_set, List.length_set, s1.len], s1.ol, s1.od, s1.ld, s1.lo, fun j t v h1 h2 => ?_, fun j k d d' l h1 h2 h3 h4 => ?_⟩
  · by_cases ej : i = j
    · subst ej
      rw [List.getElem?_set_self'] at h1 h2
      cases q1 : ρ[i]? with
      | none => rw [q1] at h1; cases h1
      | some z =>
        rw [q1] at h1
        cases h1
        cases q2 : σ[i]? with
        | none => rw [q2] at h2; cases h2
        | some z2 =>
          rw [q2] at h2
          cases h2
          exact ⟨p, rfl, List.mem_cons_self .., s.same.free n, xs, q, r⟩
    · rw [List.getElem?_set_ne ej] at h1 h2
      exact s1.sl j t v h1 h2
  · have old : ∀ (j : Nat) (d : D) (l : Addr), ρ[j]? = some (.own d) → σ[j]? = some (some (.ref l)) → l ≠ p := fun j d l g1 g2 z => by
      obtain ⟨l', e1, e2, _⟩ := s.own g1
      rw [g2] at e1
      cases e1
      obtain ⟨o, w⟩ := s.ld l e2
      rw [z, n] at w
      cases w
    by_cases ej : i = j
    · by_cases ek : i = k
      · exact ej.symm.trans ek
      · subst ej
        rw [List.getElem?_set_self'] at h3
        rw [List.getElem?_set_ne ek] at h2 h4
        cases q2 : σ[i]? with
        | none => rw [q2] at h3; cases h3
        | some z2 =>
          rw [q2] at h3
          cases h3
          exact absurd rfl (old k d' p h2 h4)
    · by_cases ek : i = k
      · subst ek
        rw [List.getElem?_set_self'] at h4
        rw [List.getElem?_set_ne ej] at h1 h3
        cases q2 : σ[i]? with
        | none => rw [q2] at h4; cases h4
        | some z2 =>
          rw [q2] at h4
          cases h4
          exact absurd rfl (old j d p h1 h3)
      · rw [List.getElem?_set_ne ej] at h1 h3
        rw [List.getElem?_set_ne ek] at h2 h4
        exact s.ap j k d d' l h1 h2 h3 h4
theorem sndS_own {te : TE} {fe : List Sl → Res} {i : Nat} (he : SndF R W te fe) : SndS R W (tAsg te (gName i)) fun ρ => (fe ρ).bind fun d => match d with
    | .lst ds => .ok (.nx (ρ.set i (.own (.lst ds))))
    | _ => .bad := by
  intro σ H D ρ L H0 O s h
  have h : FinS R O H0 W ((fe ρ).bind fun d => match d with
    | .lst ds => .ok (.nx (ρ.set i (.own (.lst ds))))
    | _ => .bad) D := h
  cases e : fe ρ with
  | bad => rw [e] at h; exact h.elim
  | er c fs ds =>
    rw [e] at h
    refine he _ _ _ _ _ _ _ s (.inr ⟨c, fs, ds, e⟩) ?_
    rw [e]
    exact ⟨h.1, fun cls dd H1 m x => h.2 cls dd σ H1 (s.same.trans m) (x.mono (vis_mono (Same.refl _) s.ol))⟩
  | ok d =>
    rw [e] at h
    cases d <;> first | exact h.elim | skip
    rename_i ds
    refine he _ _ _ _ _ _ _ s (.inl ⟨ds, e⟩) ?_
    rw [e]
    exact fun p xs H' m n q r => h _ _ _ (s.own_new m n q r i)
end
/-! ### statements -/
section
variable {R : RC} {T : Tb} {F : Nat} {nm : Nm} {ad : Ad} {n : Nat} {S : Sur}
theorem finP_of {α : Type} {L : List Addr} {H : Hp} {E : XK} {r : Out α} {k : α → Res} {Q : VK} (h : FinF R L H E (r.bind k) Q) : FinP R L H E r fun a H1 => r = .ok a ∧ Same H H1 := by
  cases r with
  | ok d => exact fun H1 m => ⟨rfl, m⟩
  | er c fs ds => exact h
  | bad => exact h
theorem fin_of {L : List Addr} {H : Hp} {E : XK} {r : Res} {k : D → Res} {Q : VK} (h : FinF R L H E (r.bind k) Q) : Fin R L H E r fun v H1 => ∃ d, r = .ok d ∧ Same H H1 ∧ Rep R (vis H1 L) d v := by
  cases r with
  | ok d => exact fun v H1 m rv => ⟨d, rfl, m, rv⟩
  | er c fs ds => exact h
  | bad => exact h
theorem FinF.mono {L : List Addr} {H H1 : Hp} {E : XK} {r : Res} {Q : VK} (h : FinF R L H E r Q) (m : Same H H1) : FinF R L H1 E r Q := by
  cases r with
  | ok d =>
    cases d <;> first | exact h | exact fun p xs H' m2 z => h p xs H' (m.trans m2) (m.free z)
  | er c fs ds => exact ⟨h.1, fun cls dd H' m2 x => h.2 cls dd H' (m.trans m2) x⟩
  | bad => exact h
theorem res_split {α : Type} {r : Out α} {k : α → Res} (hh : (∃ ds, r.bind k = .ok (.lst ds)) ∨ (∃ c fs ds, r.bind k = .er c fs ds)) {a : α} (e : r = .ok a) : (∃ ds, k a = .ok (.lst ds)) ∨ (∃ c fs ds, k a = .er c fs ds) := by
  rw [e] at hh
  exact hh
theorem primD_list {hot : Bool} : ∀ ds : List D, (∃ l, ds = [.lst l]) ∨ (∃ l, ds = [.tup l]) ∨ primD hot .list ds = .bad
  | [] => .inr (.inr rfl)
  | [d] => by cases d <;> first | exact .inl ⟨_, rfl⟩ | exact .inr (.inl ⟨_, rfl⟩) | exact .inr (.inr rfl)
  | _ :: _ :: _ => .inr (.inr (by unfold primD; split <;> first | rfl | (exfalso; simp_all; done) | (exfalso; rename_i he; cases he)))
/-- an expression that makes a new list -/
theorem fsnd (x : Ex) {X : Cx} {W : WX} (c : Cn X R T F nm ad n W S) (e : Expr) (hx : isFr x = true) (hc : compX x = false) (h : agE nm X.N X.env.scope x e = true) : ∃ t, PE X e t ∧ SndF R W t (ev S x) := by
  cases x <;> first | (cases hx; done) | skip
  case lst es =>
    simp only [agE] at h
    split at h
    · rename_i ps p
      simp only [Bool.and_eq_true, decide_eq_true_eq] at h
      refine ⟨_, pe_lst (asnd es c _ h.1.1 h.1.2), fun σ H Q ρ L H0 O s hh q => ?_⟩
      simp only [ev] at q hh
      refine sndSa _ _ _ _ _ _ _ s ((finP_of q).weak fun ds H1 ⟨e1, m1⟩ vs rv => ?_)
      rw [e1] at q
      refine ⟨?_, fun p np => finF_lst q m1 (s.mono m1).ld rv np⟩
      rw [rv.len, sizeLine_eq]
      have := alen (R := R) (T := T) (F := F) (ad := ad) (n := n) es h.1.1 e1
      omega
    · cases h
  case slice a lo hi =>
    simp only [agE] at h
    split at h
    · simp only [Bool.and_eq_true] at h
      refine ⟨_, pe_slice sl_list (esnd a c _ h.1.1) (osnd lo c _ h.1.2) (osnd hi c _ h.2), fun σ H Q ρ L H0 O s hh q => ?_⟩
      simp only [ev] at q hh
      refine sndS _ _ _ _ _ _ _ s ((fin_of q).weak fun v H1 ⟨d, e1, m1, r1⟩ => ?_)
      have hh := res_split hh e1
      rw [e1] at q
      replace q : FinF R L H1 (WE W σ) ((evo S lo ρ).bind fun l => (evo S hi ρ).bind fun h => sliceD d l h) Q := q.mono m1
      refine sndSo _ _ _ _ _ _ _ (s.mono m1) ((finP_of q).weak fun l H2 ⟨e2, m2⟩ => ?_)
      have hh := res_split hh e2
      rw [e2] at q
      replace q : FinF R L H2 (WE W σ) ((evo S hi ρ).bind fun h => sliceD d l h) Q := q.mono m2
      refine sndSo _ _ _ _ _ _ _ (s.mono (m1.trans m2)) ((finP_of q).weak fun u H3 ⟨e3, m3⟩ => ?_)
      have hh := res_split hh e3
      rw [e3] at q
      replace q : FinF R L H3 (WE W σ) (sliceD d l u) Q := q.mono m3
      cases d <;> first | exact q.elim | skip
      · rcases hh with ⟨ds, z⟩ | ⟨c, fs, ds, z⟩ <;> simp [sliceD] at z <;> (split at z <;> cases z)
      · rcases hh with ⟨ds, z⟩ | ⟨c, fs, ds, z⟩ <;> simp [sliceD] at z
      · simp only [Rep] at r1
        obtain ⟨p, xs, rfl, h2, h3⟩ := r1
        have m23 := m2.trans m3
        exact ⟨p, xs, rfl, SqL.of (m23 _ _ (vis_ge _ _ h2)), fun z nz => finF_lst q (Same.refl _) (s.mono (m1.trans m23)).ld (cut_reps l u (Reps.mono (vis_mono m23 fun _ z => z) _ _ h3)) nz⟩
    · cases h
  case prim p es =>
    cases p <;> first | (cases hx; done) | skip
    simp only [agE] at h
    split at h
    · simp only [Bool.and_eq_true, decide_eq_true_eq] at h
      obtain ⟨⟨⟨⟨⟨h1, h2⟩, h3⟩, h4⟩, h5⟩, h6⟩ := h
      obtain ⟨s1, s2⟩ := noStars_hd h5
      subst h1
      refine ⟨_, pe_callTy call_list_of (glB_ok h3) (c.gf.bn _ (by simpa using h2)) (by decide +kernel : bootBuiltins "list" = some (.type "list")) (asnd es c _ h6 h5) (nodun3 h4) (nodun1 h4) (star_cons s1) (by rw [backTo_any]; exact stars_any s2), fun σ H Q ρ L H0 O s hh q => ?_⟩
      simp only [ev] at q hh
      refine sndSa _ _ _ _ _ _ _ s ((finP_of q).weak fun ds H1 ⟨e1, m1⟩ vs rv => ?_)
      rw [e1] at q
      replace q : FinF R L H (WE W σ) (primD S.hot .list ds) Q := q
      rcases primD_list (hot := S.hot) ds with ⟨l, rfl⟩ | ⟨l, rfl⟩ | z
      · obtain ⟨v, rfl, rv2⟩ := reps1 rv
        simp only [Rep] at rv2
        obtain ⟨a, xs, rfl, h2, h3⟩ := rv2
        exact ⟨_, _, rfl, .inl (SqL.of (vis_ge _ _ h2)), fun p np => finF_lst q m1 (s.mono m1).ld h3 np⟩
      · obtain ⟨v, rfl, rv2⟩ := reps1 rv
        simp only [Rep] at rv2
        obtain ⟨a, xs, rfl, h2, h3⟩ := rv2
        refine ⟨_, _, rfl, .inr ?_, fun p np => finF_lst q m1 (s.mono m1).ld h3 np⟩
        rw [← c.rk]
        exact same_sqT vis_ge h2
      · rw [z] at q
        exact q.elim
    · cases h
  case bin o a b =>
    cases o <;> first | (cases hx; done) | skip
    · simp only [agE] at h
      split at h
      · simp only [Bool.and_eq_true, decide_eq_true_eq] at h
        obtain ⟨⟨h1, h2⟩, h3⟩ := h
        subst h1
        refine ⟨_, pe_op op_cat (esnd a c _ h2) (esnd b c _ h3), fun σ H Q ρ L H0 O s hh q => ?_⟩
        simp only [ev] at q hh
        refine sndS _ _ _ _ _ _ _ s ((fin_of q).weak fun v H1 ⟨d, e1, m1, r1⟩ => ?_)
        have hh := res_split hh e1
        rw [e1] at q
        replace q : FinF R L H1 (WE W σ) ((ev S b ρ).bind fun y => binD .add d y) Q := q.mono m1
        refine sndS _ _ _ _ _ _ _ (s.mono m1) ((fin_of q).weak fun w H2 ⟨d2, e2, m2, r2⟩ => ?_)
        have hh := res_split hh e2
        rw [e2] at q
        replace q : FinF R L H2 (WE W σ) (binD .add d d2) Q := q.mono m2
        have hd : ∃ a b, d = .lst a ∧ d2 = .lst b := by
          cases d <;> cases d2 <;> first | exact q.elim | exact ⟨_, _, rfl, rfl⟩ | skip
          all_goals (exfalso; rcases hh with ⟨ds, z⟩ | ⟨c, fs, ds, z⟩ <;> simp only [binD] at z <;> first | (cases z; done) | (split at z <;> cases z))
        obtain ⟨l1, l2, rfl, rfl⟩ := hd
        simp only [binD] at q
        split at q
        · rename_i hz
          simp only [Rep] at r1 r2
          obtain ⟨p, xs, rfl, h2, h3⟩ := r1
          obtain ⟨p', ys, rfl, h5, h6⟩ := r2
          exact ⟨p, p', xs, ys, rfl, rfl, m2 _ _ (vis_ge _ _ h2), vis_ge _ _ h5, by rw [h3.len, h6.len]; exact hz, fun z nz => finF_lst q (Same.refl _) (s.mono (m1.trans m2)).ld ((Reps.mono (vis_mono m2 fun _ z => z) _ _ h3).append h6) nz⟩
        · exact q.elim
      · cases h
    · simp only [agE] at h
      split at h
      · simp only [Bool.and_eq_true, decide_eq_true_eq] at h
        obtain ⟨⟨h1, h2⟩, h3⟩ := h
        subst h1
        refine ⟨_, pe_op op_rep (esnd a c _ h2) (esnd b c _ h3), fun σ H Q ρ L H0 O s hh q => ?_⟩
        simp only [ev] at q hh
        refine sndS _ _ _ _ _ _ _ s ((fin_of q).weak fun v H1 ⟨d, e1, m1, r1⟩ => ?_)
        have hh := res_split hh e1
        rw [e1] at q
        replace q : FinF R L H1 (WE W σ) ((ev S b ρ).bind fun y => binD .mul d y) Q := q.mono m1
        refine sndS _ _ _ _ _ _ _ (s.mono m1) ((fin_of q).weak fun w H2 ⟨d2, e2, m2, r2⟩ => ?_)
        have hh := res_split hh e2
        rw [e2] at q
        replace q : FinF R L H2 (WE W σ) (binD .mul d d2) Q := q.mono m2
        have hd : ∃ a b, d = .lst a ∧ d2 = .int b := by
          cases d <;> cases d2 <;> first | exact q.elim | exact ⟨_, _, rfl, rfl⟩ | skip
          all_goals (exfalso; rcases hh with ⟨ds, z⟩ | ⟨c, fs, ds, z⟩ <;> simp only [binD] at z <;> first | (cases z; done) | (split at z <;> cases z))
        obtain ⟨l1, k, rfl, rfl⟩ := hd
        simp only [binD] at q
        split at q
        · rename_i hz
          simp only [Rep] at r1 r2
          obtain ⟨p, xs, rfl, h2, h3⟩ := r1
          have h3' := Reps.mono (vis_mono m2 fun _ z => z) _ _ h3
          refine ⟨p, k, xs, rfl, r2, m2 _ _ (vis_ge _ _ h2), by omega, by omega, by rw [h3.len]; exact hz.2, fun z nz => finF_lst q (Same.refl _) (s.mono (m1.trans m2)).ld ?_ nz⟩
          clear hz q hh e2
          generalize Int.toNat k = j
          induction j with
          | zero => exact Reps.nil
          | succ j ih =>
            rw [List.replicate_succ, List.replicate_succ, List.flatten_cons, List.flatten_cons]
            exact h3'.append ih
        · exact q.elim
      · cases h
  case comp => cases hc
theorem noComp_sw {e : Expr} {t : Option Expr} {l : Nat} {env : Env} (h : isComp e = false) : swapsWith e t l env = pure false := by
  cases e <;> first | rfl | (cases h)
theorem sw_false {elt : Expr} {gs : List Comprehension} {scope : Scope} {pos py : Pos} {y : Str} {l : Nat} {env : Env} (hk : env.scope.kind = .function) (h : swB env.scope y py scope pos = false) : swapsWith (.ListComp elt gs scope pos) (some (.Name y py)) l env = pure false := by
  have hb : env.blockKind = .function := by unfold Env.blockKind; rw [hk]; rfl
  have hy : env.kindOf y = env.scope.names.lookup y := rfl
  unfold swB at h
  unfold swapsWith
  simp only [hb, hy, Expr.pos]
  have q : (env.scope.names.lookup y == some NameKind.local) = decide (env.scope.names.lookup y = some .local) := by
    cases decEq (env.scope.names.lookup y) (some NameKind.local) with
    | isTrue z => rw [z]; rfl
    | isFalse z => rw [decide_eq_false z]; exact beq_eq_false_iff_ne.mpr z
  refine congrArg (pure (f := Sem)) ?_
  rw [show (ScopeKind.function == ScopeKind.function) = true from rfl, Bool.true_and, q]
  exact h
theorem agG_loc {fb : Str → Bool} {X : Cx} {i : Nat} {e : Expr} (h : agG fb X.N X.env.scope i e = true) : ∃ x p, e = .Name x p ∧ X.N[i]? = some x ∧ L2.Loc X.env.scope x := by
  obtain ⟨x, p, h1, h2, h3⟩ := agG_ok h
  exact ⟨x, p, h1, h2, h3.elim .inl fun z => .inr z.1⟩
/-- a def's own code: where statements stand -/
structure Dn (X : Cx) : Prop where
  kd : X.env.scope.kind = .function
  fo : ∀ x, X.fn x = true
  po : PassesOwn (model X.prog X.w) X.A X.env X.xe
  st : X.stack = X.env :: X.outer
  fr : X.env.frame = some X.env.locals
/-- x = e, x = [..]: any expression -/
theorem asg_snd {X : Cx} {W : WX} (c : Cn X R T F nm ad n W S) (d : Dn X) {i : Nat} {e : Ex} {t v : Expr} {pos : Pos} (h1 : agG (fun _ => true) X.N X.env.scope i t = true) (h2 : agE nm X.N X.env.scope e v = true) (h3 : (!isComp v || compX e) = true) :
    ∃ te, PS X (.Assign [t] v pos) (tAsg te (gName i)) ∧ SndE R W te (ev S e) ∧ (isFr e = true → ∃ te, PS X (.Assign [t] v pos) (tAsg te (gName i)) ∧ SndF R W te (ev S e)) := by
  obtain ⟨x, p, rfl, hx, hl⟩ := agG_loc h1
  by_cases hc : compX e = true
  · cases e <;> first | (cases hc; done) | skip
    rename_i own tg it cq elt
    simp only [agE] at h2
    split at h2
    · rename_i pe t i2 ifs csc pos2
      simp only [Bool.and_eq_true, decide_eq_true_eq] at h2
      obtain ⟨⟨⟨⟨⟨⟨⟨g1, g2⟩, g3⟩, g4⟩, g5⟩, g6⟩, g7⟩, g8⟩ := h2
      have fin : ∀ {n : Prop} (ps : PS X (.Assign [.Name x p] (.ListComp pe [⟨t, i2, ifs, 0⟩] csc pos2) pos) (tAsg (tLc (tSi R W (evI S it)) (tSg R tg) (tSt R (fun _ _ _ _ => False) (evq S cq)) (tS R (fun _ _ _ _ => False) (ev S elt)) ((ownOf X.N own).map (·.2))) (gName i))) (hz : (S.hot && tg.isTup) = false),
          ∃ te, PS X (.Assign [.Name x p] (.ListComp pe [⟨t, i2, ifs, 0⟩] csc pos2) pos) (tAsg te (gName i)) ∧ SndE R W te (ev S (.comp own tg it cq elt)) ∧ (isFr (.comp own tg it cq elt) = true → ∃ te, PS X (.Assign [.Name x p] (.ListComp pe [⟨t, i2, ifs, 0⟩] csc pos2) pos) (tAsg te (gName i)) ∧ SndF R W te (ev S (.comp own tg it cq elt))) := by
        intro _ ps hz
        rw [g4] at ps
        have f := comp_F (S := S) (W := W) (it := it) (cq := cq) (elt := elt) sndSi (sndSg (R := R) (tg := tg)) g5
        have e := comp_snd (S := S) (W := W) (it := it) (cq := cq) (elt := elt) sndSi (sndSg (R := R) (tg := tg)) g5
        refine ⟨_, ps, fun σ H Q ρ L H0 O s q => e σ H Q ρ L H0 O s (by
          simp only [ev, hz, Bool.false_eq_true, if_false] at q
          exact q), fun _ => ⟨_, ps, fun σ H Q ρ L H0 O s hh q => f σ H Q ρ L H0 O s (by
          simp only [ev, hz, Bool.false_eq_true, if_false] at hh
          exact hh) (by
          simp only [ev, hz, Bool.false_eq_true, if_false] at q
          exact q)⟩⟩
      rcases c.md with m | ⟨m1, hh, m2, m3, m4⟩
      · have gX : ∀ (s : Shared) (H : Hp) (C : Addr) (cl : List (Str × Addr)) (fp : List Addr), PG (X.blk s H csc (compEnvC csc cl C X.env) fp) t (tSg R tg) := fun s H C cl fp =>
          toSg (X := X.blk s H csc (compEnvC csc cl C X.env) fp) c.rk tg (.inl m.1) c.nd (fun x hx => hx) t g6
        refine fin (n := True) ?_ (by rw [m.2.2.2]; rfl)
        by_cases hsw : swB X.env.scope x p csc pos2 = true
        · have hsw' := hsw
          unfold swB at hsw
          simp only [Bool.and_eq_true, decide_eq_true_eq, Bool.not_eq_true'] at hsw
          exact ps_setLc (own := ownOf X.N own) m.1 c.nd hx hsw.1.1 (sw_true d.kd hsw.1.1 hsw.1.2 hsw.2) (isnd it (tg := t) c i2 g1) (blkOk_by g3) gX (fun s H C cl fp => qsnd cq (c.blk m s H csc cl C fp) ifs g7) (fun s H C cl fp => esnd elt (c.blk m s H csc cl C fp) pe g8) (plainI_ok g2)
        · exact ps_set c.nd hx hl (pe_lc (own := ownOf X.N own) (pos := pos2) m.1 c.nd (isnd it (tg := t) c i2 g1) (blkOk_by g3) gX (fun s H C cl fp => qsnd cq (c.blk m s H csc cl C fp) ifs g7) (fun s H C cl fp => esnd elt (c.blk m s H csc cl C fp) pe g8) (plainI_ok g2)) (sw_false d.kd (by simpa using hsw)) (.inl (d.fo x))
      · by_cases ht : tg.isTup = false
        · have hm := (⟨m1, hh, m2, m3, m4⟩ : S.hot = true ∧ ∃ h, R.hx = some h ∧ HotQ X nm R.ca h ∧ L2H.RoomH (n + 2) X.A)
          have gX : ∀ (s : Shared) (H : Hp) (C : Addr) (cl : List (Str × Addr)) (fp : List Addr), PG (blkH X s H csc (compEnvC csc cl C X.env) fp) t (tSg R tg) := fun s H C cl fp =>
            toSg (X := blkH X s H csc (compEnvC csc cl C X.env) fp) c.rk tg (.inr ht) c.nd (fun x hx => hx) t g6
          refine fin (n := True) ?_ (by rw [ht, Bool.and_false])
          by_cases hsw : swB X.env.scope x p csc pos2 = true
          · have hsw' := hsw
            unfold swB at hsw
            simp only [Bool.and_eq_true, decide_eq_true_eq, Bool.not_eq_true'] at hsw
            exact ps_setLcH (own := ownOf X.N own) m3.c c.nd hx hsw.1.1 (sw_true d.kd hsw.1.1 hsw.1.2 hsw.2) (isndH it (tg := t) c i2 g1 m1) (blkOk_by g3) gX (fun s H C cl fp => qsnd cq (c.blkHot hm s H csc cl C fp) ifs g7) (fun s H C cl fp => esnd elt (c.blkHot hm s H csc cl C fp) pe g8) (plainI_ok g2)
          · exact ps_set c.nd hx hl (pe_lcHot (own := ownOf X.N own) (pos := pos2) m3.c c.nd (isndH it (tg := t) c i2 g1 m1) (blkOk_by g3) gX (fun s H C cl fp => qsnd cq (c.blkHot hm s H csc cl C fp) ifs g7) (fun s H C cl fp => esnd elt (c.blkHot hm s H csc cl C fp) pe g8) (plainI_ok g2)) (sw_false d.kd (by simpa using hsw)) (.inl (d.fo x))
        · have hb : (S.hot && tg.isTup) = true := by rw [m1, Bool.true_and]; simpa using ht
          have bad : ∀ ρ, ev S (.comp own tg it cq elt) ρ = .bad := fun ρ => by simp only [ev]; rw [if_pos hb]
          refine ⟨fun _ _ _ => False, ⟨fun _ _ _ _ _ _ h => h.elim⟩, fun σ H Q ρ L H0 O s q => ?_, fun _ => ⟨fun _ _ _ => False, ⟨fun _ _ _ _ _ _ h => h.elim⟩, fun σ H Q ρ L H0 O s hh q => ?_⟩⟩
          · rw [bad] at q; exact q.elim
          · rw [bad] at q; exact q.elim
    · cases h2
  · have hc' : compX e = false := by simpa using hc
    rw [hc', Bool.or_false] at h3
    have hv : isComp v = false := by simpa using h3
    refine ⟨_, ps_set c.nd hx hl (esnd e c v h2) (noComp_sw hv) (.inl (d.fo x)), sndS, fun hf => ?_⟩
    obtain ⟨te, f1, f2⟩ := fsnd e c v hf hc' h2
    exact ⟨te, ps_set c.nd hx hl f1 (noComp_sw hv) (.inl (d.fo x)), f2⟩
/-- x.append(e) of the frame's own list -/
theorem SR.own_set {H0 H : Hp} {O L : List Addr} {σ : St} {ρ : List Sl} (s : SR R H0 O H L σ ρ) {i : Nat} {d : D} {l : Addr} (q : ρ[i]? = some (.own d)) (ql : σ[i]? = some (some (.ref l))) {xs : List V} {ds : List D} (hl : l ∈ L) (h0 : H0 l = none) (r : Reps R (vis H L) ds xs) :
    SR R H0 O (upd H l (.lst xs)) L σ (ρ.set i (.own (.lst ds))) := by
  have hv : vis (upd H l (.lst xs)) L = vis H L := vis_upd hl
  refine ⟨fun a o e => ?_, by rw [List.length_set]; exact s.len, s.ol, s.od, fun a ha => ?_, s.lo, fun j t v h1 h2 => ?_, fun j k d1 d2 l' h1 h2 h3 h4 => ?_⟩
  · rw [upd_ne (ne_of_none e h0)]
    exact s.same a o e
  · by_cases e : a = l
    · exact ⟨_, by rw [e]; exact upd_same⟩
    · obtain ⟨o, w⟩ := s.ld a ha
      exact ⟨o, by rw [upd_ne e]; exact w⟩
  · by_cases e : i = j
    · subst e
      rw [List.getElem?_set_self', q] at h1
      cases h1
      rw [ql] at h2
      cases h2
      exact ⟨l, rfl, hl, h0, xs, upd_same, by rw [hv]; exact r⟩
    · rw [List.getElem?_set_ne e] at h1
      have k := s.sl j t v h1 h2
      cases t with
      | un => trivial
      | dat d' =>
        obtain ⟨x, k1, k2⟩ := k
        exact ⟨x, k1, by rw [hv]; exact k2⟩
      | own d' =>
        obtain ⟨l', k1, k2, k3, k4⟩ := k
        subst k1
        refine ⟨l', rfl, k2, k3, ?_⟩
        rw [hv]
        refine k4.mono (Same.refl _) fun o w => ?_
        rw [upd_ne (show l' ≠ l from fun z => e (s.ap i j d d' l q h1 ql (by rw [← z]; exact h2)))]
        exact w
  · have old : ∀ (m : Nat) (d : D), (ρ.set i (.own (.lst ds)))[m]? = some (.own d) → ∃ d, ρ[m]? = some (.own d) := fun m d z => by
      by_cases e : i = m
      · subst e
        exact ⟨_, q⟩
      · rw [List.getElem?_set_ne e] at z
        exact ⟨_, z⟩
    obtain ⟨e1, z1⟩ := old j d1 h1
    obtain ⟨e2, z2⟩ := old k d2 h2
    exact s.ap j k e1 e2 l' z1 z2 h3 h4
end
end NL

end
section
set_option Elab.async false
set_option linter.all false
set_option maxRecDepth 100000
set_option maxHeartbeats 4000000
namespace NL
open PySem PySem.Spec PyProof.Rows L2 L2H HotX
/-! ### try with several clauses, named or not; what is handled has no context -/
abbrev Cls3 := Value × Option Nat × (Addr → Obj → Value → Option Addr → TS)
/-- the ends behind a named clause: the name is gone -/
def goneD (i : Option Nat) (D : Ends) : Ends := match i with
  | none => D
  | some i => { nx := fun σ' H' => D.nx (σ'.set i none) H', rt := D.rt, bk := fun σ' H' => D.bk (σ'.set i none) H', ct := fun σ' H' => D.ct (σ'.set i none) H' }
def putE (i : Option Nat) (σ : St) (a : Addr) : St := match i with
  | none => σ
  | some i => σ.set i (some (.ref a))
def wMx (K : PySem.W.Frag) (Wout : WX) (D : Ends) : List Cls3 → WX
  | [] => Wout
  | (c, i, ts) :: r => fun cls d σ H => ∃ b, PySem.W.exmOne K cls c = some b ∧ (b = true → ∀ a oe, H a = none → L2N.Zn cls d oe → (∃ vs, oe.data = .fields vs) → ts a oe cls d (goneD i D) (putE i σ a) H) ∧ (b = false → wMx K Wout D r cls d σ H)
inductive HdsMx (X : Cx) : List ExceptHandler → List Cls3 → Prop
  | nil : HdsMx X [] []
  | cons {x : Str} {c : Value} {y : Option Str} {i : Option Nat} {ts : Addr → Obj → Value → Option Addr → TS} {b₀ : Stmt} {suite : List Stmt} {np pos' : Pos} {hds : List ExceptHandler} {l : List Cls3} (hc : Names X x c)
      (hy : (y = none ∧ i = none) ∨ ∃ n j, y = some n ∧ i = some j ∧ X.N[j]? = some n ∧ X.env.kindOf n = some .local)
      (hsu : ∀ (a : Addr) (oe : Obj) (cls : Value) (d : Option Addr) (pn : List (Addr × Obj)), L2N.Zn cls d oe → (∃ vs, oe.data = .fields vs) → PSs (X.suite a ((a, oe) :: pn)) (b₀ :: suite) (ts a oe cls d)) (r : HdsMx X hds l) :
      HdsMx X (.ExceptHandler (some (.Name x np)) y (b₀ :: suite) pos' :: hds) ((c, i, ts) :: l)
section
variable {X : Cx} {body : List Stmt} {h₀ : ExceptHandler} {hds : List ExceptHandler} {l : List Cls3} {pos : Pos} {tb : WX → TS} {Wout : WX}
theorem ps_try_mix (hs : X.stack = X.env :: X.outer) (hf : X.env.frame = some X.env.locals) (hN : X.N.Nodup) (tk : L2N.Takes X Wout)
    (hb : ∀ (W : WX) (pn : List (Addr × Obj)) (xe : Value → Shared → Prop), L2N.Takes (X.tr pn xe) W → PassesOwn (model X.prog X.w) X.A X.env xe → PSs (X.tr pn xe) body (tb W))
    (hh : HdsMx X (h₀ :: hds) l) : PS X (.Try body (h₀ :: hds) [] [] pos) (fun D σ H => tb (wMx X.K Wout D l) D σ H) := by
  constructor
  intro pins s σ H D I h
  have ok := I.ok
  have frm : X.A.frames = some (X.env :: X.outer) := by rw [ok.frames, hs]
  refine wpAny_Try_except ?_
  refine wpAny_mono ((hb (wMx X.K Wout D l) (X.pn ++ pins) (fun e s₁ => wpAny (model X.prog X.w) X.A (noteFrame e X.env) (fun _ s₂ => wpAny (model X.prog X.w) X.A (setFlight e none) (fun _ s₃ =>
    wpAny (model X.prog X.w) X.A (handleBy e X.env (h₀ :: hds)) (SP X pins D) X.xe s₃) X.xe s₂) X.xe s₁) (fun u s' xx => ?_) PassesOwn.looking).run [] s σ H D (I.toTry _) h) (fun f s1 hsp => ?_) (fun e s1 he => he)
  · obtain ⟨a, B, sI, pins', σ', H', cls, d, rfl, J0, nb, up, sky, na, os, ag, w⟩ := xx
    have J : Inv X pins σ' H' sI := J0.ofTry ok
    have sk2 : L2.Sky B (X.env :: X.outer) a (L2N.Zn cls d) X.env.locals s'.heap := by rw [← hs]; exact sky
    show wpAny (model X.prog X.w) X.A (noteFrame (.ref a) X.env) _ _ _
    refine L2N.Sky.land L2N.Zn.steady frm hf sk2 fun h3 fl3 up3 => ?_
    have J3 : Inv X pins σ' H' { s' with heap := h3 } := J.landed nb fl3.1 (up.trans up3) os ag
    obtain ⟨oe3, vs3, he3, hz3, hd3⟩ := fl3.there
    have nfr : a ∉ frs (X.env :: X.outer) := fun hm => by
      obtain ⟨_, o', e', hnf⟩ := fl3.2.2.1.mem hm
      rw [he3] at e'
      cases e'
      exact hnf _ hd3
    have nL : a ≠ X.env.locals := fun z => nfr (List.mem_filterMap.mpr ⟨X.env, List.mem_cons_self, by rw [hf, z]⟩)
    have nF : a ∉ X.fs := fun hm => by
      obtain ⟨e, he, q⟩ := List.mem_filterMap.mp hm
      exact nfr (List.mem_filterMap.mpr ⟨e, List.mem_cons_of_mem _ he, q⟩)
    have S3 := J3.suite he3 hd3 na nL nF
    have go : ∀ {hd2 : List ExceptHandler} {l2 : List Cls3}, HdsMx X hd2 l2 → wMx X.K Wout D l2 cls d σ' H' → wpAny (model X.prog X.w) X.A (handleBy (.ref a) X.env hd2) (SP X pins D) X.xe { s' with heap := h3 } := by
      intro hd2 l2 hk
      induction hk with
      | nil =>
        intro w
        refine wpAny_handleBy_nil ?_
        obtain ⟨k1, k2, k3, oe, vs, T, oT, ts', he, hz, hd, h1, hr⟩ := id fl3
        unfold PySem.passOn
        refine wpAny_bind (wpAny_field he hd h1 ?_)
        rw [if_neg (show ¬ ((Value.ref T == Value.none) = true) from by simp)]
        have fin : wpAny (model X.prog X.w) X.A (setFlight (.ref a) X.env.frame) (fun _ s4 => wpAny (model X.prog X.w) X.A (throw (.ref a) : Sem Flow) (SP X pins D) X.xe s4) X.xe { s' with heap := h3 } := by
          rw [hf]
          refine HandSPX.setFlight_upZ fl3 fun h4 hh4 up4 => wpAny_throw (tk _ _ ?_)
          exact ⟨a, B, sI, pins, σ', H', cls, d, rfl, J, nb, (up.trans up3).trans up4, .inr (.inr (by rw [hs]; exact hh4)), na, os, ag, w⟩
        first
          | exact wpAny_bind (wpAny_pure (wpAny_bind fin))
          | exact wpAny_bind fin
      | @cons x c y i ts b₀ suite np pos' hds2 l2 hc hy hsu r ih =>
        rintro ⟨b, hb1, hyes, hno⟩
        refine wpAny_handleBy_cons (codeAny_handlers_test ?_) (by intro q; cases q)
        have LT : PySem.W.Looks (model X.prog X.w) h3 (typeOf (.ref a)) cls := fun A Q E s k q => wpAny_typeOf_ref (k _ _ he3) (by rw [hz3.1]; exact q)
        have LM := PySem.W.exm_one (M := model X.prog X.w) (J3.kIn) LT hb1
        have test : ∀ {Q : Value → Shared → Prop} {E : Value → Shared → Prop}, Q c { s' with heap := h3 } → wpAny (model X.prog X.w) (X.A.mark (some (.ref a))) (eval (.Name x np) X.env) Q E { s' with heap := h3 } := fun {Q E} q => by
          obtain ⟨hg, hdbg, hm | ⟨hm, hv, hnn⟩⟩ := hc
          · exact ld_glob (X := X.suite a ((a, oe3) :: (X.pn ++ pins))) S3 hg hm q hdbg
          · exact ld_blt (X := X.suite a ((a, oe3) :: (X.pn ++ pins))) S3 hg hm hv q hnn hdbg
        refine test (LM.here ?_)
        cases b with
        | false => exact ih (hno rfl)
        | true =>
          rcases hy with ⟨rfl, rfl⟩ | ⟨n, j, rfl, rfl, hi, hln⟩
          · refine codeAny_handlers_suite ?_
            refine HandSPX.lands_againZ fl3 fun h4 fl4 up4 => ?_
            have J4 : Inv X pins σ' H' { s' with heap := h4 } := J.landed nb fl4.1 ((up.trans up3).trans up4) os ag
            obtain ⟨oe4, vs4, he4, hz4, hd4⟩ := fl4.there
            refine wpAny_mono ((hsu a oe4 cls d (X.pn ++ pins) hz4 ⟨_, hd4⟩).run [] _ _ H' _ (J4.suite he4 hd4 na nL nF) (hyes rfl a oe4 na hz4 ⟨_, hd4⟩)) (fun f s6 hsp => ?_) (fun _ _ z => False.elim z)
            cases f with
            | next => obtain ⟨σ6, H6, S6, q6⟩ := hsp; exact ⟨_, _, S6.unsuite ok, q6⟩
            | brk => obtain ⟨σ6, H6, S6, q6⟩ := hsp; exact ⟨_, _, S6.unsuite ok, q6⟩
            | cont => obtain ⟨σ6, H6, S6, q6⟩ := hsp; exact ⟨_, _, S6.unsuite ok, q6⟩
            | ret u => obtain ⟨v6, σ6, H6, S6, r6, q6⟩ := hsp; exact ⟨_, _, _, S6.unsuite ok, r6, q6⟩
          · refine codeAny_handlers_suite_as ?_
            refine HandSPX.lands_againZ fl3 fun h4 fl4 up4 => ?_
            have J4 : Inv X pins σ' H' { s' with heap := h4 } := J.landed nb fl4.1 ((up.trans up3).trans up4) os ag
            obtain ⟨oe4, vs4, he4, hz4, hd4⟩ := fl4.there
            refine store_ok (X := X.suite a ((a, oe4) :: (X.pn ++ pins))) (v := .ref a) (J4.suite he4 hd4 na nL nF) hN hi (.inl hln) rfl (fun s5 S5 => ?_) (.inr hln)
            refine wpAny_mono ((hsu a oe4 cls d (X.pn ++ pins) hz4 ⟨_, hd4⟩).run [] s5 _ H' _ S5 (hyes rfl a oe4 na hz4 ⟨_, hd4⟩)) (fun f s6 hsp => ?_) (fun _ _ z => False.elim z)
            have end_ : ∀ {σ6 : St} {H6 : Hp} {Q : Shared → Prop}, Inv (X.suite a ((a, oe4) :: (X.pn ++ pins))) [] σ6 H6 s6 → (∀ s7, Inv X pins (σ6.set j none) H6 s7 → Q s7) →
                wpAny (model X.prog X.w) X.A (do bindName X.env n .none; unbindBehindTheSuite X.env n pos') (fun _ s7 => Q s7) X.xe s6 := fun {σ6 H6 Q} S6 hq => gone_ok (S6.unsuite ok) hN hi hln hq
            cases f with
            | next => obtain ⟨σ6, H6, S6, q6⟩ := hsp; exact end_ S6 fun s7 J7 => ⟨_, _, J7, q6⟩
            | brk => obtain ⟨σ6, H6, S6, q6⟩ := hsp; exact end_ S6 fun s7 J7 => ⟨_, _, J7, q6⟩
            | cont => obtain ⟨σ6, H6, S6, q6⟩ := hsp; exact end_ S6 fun s7 J7 => ⟨_, _, J7, q6⟩
            | ret u => obtain ⟨v6, σ6, H6, S6, r6, q6⟩ := hsp; exact end_ S6 fun s7 J7 => ⟨_, _, _, J7, r6, q6⟩
    exact go hh w
  · cases f with
    | next => obtain ⟨σ', H', J', q⟩ := hsp; exact wpAny_execs_nil ⟨σ', H', J'.ofTry ok, q⟩
    | brk => obtain ⟨σ', H', J', q⟩ := hsp; exact ⟨σ', H', J'.ofTry ok, q⟩
    | cont => obtain ⟨σ', H', J', q⟩ := hsp; exact ⟨σ', H', J'.ofTry ok, q⟩
    | ret u => obtain ⟨v, σ', H', J', r, q⟩ := hsp; exact ⟨v, σ', H', J'.ofTry ok, r, q⟩
end
end NL

end
section
set_option Elab.async false
set_option linter.all false
set_option maxRecDepth 100000
set_option maxHeartbeats 4000000
namespace NL
open PySem PySem.Spec PyProof.Rows L2 L2H HotX
/-! ### data while an exception is handled, and behind -/
mutual
theorem rep_cast {R R' : RC} (hk : R.K = R'.K) (hc : R.ca = R'.ca) {G : Hp} : ∀ (d : D) (v : V), (d.nox = true ∨ R.hx = none) → Rep R G d v → Rep R' G d v
  | .non, _, _, h => by simp only [Rep] at h ⊢; exact h
  | .bl b, _, _, h => by simp only [Rep] at h ⊢; exact h
  | .int i, _, _, h => by simp only [Rep] at h ⊢; exact h
  | .str s, _, _, h => by simp only [Rep] at h ⊢; exact h
  | .tup ds, _, n, h => by
    simp only [Rep] at h ⊢
    obtain ⟨a, xs, h1, h2, h3⟩ := h
    exact ⟨a, xs, h1, by rw [← hk]; exact h2, reps_cast hk hc ds xs (n.imp (fun z => by simpa only [D.nox] using z) id) h3⟩
  | .lst ds, _, n, h => by
    simp only [Rep] at h ⊢
    obtain ⟨a, xs, h1, h2, h3⟩ := h
    exact ⟨a, xs, h1, h2, reps_cast hk hc ds xs (n.imp (fun z => by simpa only [D.nox] using z) id) h3⟩
  | .dic ks ds, _, n, h => by
    simp only [Rep] at h ⊢
    obtain ⟨a, kvs, h1, h2, h3, h4⟩ := h
    exact ⟨a, kvs, h1, h2, h3, reps_cast hk hc ds _ (n.imp (fun z => by simpa only [D.nox] using z) id) h4⟩
  | .obj c fs ds, _, n, h => by
    simp only [Rep] at h ⊢
    obtain ⟨a, dx, xfs, h1, h2, h3, h4⟩ := h
    exact ⟨a, dx, xfs, h1, by rw [← hc]; exact h2, h3, reps_cast hk hc ds _ (n.imp (fun z => by simpa only [D.nox] using z) id) h4⟩
  | .exc c fs ds, _, n, h => by
    rcases n with n | n
    · simp only [D.nox] at n; cases n
    · simp only [Rep] at h
      obtain ⟨hh, _, e, _⟩ := h
      rw [n] at e
      cases e
  | .scr ns, _, _, h => by
    simp only [Rep] at h ⊢
    obtain ⟨a, h1, h2⟩ := h
    exact ⟨a, h1, by rw [← hk]; exact h2⟩
theorem reps_cast {R R' : RC} (hk : R.K = R'.K) (hc : R.ca = R'.ca) {G : Hp} : ∀ (ds : List D) (vs : List V), (D.noxs ds = true ∨ R.hx = none) → Reps R G ds vs → Reps R' G ds vs
  | [], _, _, h => by simp only [Reps] at h ⊢; exact h
  | d :: ds, _, n, h => by
    simp only [Reps] at h ⊢
    obtain ⟨v, r, h1, h2, h3⟩ := h
    refine ⟨v, r, h1, rep_cast hk hc d v (n.imp (fun z => ?_) id) h2, reps_cast hk hc ds r (n.imp (fun z => ?_) id) h3⟩
    · simp only [D.noxs, Bool.and_eq_true] at z; exact z.1
    · simp only [D.noxs, Bool.and_eq_true] at z; exact z.2
end
theorem own_cast {R R' : RC} (hk : R.K = R'.K) (hc : R.ca = R'.ca) {G H : Hp} {l : Addr} : ∀ {d : D}, (d.nox = true ∨ R.hx = none) → OwnAt R G H l d → OwnAt R' G H l d
  | .lst ds, n, ⟨xs, h1, h2⟩ => ⟨xs, h1, reps_cast hk hc _ _ (n.imp (fun z => by simpa only [D.nox] using z) id) h2⟩
  | .dic ks ds, n, ⟨kvs, h1, h2, h3⟩ => ⟨kvs, h1, h2, reps_cast hk hc _ _ (n.imp (fun z => by simpa only [D.nox] using z) id) h3⟩
theorem sr_cast {R R' : RC} (hk : R.K = R'.K) (hc : R.ca = R'.ca) {H0 H : Hp} {O L : List Addr} {σ : St} {ρ : List Sl} (n : (∀ (i : Nat) (s : Sl), ρ[i]? = some s → noxS s = true) ∨ R.hx = none) (s : SR R H0 O H L σ ρ) : SR R' H0 O H L σ ρ := by
  refine ⟨s.same, s.len, s.ol, s.od, s.ld, s.lo, fun i t v h1 h2 => ?_, s.ap⟩
  have k := s.sl i t v h1 h2
  cases t with
  | un => trivial
  | dat d =>
    obtain ⟨x, k1, k2⟩ := k
    exact ⟨x, k1, rep_cast hk hc d x (n.imp (fun z => z i _ h1) id) k2⟩
  | own d =>
    obtain ⟨l, k1, k2, k3, k4⟩ := k
    exact ⟨l, k1, k2, k3, own_cast hk hc (n.imp (fun z => z i _ h1) id) k4⟩
theorem cool_fin {R R' : RC} (hk : R'.K = R.K) (hc : R'.ca = R.ca) {O : List Addr} {H0 : Hp} {W : WX} {i : Option Nat} {r : FO} {Dn : Ends} (h : FinS R O H0 W (coolF i r) Dn) : FinS R' O H0 (fun _ _ _ _ => False) r (goneD i Dn) := by
  cases r with
  | bad => exact h
  | er c fs ds => exact h.elim
  | ok f =>
    cases f with
    | bk ρ => exact h.elim
    | ct ρ => exact h.elim
    | rt d =>
      simp only [coolF] at h
      split at h
      · rename_i hz
        have q : ∀ v H, Same H0 H → Rep R' (vis H O) d v → Dn.rt v H := fun v H m rv => h v H m (rep_cast hk hc d v (.inl hz) rv)
        cases i <;> exact q
      · exact h.elim
    | nx ρ =>
      simp only [coolF, cool] at h
      cases i with
      | none =>
        simp only at h
        split at h
        · rename_i hz
          rw [List.all_eq_true] at hz
          exact fun σ H L s => h σ H L (sr_cast hk hc (.inl fun j t e => hz t (List.mem_of_getElem? e)) s)
        · exact h.elim
      | some j =>
        simp only at h
        split at h
        · rename_i hz
          rw [List.all_eq_true] at hz
          intro σ H L s
          have s2 : SR R' H0 O H L (σ.set j none) (ρ.set j .un) := s.wipe [j]
          exact h _ H L (sr_cast hk hc (.inl fun j t e => hz t (List.mem_of_getElem? e)) s2)
        · exact h.elim
section
variable {X : Cx} {R : RC} {T : Tb} {F : Nat} {nm : Nm} {ad : Ad} {n : Nat} {W : WX} {S : Sur}
theorem Cn.tr (c : Cn X R T F nm ad n W S) {W' : WX} {pn : List (Addr × Obj)} {xe : Value → Shared → Prop} (hm : X.calm = true ∧ R.hx = none ∧ Room (n + 2) X.A ∧ S.hot = false) (tk : L2N.Takes (X.tr pn xe) W') : Cn (X.tr pn xe) R T F nm ad n W' S :=
  ⟨c.rk, c.gf, c.lv, tk, c.nd, c.hu, .inl hm, c.sf, c.sg, c.sB, c.sE⟩
def hotOf (R : RC) (a : Addr) (k : Str) (d : Option Addr) (oe : Obj) : RC := ⟨R.K, some ⟨a, k, R.ca k, d, oe⟩, R.ca⟩
theorem Reps.rev {G : Hp} : ∀ {ds : List D} {vs : List V}, Reps R G ds vs → Reps R G ds.reverse vs.reverse
  | [], vs, r => by simp only [Reps] at r; rw [r]; exact Reps.nil
  | d :: ds, vs, r => by
    simp only [Reps] at r
    obtain ⟨v, t, rfl, h, h'⟩ := r
    rw [List.reverse_cons, List.reverse_cons]
    exact (Reps.rev h').append (Reps.one h)
/-- what a clause's suite asks -/
def tsH (R : RC) (nm : Nm) (S : Sur) (F : Nat) (b : Ss) (a : Addr) (oe : Obj) (cls : Value) (d : Option Addr) : TS := fun D σ H => ∃ k, k ∈ nm.rc ∧ cls = .ref (R.ca k) ∧ tSs (hotOf R a k d oe) (fun _ _ _ _ => False) (exs { S with hot := true } F b) D σ H
def clsL (R : RC) (nm : Nm) (S : Sur) (F : Nat) : Hs → List Cls3
  | .nil => []
  | .cons k i b r => (.ref (R.ca k), i, tsH R nm S F b) :: clsL R nm S F r
theorem Cn.suite (c : Cn X R T F nm ad n W S) {a : Addr} {oe : Obj} {k : Str} {d : Option Addr} {pn : List (Addr × Obj)} (hm : X.calm = true ∧ R.hx = none ∧ Room (n + 2) X.A ∧ S.hot = false) (hk : k ∈ nm.rc) (hz : L2N.Zn (.ref (R.ca k)) d oe) (hf : ∃ vs, oe.data = .fields vs) :
    Cn (X.suite a ((a, oe) :: pn)) (hotOf R a k d oe) T F nm ad n (fun _ _ _ _ => False) { S with hot := true } := by
  refine ⟨c.rk, c.gf, c.lv, takesN0, c.nd, c.hu, .inr ⟨rfl, _, rfl, ⟨⟨rfl, ?_⟩, List.mem_cons_self .., ⟨rfl, rfl, hz.zc, hf, rfl, hk⟩⟩, ⟨hm.2.2.1.dp, hm.2.2.1.un⟩⟩, c.sf, c.sg, c.sB, c.sE⟩
  obtain ⟨vs, hv⟩ := hf
  exact ⟨vs, hv, hz.2.2 vs hv⟩
theorem agHs_cons {N : List Str} {sc : Scope} {k : Str} {i : Option Nat} {b : Ss} {r : Hs} {hds : List ExceptHandler} (h : agHs nm N sc (.cons k i b r) hds = true) : ∃ p y b0 ss pos hds', hds = .ExceptHandler (some (.Name k p)) y (b0 :: ss) pos :: hds' ∧ k ∈ nm.cl ∧ glB sc k = true ∧ nodun k = true ∧
    ((y = none ∧ i = none) ∨ ∃ z j, y = some z ∧ i = some j ∧ N[j]? = some z ∧ sc.names.lookup z = some .local) ∧ agSs nm N sc b (b0 :: ss) = true ∧ agHs nm N sc r hds' = true := by
  simp only [agHs] at h
  split at h
  · simp only [Bool.and_eq_true, decide_eq_true_eq] at h
    obtain ⟨⟨⟨⟨⟨⟨h1, h2⟩, h3⟩, h4⟩, h5⟩, h6⟩, h7⟩ := h
    subst h1
    refine ⟨_, _, _, _, _, _, rfl, by simpa using h2, h3, h4, ?_, h6, h7⟩
    split at h5
    · exact .inl ⟨rfl, rfl⟩
    · simp only [Bool.and_eq_true, decide_eq_true_eq] at h5
      exact .inr ⟨_, _, rfl, rfl, h5.1, h5.2⟩
    · cases h5
  · cases h
/-- the clauses take the exception -/
theorem exh_wish (c : Cn X R T F nm ad n W S) (hx : R.hx = none) {H0 H : Hp} {O L : List Addr} {σ : St} {ρ : List Sl} {cls : Value} {dd : Option Addr} {k : Str} {fs : List Str} {ds : List D} {Dn : Ends} (hk : k ∈ nm.rc) (s : SR R H0 O H L σ ρ) (x : XR R (vis H L) cls dd k fs ds) :
    ∀ {hs : Hs} {N : List Str} {sc : Scope} {hds : List ExceptHandler}, agHs nm N sc hs hds = true → FinS R O H0 W (exh S F k fs ds hs ρ) Dn → wMx X.K W Dn (clsL R nm S F hs) cls dd σ H
  | .nil, _, _, _, _, q => q.2 cls dd σ H s.same (x.mono (vis_mono (Same.refl _) s.ol))
  | .cons k' i b r, N, sc, hds, h, q => by
    obtain ⟨p, y, b0, ss, pos, hds', rfl, h1, h2, h3, h4, h5, h6⟩ := agHs_cons h
    simp only [exh] at q
    have e := c.gf.ex k k' hk h1
    rw [← c.sB] at e
    refine ⟨_, by rw [x.1]; exact e, fun hb a oe na hz hf => ?_, fun hb => exh_wish c hx hk s x h6 (by rw [if_neg (by rw [hb]; exact Bool.false_ne_true)] at q; exact q)⟩
    rw [if_pos hb] at q
    have s1 : SR (hotOf R a k dd oe) H0 O H L σ ρ := sr_cast (R := R) (R' := hotOf R a k dd oe) rfl rfl (.inr hx) s
    obtain ⟨x1, xfs, x2, x3, x4⟩ := x
    have re : Rep (hotOf R a k dd oe) (vis H L) (.exc k fs ds) (.ref a) := by
      simp only [Rep]
      exact ⟨_, xfs, rfl, rfl, rfl, x2, x4, reps_cast (R := R) (R' := hotOf R a k dd oe) rfl rfl _ _ (.inr hx) x3⟩
    refine ⟨k, hk, x1, _, L, H0, O, ?_, cool_fin (R := R) (R' := hotOf R a k dd oe) rfl rfl q⟩
    cases i with
    | none => exact s1
    | some j => exact s1.set j re
/-- raise C(e, ..) -/
theorem raise_snd (c : Cn X R T F nm ad n W S) (hm : X.calm = true ∧ R.hx = none ∧ Room (n + 2) X.A ∧ S.hot = false) {k : Str} {es : Es} {e : Expr} {ps : List Expr} {p pos pos' : Pos} (h2 : k ∈ nm.cl) (h3 : glB X.env.scope k = true) (h4 : nodun k = true) (h5 : noStars (e :: ps) = true) (h6 : ps.length ≤ 900) (h7 : agEs nm X.N X.env.scope es (e :: ps) = true) :
    PS X (.Raise (some (.Call (.Name k p) (e :: ps) [] pos)) none pos') (tSs R W (ex S F (.raise k es))) := by
  have never : (∀ ρ, ex S F (.raise k es) ρ = .bad) → PS X (.Raise (some (.Call (.Name k p) (e :: ps) [] pos)) none pos') (tSs R W (ex S F (.raise k es))) := fun z => ⟨fun pins s σ H D I ⟨ρ, L, H0, O, a, b⟩ => by
    rw [z] at b
    exact b.elim⟩
  rcases q : S.ef k with _ | fs
  · exact never fun ρ => by simp only [ex, q]; split <;> rfl
  · cases fs with
    | nil => exact never fun ρ => by simp only [ex, q]; split <;> rfl
    | cons f fs =>
      obtain ⟨z1, z2⟩ := c.gf.xi k _ (by rw [← c.sE]; exact q) (List.cons_ne_nil f fs)
      obtain ⟨fI, fd, qual, st, N, i1, i2, i3, i4, i5, i6, i7⟩ := z2.ex
      obtain ⟨s1, s2⟩ := noStars_hd h5
      have F1 : FnOk X.prog X.w X.K X.mg X.base (L2N.CX X.prog X.w) 1 fI fd N (spI (R.ca k) (f :: fs)) := init_fn z2.oex i3 i4 i6 i7 (List.cons_ne_nil f fs) z1 z2.no
      refine toSs (L2N.ps_raise hm.1 c.tk (pmk_oexN z2.oex i1 i2 F1 (hm.2.2.1.mono (by omega)) i5 ?_ (glB_ok h3) (c.gf.cl k h2).1 (asnd es c _ h7 h5) (nodun1 h4) (star_cons s1) (by rw [backTo_any]; exact stars_any s2))) fun σ H D ρ L H0 O s w => ?_
      · rintro pins σ H s e s' I ⟨_, _, _, _, _, _, _, _, _, _, _, _, z⟩
        exact z.elim
      · simp only [ex, hm.2.2.2, Bool.false_eq_true, if_false, q] at w
        refine sndSa _ _ _ _ _ _ _ s ((FinS.stepP s w).weak fun ds H1 ⟨e1, m1, k1⟩ vs rv => ?_)
        have hl := alen (R := R) (T := T) (F := F) (ad := ad) (n := n) es h7 e1
        split at k1
        · rename_i hz
          have lv : vs.length = (f :: fs).length := by rw [rv.len, hz]
          refine ⟨by rw [rv.len, hl]; simp; omega, fun a na => ?_⟩
          rw [List.append_nil]
          refine ⟨a, vs, rfl, lv, upd_same, fun dx H' n1 n2 e2 e3 e4 => ?_⟩
          have nd : H1 dx = none := by rw [upd_ne n2] at n1; exact n1
          refine ⟨rfl, dx, _, e2, e3, nd, ?_⟩
          have same : Same H1 (upd (del H' a) dx (.xd ((f :: fs).zip vs).reverse)) := fun b o eb => by
            have b1 : b ≠ a := ne_of_none eb na
            have b2 : b ≠ dx := ne_of_none eb nd
            rw [upd_ne b2, del_ne b1, e4 b b1 b2, upd_ne b1]
            exact eb
          have s3 := s.mono (m1.trans same)
          refine k1.2 _ _ σ _ s3.same ⟨rfl, _, ?_, ?_, .inr ⟨dx, rfl, vis_at upd_same fun w => ?_⟩⟩
          · rw [List.map_reverse, List.map_fst_zip (by rw [lv]; exact Nat.le_refl _)]
          · rw [List.map_reverse, List.map_snd_zip (by rw [lv]; exact Nat.le_refl _)]
            exact Reps.rev (Reps.mono (vis_mono same s.ol) _ _ rv)
          · exact (s.mono m1).new nd (s.ol dx w)
        · exact k1.elim
end
end NL

end
section
set_option Elab.async false
set_option linter.all false
set_option maxRecDepth 100000
set_option maxHeartbeats 4000000
namespace NL
open PySem PySem.Spec PyProof.Rows L2 L2H
variable {R : RC} {T : Tb} {F : Nat} {nm : Nm} {ad : Ad} {n : Nat} {S : Sur}
theorem noComp_sole {t e : Expr} {l : Nat} {env : Env} (h : isComp e = false) : swapsWithSole [t] e l env = pure false := noComp_sw h
theorem noTup_st {t e : Expr} {env : Env} (h : isTup e = false) : swappedStores [t] e env = pure none := by
  cases e <;> first | (cases h; done) | skip
  all_goals (cases t <;> rfl)
theorem few_one {env : Env} {cpos : Pos} {v : Expr} (h : isStar v = false) : ((backTo cpos (starEach [v] env)).all (fun x => !x.1) && (backToKw cpos (keywordEach [] env)).all (fun x => x.1.isSome)
      && decide (([v] : List Expr).length + ([] : List Keyword).length + (if ([] : List Keyword).isEmpty then 0 else 1) < 30)) = true := by
  rw [star_cons h]
  rfl
theorem tgt_tup {fb : Str → Bool} {N : List Str} {sc : Scope} {is : List Nat} {t : Expr} {env : Env} (h : agTg fb N sc (.tup is) t = true) : (assignEach [t] env).map (·.2) = [assign t env] := by
  unfold agTg at h
  split at h
  · rename_i he
    cases he
  · rfl
  · cases h
theorem sub_asg {o i : Expr} {pos : Pos} {env : Env} (h : noSlice i = true) (v : Value) : assign (.Subscript o i pos) env v = (do
      let ov ← holding [v] (eval o env)
      let iv ← holding [v, ov] (eval i env)
      standAt pos
      holding [v, ov, iv] (setItem ov iv v)
      release [v, ov, iv] []) := by
  cases i <;> first | rfl | (cases h)
theorem agSs_cons {N : List Str} {sc : Scope} {x : Sm} {r : Ss} {st : List Stmt} (hx : ∀ i, x ≠ .frz i) (h : agSs nm N sc (.cons x r) st = true) : ∃ p ps, st = p :: ps ∧ agS nm N sc x p = true ∧ agSs nm N sc r ps = true := by
  cases x <;> first | exact absurd rfl (hx _) | skip
  all_goals
    simp only [agSs] at h
    split at h
    · rw [Bool.and_eq_true] at h
      exact ⟨_, _, rfl, h.1, h.2⟩
    · cases h
/-- try: .. -/
theorem try_snd {X : Cx} {W : WX} (c : Cn X R T F nm ad n W S) (d : Dn X) (m : X.calm = true ∧ R.hx = none ∧ Room (n + 2) X.A ∧ S.hot = false) {k : TryK} {e : Ex} {hs : Hs} {b : List Stmt} {h0 : ExceptHandler} {hds : List ExceptHandler} {pos : Pos} (h1 : agTb nm X.N X.env.scope k e b = true) (h2 : agHs nm X.N X.env.scope hs (h0 :: hds) = true)
    (H2 : HdsMx X (h0 :: hds) (clsL R nm S F hs)) : PS X (.Try b (h0 :: hds) [] [] pos) (tSs R W (ex S F (.try k e hs))) := by
  have go : ∀ {tb : WX → TS} (hb : ∀ (W : WX) (pn : List (Addr × Obj)) (xe : Value → Shared → Prop), L2N.Takes (X.tr pn xe) W → PassesOwn (model X.prog X.w) X.A X.env xe → PSs (X.tr pn xe) b (tb W))
      (ok : ∀ (W' : WX) (D : Ends) (σ : St) (H : Hp) (ρ : List Sl) (L : List Addr) (H0 : Hp) (O : List Addr), SR R H0 O H L σ ρ → (∀ y, ev S e ρ = .ok y → FinS R O H0 W (tryF S k ρ y) D) → ev S e ρ ≠ .bad →
        (∀ c fs ds, ev S e ρ = .er c fs ds → ∀ cls dd H', Same H H' → XR R (vis H' L) cls dd c fs ds → W' cls dd σ H') → tb W' D σ H),
      PS X (.Try b (h0 :: hds) [] [] pos) (tSs R W (ex S F (.try k e hs))) := fun {tb} hb ok => by
    refine toSs (ps_try_mix d.st d.fr c.nd c.tk hb H2) fun σ H D ρ L H0 O s q => ?_
    simp only [ex, m.2.2.2, Bool.false_eq_true, if_false] at q
    refine ok _ D σ H ρ L H0 O s (fun y ey => ?_) (fun z => ?_) fun c' fs ds er cls dd H' mm x => ?_
    · rw [ey] at q
      exact q
    · rw [z] at q
      exact q.elim
    · rw [er] at q
      simp only at q
      cases z : S.ef c' with
      | none => rw [z] at q; exact q.elim
      | some fs' =>
        rw [z] at q
        exact exh_wish c m.2.1 (c.gf.ce c' fs' (by rw [← c.sE]; exact z)) (s.mono mm) x h2 q
  unfold agTb at h1
  split at h1
  · simp only [Bool.and_eq_true, Bool.not_eq_true'] at h1
    refine go (tb := fun W => tSeq (tDrop (tS R W (ev S e))) tNext) (fun W' pn xe tk po => pss_cons (ps_expr (esnd e (c.tr m tk) _ h1.1) (noComp_sw h1.2)) pss_nil) fun W' D σ H ρ L H0 O s z2 z3 z4 => ⟨ρ, L, H0, O, s, ?_⟩
    cases z : ev S e ρ with
    | bad => exact absurd z z3
    | er c' fs ds => exact ⟨m.2.1, fun cls dd H' mm x => z4 c' fs ds z cls dd H' mm x⟩
    | ok y =>
      have q := z2 y z
      exact fun v H' mm rv => q σ H' L (s.mono mm)
  · simp only [Bool.and_eq_true, Bool.not_eq_true'] at h1
    rename_i i t v ps
    obtain ⟨x, p, rfl, hx, hl⟩ := agG_loc h1.1.1
    refine go (tb := fun W => tSeq (tAsg (tS R W (ev S e)) (gName i)) tNext) (fun W' pn xe tk po => pss_cons (ps_set c.nd hx hl (esnd e (c.tr m tk) _ h1.1.2) (noComp_sw h1.2) (.inl (d.fo x))) pss_nil) fun W' D σ H ρ L H0 O s z2 z3 z4 => ⟨ρ, L, H0, O, s, ?_⟩
    cases z : ev S e ρ with
    | bad => exact absurd z z3
    | er c' fs ds => exact ⟨m.2.1, fun cls dd H' mm x => z4 c' fs ds z cls dd H' mm x⟩
    | ok y =>
      have q := z2 y z
      exact fun v H' mm rv => q _ H' L ((s.mono mm).set i rv)
  · refine go (tb := fun W => tSeq (tRet (tS R W (ev S e))) tNext) (fun W' pn xe tk po => pss_cons (ps_ret (esnd e (c.tr m tk) _ h1)) pss_nil) fun W' D σ H ρ L H0 O s z2 z3 z4 => ⟨ρ, L, H0, O, s, ?_⟩
    cases z : ev S e ρ with
    | bad => exact absurd z z3
    | er c' fs ds => exact ⟨m.2.1, fun cls dd H' mm x => z4 c' fs ds z cls dd H' mm x⟩
    | ok y =>
      have q := z2 y z
      exact fun v H' mm rv => q v H' (s.same.trans mm) (Rep.mono (vis_mono (Same.refl _) s.ol) _ _ rv)
  · simp only [Bool.and_eq_true, Bool.not_eq_true'] at h1
    rename_i r' v p1 u p2
    refine go (tb := fun W => tSeq (tDrop (tS R W (ev S e))) (tSeq (tRet (tS R W (ev S r'))) tNext)) (fun W' pn xe tk po => pss_cons (ps_expr (esnd e (c.tr m tk) _ h1.1.1) (noComp_sw h1.1.2)) (pss_cons (ps_ret (esnd r' (c.tr m tk) _ h1.2)) pss_nil)) fun W' D σ H ρ L H0 O s z2 z3 z4 => ⟨ρ, L, H0, O, s, ?_⟩
    cases z : ev S e ρ with
    | bad => exact absurd z z3
    | er c' fs ds => exact ⟨m.2.1, fun cls dd H' mm x => z4 c' fs ds z cls dd H' mm x⟩
    | ok y =>
      have q := z2 y z
      intro v H' mm rv
      refine ⟨ρ, L, H0, O, s.mono mm, ?_⟩
      simp only [tryF] at q
      cases z5 : ev S r' ρ with
      | ok y' =>
        rw [z5] at q
        exact fun v2 H2 m2 rv2 => q v2 H2 (s.same.trans (mm.trans m2)) (Rep.mono (vis_mono (Same.refl _) s.ol) _ _ rv2)
      | er => rw [z5] at q; exact q.elim
      | bad => rw [z5] at q; exact q.elim
  · cases h1
mutual
theorem ssnd : ∀ (x : Sm) {R : RC} {S : Sur} {X : Cx} {W : WX} (c : Cn X R T F nm ad n W S) (d : Dn X) (st : Stmt), agS nm X.N X.env.scope x st = true → PS X st (tSs R W (ex S F x))
  | .frz i, R, S, X, W, c, d, st, h => by simp [agS] at h
  | .set i e, R, S, X, W, c, d, st, h => by
    simp only [agS] at h
    split at h
    · simp only [Bool.and_eq_true] at h
      obtain ⟨te, h1, h2, _⟩ := asg_snd c d h.1.1 h.1.2 h.2
      exact toSs h1 (sndS_set h2)
    · cases h
  | .own i e, R, S, X, W, c, d, st, h => by
    simp only [agS] at h
    split at h
    · simp only [Bool.and_eq_true] at h
      obtain ⟨_, _, _, h3⟩ := asg_snd c d h.1.1.1 h.1.1.2 h.1.2
      obtain ⟨te, h1, h2⟩ := h3 h.2
      exact toSs h1 (sndS_own h2)
    · cases h
  | .unp is e, R, S, X, W, c, d, st, h => by
    simp only [agS] at h
    split at h
    · simp only [Bool.and_eq_true, Bool.not_eq_true'] at h
      rcases c.md with m | m
      · refine toSs (ps_asg (esnd e c _ h.1.1.2) (toSg c.rk _ (.inl m.1) c.nd (fun x _ => d.fo x) _ h.1.1.1) (noComp_sole h.1.2) (noTup_st h.2) (tgt_tup h.1.1.1)) fun σ H D ρ L H0 O s q => ?_
        simp only [ex, m.2.2.2, Bool.false_eq_true, if_false] at q
        exact sndS_unp sndS σ H D ρ L H0 O s q
      · exact ⟨fun pins s σ H D I ⟨ρ, L, H0, O, a, b⟩ => by
          simp only [ex, m.1, if_true] at b
          exact b.elim⟩
    · cases h
  | .aug i o e, R, S, X, W, c, d, st, h => by
    simp only [agS] at h
    split at h
    · simp only [Bool.and_eq_true, decide_eq_true_eq] at h
      obtain ⟨⟨⟨h1, h2⟩, h3⟩, h4⟩ := h
      obtain ⟨x, p, rfl, hx, hl⟩ := agG_loc h1
      subst h3
      have fin : ∀ {g : Int → Int → Int}, (∀ a b, augD o (.int a) (.int b) = .ok (.int (g a b))) → (∀ x y z, augD o x y = .ok z → ∃ a b, x = .int a ∧ y = .int b) → (∀ x y c fs ds, augD o x y ≠ .er c fs ds) → SndS R W (tAug i (tS R W (ev S e)) (ipI g)) (ex S F (.aug i o e)) := by
        intro g hg ho hne σ H D ρ L H0 O s q
        simp only [ex] at q
        split at q
        · rename_i x e1
          obtain ⟨v, e2, e3⟩ := s.dat e1
          refine ⟨v, e2, sndS _ _ _ _ _ _ _ s ((FinS.step s q).weak fun y H1 ⟨dy, e4, r4, m4, k4⟩ => ?_)⟩
          cases e5 : augD o x dy with
          | bad => rw [e5] at k4; exact k4.elim
          | er c fs ds => exact absurd e5 (hne _ _ _ _ _)
          | ok z =>
            rw [e5] at k4
            obtain ⟨a, b, rfl, rfl⟩ := ho _ _ _ e5
            rw [hg] at e5
            cases e5
            simp only [Rep] at e3 r4
            exact ⟨a, b, e3, r4, k4 _ _ _ ((s.mono m4).set i (by simp only [Rep]))⟩
        · exact q.elim
      cases o <;> first | (cases h4; done) | skip
      · exact toSs (ps_aug c.nd hx hl (esnd e c _ h2) ip_add (.inl (d.fo x))) (fin (fun _ _ => rfl) (fun x y z => by cases x <;> cases y <;> intro w <;> first | (cases w; done) | exact ⟨_, _, rfl, rfl⟩) (fun x y c fs ds => by cases x <;> cases y <;> intro w <;> cases w))
      · exact toSs (ps_aug c.nd hx hl (esnd e c _ h2) ip_sub (.inl (d.fo x))) (fin (fun _ _ => rfl) (fun x y z => by cases x <;> cases y <;> intro w <;> first | (cases w; done) | exact ⟨_, _, rfl, rfl⟩) (fun x y c fs ds => by cases x <;> cases y <;> intro w <;> cases w))
    · cases h
  | .app i e, R, S, X, W, c, d, st, h => by
    simp only [agS] at h
    split at h
    · simp only [Bool.and_eq_true, decide_eq_true_eq, Bool.not_eq_true'] at h
      obtain ⟨⟨⟨⟨⟨⟨h1, h2⟩, h3⟩, h4⟩, h5⟩, h6⟩, h7⟩ := h
      subst h1
      refine toSs (ps_expr (pe_bm PySem.F.plainAttrs_list PySem.F.slot_list_append PySem.F.type_list_append mt_append (pe_var h2 (visB_ok h3) (nodun1 h4) (nodun2 h4)) (pa_cons (esnd e c _ h5) pa_nil (star_cons h6)) rfl (few_one h6) h7 (star_cons h6) rfl)) fun σ H D ρ L H0 O s q => ?_
      simp only [ex] at q
      split at q
      · rename_i ds e1
        obtain ⟨l, g1, g2, g3, g4⟩ := s.own e1
        obtain ⟨xs, g5, g6⟩ := g4
        refine ⟨_, g1, .inl ⟨rfl, _, SqL.of g5⟩, sndS _ _ _ _ _ _ _ s ((FinS.step s q).weak fun v H1 ⟨y, e2, r2, m2, k2⟩ => ?_)⟩
        replace k2 : FinS R O H0 W (if ds.length < 1000000 then .ok (.nx (ρ.set i (.own (.lst (ds ++ [y]))))) else .bad) D := k2
        split at k2
        · rename_i hz
          have r6 := Reps.mono (vis_mono m2 fun _ z => z) _ _ g6
          refine ⟨l, xs, v, rfl, rfl, m2 _ _ g5, ?_, k2 _ _ _ ((s.mono m2).own_set e1 g1 g2 g3 (r6.append (Reps.one r2)))⟩
          rw [g6.len, sizeLine_eq]
          omega
        · exact k2.elim
      · exact q.elim
    · cases h
  | .put i k e, R, S, X, W, c, d, st, h => by
    simp only [agS] at h
    split at h
    · simp only [Bool.and_eq_true, decide_eq_true_eq, Bool.not_eq_true'] at h
      obtain ⟨⟨⟨⟨⟨⟨h2, h3⟩, h4⟩, h5⟩, h6⟩, h7⟩, h8⟩ := h
      refine toSs (ps_asg (esnd e c _ h6) (pg_sub (pe_var h2 (visB_ok h3) (nodun1 h4) (nodun2 h4)) (esnd k c _ h5) set_list (fun v => sub_asg h8 v)) (noComp_sole h7) rfl) fun σ H D ρ L H0 O s q => ?_
      simp only [ex] at q
      split at q
      · rename_i x e1
        obtain ⟨l, g1, g2, g3, g4⟩ := s.own e1
        refine sndS _ _ _ _ _ _ _ s ((FinS.step s q).weak fun v H1 ⟨y, e2, r2, m2, k2⟩ => ?_)
        have s1 := s.mono m2
        refine ⟨_, g1, sndS _ _ _ _ _ _ _ s1 ((FinS.step s1 k2).weak fun w H2 ⟨j, e3, r3, m3, k3⟩ => ?_)⟩
        have hx : ∃ ds jj, x = .lst ds ∧ j = .int jj := by
          cases x <;> cases j <;> first | exact k3.elim | exact ⟨_, _, rfl, rfl⟩
        obtain ⟨ds, jj, rfl, rfl⟩ := hx
        simp only [putD] at k3
        cases e4 : ixN ds.length jj with
        | none => rw [e4] at k3; exact k3.elim
        | some m =>
          rw [e4] at k3
          obtain ⟨xs, g5, g6⟩ := g4
          simp only [Rep] at r3
          have m23 := m2.trans m3
          have r6 := Reps.mono (vis_mono m23 fun _ z => z) _ _ g6
          refine ⟨l, xs, jj, m, rfl, r3, m23 _ _ g5, by rw [g6.len]; exact e4, k3 _ _ _ ((s.mono m23).own_set e1 g1 g2 g3 (Reps.set (Rep.mono (vis_mono m3 fun _ z => z) _ _ r2) m r6))⟩
      · exact q.elim
    · cases h
  | .expr e, R, S, X, W, c, d, st, h => by
    simp only [agS] at h
    split at h
    · simp only [Bool.and_eq_true, Bool.not_eq_true'] at h
      exact toSs (ps_expr (esnd e c _ h.1) (noComp_sw h.2)) (sndS_expr sndS)
    · cases h
  | .ife t a b, R, S, X, W, c, d, st, h => by
    simp only [agS] at h
    split at h
    · simp only [Bool.and_eq_true] at h
      exact toSs (ps_if (tsnd t c _ h.1.1).1 (sssnd a c d _ h.1.2) (sssnd b c d _ h.2)) (sndS_if sndSt sndSs sndSs)
    · cases h
  | .for tg it b, R, S, X, W, c, d, st, h => by
    simp only [agS] at h
    split at h
    · simp only [Bool.and_eq_true] at h
      obtain ⟨⟨⟨h1, h2⟩, h3⟩, h4⟩ := h
      rcases c.md with m | ⟨m1, hh, m2, m3, m4⟩
      · refine toSs (ps_for d.po m.1 (isnd it c _ h2) (toSg c.rk _ (.inl m.1) c.nd (fun x _ => d.fo x) _ h1) (sssnd b c d _ h4) (plainI_ok h3)) fun σ H D ρ L H0 O s q => ?_
        simp only [ex, m.2.2.2, Bool.false_and, Bool.false_eq_true, if_false] at q
        exact sndS_for (it := it) (S := S) sndSi sndSs σ H D ρ L H0 O s q
      · by_cases ht : tg.isTup = false
        · refine toSs (ps_forH d.po m3.c (isndH it c _ h2 m1) (toSg c.rk _ (.inr ht) c.nd (fun x _ => d.fo x) _ h1) (sssnd b c d _ h4) (plainI_ok h3)) fun σ H D ρ L H0 O s q => ?_
          simp only [ex, ht, Bool.and_false, Bool.false_eq_true, if_false] at q
          exact sndS_for (it := it) (S := S) sndSi sndSs σ H D ρ L H0 O s q
        · have hb : (S.hot && tg.isTup) = true := by rw [m1, Bool.true_and]; simpa using ht
          exact ⟨fun pins s σ H D I ⟨ρ, L, H0, O, a, b⟩ => by
            simp only [ex, hb, if_true] at b
            exact b.elim⟩
    · cases h
  | .while t b, R, S, X, W, c, d, st, h => by
    simp only [agS] at h
    split at h
    · simp only [Bool.and_eq_true] at h
      exact toSs (ps_while d.po (tsnd t c _ h.1).1 (sssnd b c d _ h.2)) (sndS_while sndSt sndSs)
    · cases h
  | .ret e, R, S, X, W, c, d, st, h => by
    simp only [agS] at h
    split at h
    · exact toSs (ps_ret (esnd e c _ h)) (sndS_ret sndS)
    · cases h
  | .retN, R, S, X, W, c, d, st, h => by
    simp only [agS] at h
    split at h
    · exact toSs ps_retN fun σ H D ρ L H0 O s q => q _ _ s.same (by simp only [Rep])
    · cases h
  | .brk, R, S, X, W, c, d, st, h => by
    simp only [agS] at h
    split at h
    · exact toSs ps_break fun σ H D ρ L H0 O s q => q _ _ _ s
    · cases h
  | .cont, R, S, X, W, c, d, st, h => by
    simp only [agS] at h
    split at h
    · exact toSs ps_continue fun σ H D ρ L H0 O s q => q _ _ _ s
    · cases h
  | .pas, R, S, X, W, c, d, st, h => by
    simp only [agS] at h
    split at h
    · exact toSs ps_pass fun σ H D ρ L H0 O s q => q _ _ _ s
    · rename_i v p
      have hv : ∃ x j q, v = .Constant (.str x) j q := by
        unfold isStrC at h
        split at h
        · exact ⟨_, _, _, rfl⟩
        · cases h
      obtain ⟨x, j, q, rfl⟩ := hv
      exact toSs ps_doc fun σ H D ρ L H0 O s q => q _ _ _ s
    · cases h
  | .raise k es, R, S, X, W, c, d, st, h => by
    simp only [agS] at h
    split at h
    · simp only [Bool.and_eq_true, decide_eq_true_eq] at h
      obtain ⟨⟨⟨⟨⟨⟨h1, h2⟩, h3⟩, h4⟩, h5⟩, h6⟩, h7⟩ := h
      subst h1
      rcases c.md with m | m
      · exact raise_snd c m (by simpa using h2) h3 h4 h5 h6 h7
      · exact ⟨fun pins s σ H D I ⟨ρ, L, H0, O, a, b⟩ => by
          simp only [ex, m.1, if_true] at b
          exact b.elim⟩
    · cases h
  | .try k e hs, R, S, X, W, c, d, st, h => by
    simp only [agS] at h
    split at h
    · rw [Bool.and_eq_true] at h
      rcases c.md with m | m
      · exact try_snd c d m h.1 h.2 (hsnd hs c d m _ h.2)
      · exact ⟨fun pins s σ H D I ⟨ρ, L, H0, O, a, b⟩ => by
          simp only [ex, m.1, if_true] at b
          exact b.elim⟩
    · cases h
  | .nev, R, S, X, W, c, d, st, h => toSs ps_never fun σ H D ρ L H0 O s q => q
theorem sssnd : ∀ (x : Ss) {R : RC} {S : Sur} {X : Cx} {W : WX} (c : Cn X R T F nm ad n W S) (d : Dn X) (st : List Stmt), agSs nm X.N X.env.scope x st = true → PSs X st (tSs R W (exs S F x))
  | .nil, R, S, X, W, c, d, st, h => by
    simp only [agSs, List.isEmpty_iff] at h
    subst h
    exact toSss pss_nil fun σ H D ρ L H0 O s q => q _ _ _ s
  | .cons x r, R, S, X, W, c, d, st, h => by
    have go : ∀ (hx : ∀ i, x ≠ .frz i), PSs X st (tSs R W (exs S F (.cons x r))) := fun hx => by
      obtain ⟨p, ps, rfl, h1, h2⟩ := agSs_cons hx h
      exact toSss (pss_cons (ssnd x c d _ h1) (sssnd r c d _ h2)) (sndS_seq sndSs sndSs)
    cases x with
    | frz i =>
      simp only [agSs] at h
      refine toSss (sssnd r c d st h) fun σ H D ρ L H0 O s q => ?_
      obtain ⟨L', _, s', _, _⟩ := s.frz i
      exact sndSs σ H D _ L' H0 O s' q
    | _ => exact go fun i z => by cases z
theorem hsnd : ∀ (x : Hs) {R : RC} {S : Sur} {X : Cx} {W : WX} (c : Cn X R T F nm ad n W S) (d : Dn X) (m : X.calm = true ∧ R.hx = none ∧ Room (n + 2) X.A ∧ S.hot = false) (hds : List ExceptHandler), agHs nm X.N X.env.scope x hds = true → HdsMx X hds (clsL R nm S F x)
  | .nil, R, S, X, W, c, d, m, hds, h => by
    simp only [agHs, List.isEmpty_iff] at h
    subst h
    exact .nil
  | .cons k i b r, R, S, X, W, c, d, m, hds, h => by
    obtain ⟨p, y, b0, ss, pos, hds', rfl, h1, h2, h3, h4, h5, h6⟩ := agHs_cons h
    refine .cons ⟨glB_ok h2, nodun1 h3, .inl (c.gf.cl k h1).1⟩ h4 (fun a oe cls dd pn hz hf => ⟨fun pins s σ H D I ⟨k', hk, e, q⟩ => ?_⟩) (hsnd r c d m hds' h6)
    subst e
    exact (sssnd b (X := X.suite a ((a, oe) :: pn)) (c.suite m hk hz hf) ⟨d.kd, d.fo, PassesOwn.never, d.st, d.fr⟩ (b0 :: ss) h5).run pins s σ H D I q
end
end NL

end
section
set_option Elab.async false
set_option linter.all false
set_option maxRecDepth 100000
set_option maxHeartbeats 4000000
namespace NL
open PySem PySem.Spec PyProof.Rows L2 L2H
variable {T : Tb} {F : Nat} {nm : Nm} {ad : Ad} {ca : Str → Addr}
/-- how a def of the text stands beside its own syntax -/
structure FOk (K : PySem.W.Frag) (T : Tb) (nm : Nm) (ad : Ad) (f : Nat) (x : Str) (d : Df) (N : List Str) (st : Stmt) : Prop where
  df : T.df f = some d
  fn : FunD K x x (defArgs st) (defBody st) (defScope st) [] [] (ad.fad f) (ad.fdt f)
  sc : FnScope N (ad.fps f) (defScope st)
  ag : agSs nm N (defScope st) d.body (defBody st) = true
  np : d.np = (ad.fps f).length
  ns : d.ns = N.length
  nl : d.np ≤ d.ns
theorem sr_start {R : RC} {N : List Str} {d : Df} {vs : List V} {ds : List D} {H : Hp} {L : List Addr} (hl : Hid H L) (r : Reps R (vis H L) ds vs) (h1 : ds.length = d.np) (h2 : d.ns = N.length) (h3 : d.np ≤ d.ns) : SR R H L H L (L2.start N vs) (startR d ds) := by
  have lv : vs.length = ds.length := r.len
  refine ⟨Same.refl _, ?_, fun _ h => h, hl, hl, fun _ h => .inl h, fun i s v e1 e2 => ?_, fun i j d1 d2 l e1 e2 e3 e4 => ?_⟩
  · unfold L2.start startR
    rw [List.length_append, List.length_append, List.length_map, List.length_map, List.length_replicate, List.length_replicate, lv, h2]
  · unfold startR at e1
    unfold L2.start at e2
    by_cases hi : i < ds.length
    · rw [List.getElem?_append_left (by rw [List.length_map]; exact hi), List.getElem?_map, List.getElem?_eq_getElem hi] at e1
      cases e1
      rw [List.getElem?_append_left (by rw [List.length_map, lv]; exact hi), List.getElem?_map] at e2
      obtain ⟨x, q1, q2⟩ := r.get (List.getElem?_eq_getElem hi)
      rw [q1] at e2
      cases e2
      exact ⟨x, rfl, q2⟩
    · rw [List.getElem?_append_right (by rw [List.length_map]; omega), List.getElem?_replicate] at e1
      split at e1
      · cases e1
        trivial
      · cases e1
  · unfold startR at e1
    by_cases hi : i < ds.length
    · rw [List.getElem?_append_left (by rw [List.length_map]; exact hi), List.getElem?_map, List.getElem?_eq_getElem hi] at e1
      cases e1
    · rw [List.getElem?_append_right (by rw [List.length_map]; omega), List.getElem?_replicate] at e1
      split at e1 <;> cases e1
theorem run_eq {n : Nat} {hot : Bool} {f : Nat} {ds : List D} {d : Df} (h : T.df f = some d) : run T F (n + 1) hot f ds = if ds.length = d.np then endF (exs ⟨run T F n, hot, T.gl, T.B, T.ef⟩ F d.body (startR d ds)) else .bad := by
  show (match T.df f with
    | some d => if ds.length = d.np then endF (exs ⟨run T F n, hot, T.gl, T.B, T.ef⟩ F d.body (startR d ds)) else .bad
    | none => .bad) = _
  rw [h]
/-- a body's end is the call's end -/
theorem end_body {R : RC} {N : List Str} {d : Df} {vs : List V} {ds : List D} {H : Hp} {L : List Addr} {S : Sur} {E : XK} {Q : VK} (hl : Hid H L) (r : Reps R (vis H L) ds vs) (h1 : ds.length = d.np) (h2 : d.ns = N.length) (h3 : d.np ≤ d.ns)
    (q : Fin R L H E (endF (exs S F d.body (startR d ds))) Q) : tSs R (fun cls dd _ H => E cls dd H) (exs S F d.body) { nx := fun _ H' => Q .non H', rt := Q } (L2.start N vs) H := by
  refine ⟨startR d ds, L, H, L, sr_start hl r h1 h2 h3, ?_⟩
  cases z : exs S F d.body (startR d ds) with
  | bad => rw [z] at q; exact q.elim
  | er c fs es => rw [z] at q; exact ⟨q.1, fun cls dd σ H' m x => q.2 cls dd H' m x⟩
  | ok fl =>
    rw [z] at q
    cases fl with
    | nx ρ => exact fun σ H' L' s' => q _ _ s'.same (by simp only [Rep])
    | rt dd => exact fun v H' m rv => q v H' m rv
    | bk ρ => exact q.elim
    | ct ρ => exact q.elim
theorem lv_all {P : Program} {w : World} {K : PySem.W.Frag} {mg : Str → Option Value} {base : Heap} (gf : Gf T nm ad ca K mg) (hf : ∀ (f : Nat) (x : Str), nm.fn[f]? = some x → ∃ d N st, FOk K T nm ad f x d N st) : ∀ n, Lv P w K mg base T F nm ad ca n
  | 0 => ⟨fun f x hx => ⟨fun vs H Q E h => h.1, fun A outer s H args us vs Q E _ _ _ _ h => by
      obtain ⟨_, L, ds, _, _, q⟩ := h
      exact q.elim⟩, fun f x hx => ⟨fun p vs H Q E h => h.1, fun A outer s H args us vs Q E p _ _ _ _ _ _ h => by
      obtain ⟨_, h, L, ds, _, _, _, q⟩ := h
      exact q.elim⟩⟩
  | n + 1 => by
    have ih := lv_all (P := P) (w := w) (base := base) gf hf n
    refine ⟨fun f x hx => ?_, fun f x hx => ?_⟩
    · obtain ⟨d, N, st, O⟩ := hf f x hx
      refine O.fn.ok O.sc (fun vs H Q E h => h.1) fun cdv A outer s H vs Q E hr h => ?_
      let X := cxOf (L2N.CX P w) P w K mg base N x (defScope st) (ad.fad f) cdv A outer s H E
      have c : Cn X ⟨K, none, ca⟩ T F nm ad n (fun cls dd _ H => E cls dd H) ⟨run T F n, false, T.gl, T.B, T.ef⟩ := ⟨rfl, gf, ih, L2N.takes_of rfl rfl rfl rfl, O.sc.nd, Nat.lt_of_le_of_lt (show (A.deeper (envOfC x (defScope st) s.heap.objs.size (ad.fad f) cdv)).units + 65 ≤ (A.deeper (envOfC x (defScope st) s.heap.objs.size (ad.fad f) cdv)).units + 16 * (n + 2) + 200 by omega) hr.un, .inl ⟨rfl, rfl, hr, rfl⟩, rfl, rfl, rfl, rfl⟩
      have dn : Dn X := ⟨O.sc.kind, fun _ => rfl, passes_of rfl, rfl, rfl⟩
      refine ⟨_, sssnd d.body c dn (defBody st) O.ag, ?_⟩
      obtain ⟨_, L, ds, hl, r, q⟩ := h
      rw [run_eq O.df] at q
      split at q
      · rename_i hlen
        exact end_body hl r hlen O.ns O.nl q
      · exact q.elim
    · obtain ⟨d, N, st, O⟩ := hf f x hx
      obtain ⟨oc, od, dV, kV, doc, pm, an, cdv, ct, osl, efd, lk, hcd, _, _⟩ := O.fn.ex
      rw [efd] at lk ⊢
      refine fnHp_of lk hcd O.sc (fun p vs H Q E h => h.1) fun A outer s H vs Q E p hot hr hs => ?_
      obtain ⟨_, h, L, ds, hk, hl, r, q⟩ := hs
      obtain ⟨p1, p2⟩ := p
      have e1 : h.a = p1 := hk.a
      have e2 : h.oe = p2 := hk.oe
      subst e1 e2
      let X := cxH (L2N.CX P w) P w K mg base N x (defScope st) (ad.fad f) cdv A outer s H E (h.a, h.oe)
      have c : Cn X ⟨K, some h, ca⟩ T F nm ad n (fun cls dd _ H => E cls dd H) ⟨run T F n, true, T.gl, T.B, T.ef⟩ := ⟨rfl, gf, ih, L2N.takes_of rfl rfl rfl rfl, O.sc.nd, Nat.lt_of_le_of_lt (show (A.deeper (envOfC x (defScope st) s.heap.objs.size (ad.fad f) cdv)).units + 65 ≤ (A.deeper (envOfC x (defScope st) s.heap.objs.size (ad.fad f) cdv)).units + 16 * (n + 2) + 200 by omega) hr.un,
        .inr ⟨rfl, h, rfl, ⟨hot, List.mem_cons_self .., hk⟩, hr⟩, rfl, rfl, rfl, rfl⟩
      have dn : Dn X := ⟨O.sc.kind, fun _ => rfl, passes_of rfl, rfl, rfl⟩
      refine ⟨_, sssnd d.body c dn (defBody st) O.ag, ?_⟩
      rw [run_eq O.df] at q
      split at q
      · rename_i hlen
        exact end_body hl r hlen O.ns O.nl q
      · exact q.elim
end NL

end
section
set_option Elab.async false
set_option linter.all false
set_option maxRecDepth 100000
set_option maxHeartbeats 4000000
namespace NL
open PySem PySem.Spec PyProof.Rows L2 L2H
/-! ### a whole text: its defs, names, classes; what the head must tell of it -/
def dfl : FuncData := PySem.W.fnOf Str.empty Str.empty (defArgs (.Pass ⟨0, 0, 0, 0⟩)) [] (defScope (.Pass ⟨0, 0, 0, 0⟩)) .none .none .none .none none .none .none
def fdO (K : PySem.W.Frag) (a : Addr) : FuncData := match K.lookup a with
  | some ⟨_, _, .func fd, _⟩ => fd
  | _ => dfl
theorem fdO_eq {K : PySem.W.Frag} {x q : Str} {ar : Arguments} {b : List Stmt} {sc : Scope} {a : Addr} {fd : FuncData} (F : FunD K x q ar b sc [] [] a fd) : fdO K a = fd := by
  obtain ⟨oc, od, dV, kV, doc, pm, an, cdv, ct, osl, e, lk, _⟩ := F.ex
  unfold fdO
  rw [lk]
def Pg.ad (p : Pg) (K : PySem.W.Frag) : Ad := ⟨fun f => He.ga K ((p.fns[f]?.map (·.x)).getD Str.empty), fun f => fdO K (He.ga K ((p.fns[f]?.map (·.x)).getD Str.empty)), fun f => (p.fns[f]?.map (·.ps)).getD []⟩
/-- what a def's text must be, the heap aside -/
structure FnE.Ok (nm : Nm) (e : FnE) : Prop where
  sc : FnScope e.N e.ps (defScope e.st)
  ag : agSs nm e.N (defScope e.st) e.d.body (defBody e.st) = true
  np : e.d.np = e.ps.length
  ns : e.d.ns = e.N.length
  nl : e.d.np ≤ e.d.ns
  bd : ∀ (kV doc pm : Value) (an : Option Addr) (cdv ct : Value) (us : List Value), us.length = e.ps.length → bindArgs (PySem.W.fnOf e.x e.x (defArgs e.st) (defBody e.st) (defScope e.st) .none kV doc pm an cdv ct) ⟨us, []⟩ = pure (e.ps.zip us)
structure RcE.Ok (e : RcE) : Prop where
  sc : FnScope e.N e.N (defScope e.st)
  ag : agIn e.N (defScope e.st) 1 e.fs (defBody e.st) = true
  nl : e.N.length = e.fs.length + 1
  lim : e.fs.length ≤ 900
  bd : ∀ (kV doc pm : Value) (an : Option Addr) (cdv ct : Value) (us : List Value), us.length = e.N.length → bindArgs (PySem.W.fnOf "__init__" e.q (defArgs e.st) (defBody e.st) (defScope e.st) .none kV doc pm an cdv ct) ⟨us, []⟩ = pure (e.N.zip us)
structure Pg.Ok (p : Pg) : Prop where
  fns : ∀ e ∈ p.fns, e.Ok p.nm
  rcs : ∀ e ∈ p.rc, e.Ok
  im : ∀ x ∈ p.im, x = "gcd"
theorem oexB_ok {K : PySem.W.Frag} {C : Addr} (h : oexB K C = true) : ∃ nm q N bs bm sn sub ab col dd k0 k1 k2 k3 k5, K.lookup C = some (excClassObj nm q C N bs bm true sn sub ab col dd k0 k1 k2 k3 k5 "ValueError.__new__") ∧ PySem.HandSPX.refsVE bm = true := by
  unfold oexB at h
  split at h
  · rename_i t dd cd sl ho
    split at h
    · rename_i C' bm k0 k1 k2 k3 n k5 hm hs
      simp only [Bool.and_eq_true, decide_eq_true_eq, Bool.not_eq_true'] at h
      obtain ⟨⟨⟨⟨⟨h1, h2⟩, h3⟩, h4⟩, h5⟩, h6⟩ := h
      subst h1 h2 h3
      obtain ⟨nm, bs, mro, ns, qn, hd, sn, sub, ab, col, del⟩ := cd
      dsimp only at hm h4 h5
      subst hm h4 h5
      have hsl : sl = #[k0, k1, k2, k3, some (.builtin "ValueError.__new__"), k5] := by
        obtain ⟨l⟩ := sl
        simp only at hs
        rw [hs]
      subst hsl
      exact ⟨nm, qn, ns, bs, bm, sn, sub, ab, col, dd, k0, k1, k2, k3, k5, ho, h6⟩
    · cases h
  · cases h
theorem lookup_rc {c : Str} {fs : List Str} : ∀ {l : List RcE}, (l.map fun e => (e.c, e.fs)).lookup c = some fs → ∃ e ∈ l, e.c = c ∧ e.fs = fs
  | [], h => by cases h
  | e :: l, h => by
    rw [List.map_cons, List.lookup_cons] at h
    cases q : (c == e.c) with
    | true =>
      rw [q] at h
      exact ⟨e, List.mem_cons_self .., (beq_iff_eq.mp q).symm, Option.some.inj h⟩
    | false =>
      rw [q] at h
      obtain ⟨e', h1, h2⟩ := lookup_rc h
      exact ⟨e', List.mem_cons_of_mem _ h1, h2⟩
theorem rcB_ok {p : Pg} {K : PySem.W.Frag} {e : RcE} (h : rcB p K e = true) : OexC K (He.ga K e.c) ∧ ExcC K (He.ga K e.c) ∧ (∀ f ∈ e.fs, PySem.W.findIn K (.ref (He.ga K e.c)) f = some none) ∧
    PySem.W.findIn K (.ref (He.ga K e.c)) "__init__" = some (some (.ref (He.ma K (He.ga K e.c) "__init__"))) ∧ PySem.W.typeIn K (.ref (He.ma K (He.ga K e.c) "__init__")) = some (.type "function") ∧
    (∀ t ∈ tys, PySem.W.kitOne K (.ref (He.ga K e.c)) (.type t) = some ((p.T.B e.c).contains (.ty t))) ∧
    ∀ k ∈ p.cl, PySem.W.kitOne K (.ref (He.ga K e.c)) (.ref (He.ga K k)) = some ((p.T.B e.c).contains (.cls k)) ∧ PySem.W.exmOne K (.ref (He.ga K e.c)) (.ref (He.ga K k)) = some ((p.T.B e.c).contains (.cls k)) := by
  unfold rcB at h
  simp only [Bool.and_eq_true, decide_eq_true_eq, List.all_eq_true] at h
  obtain ⟨⟨⟨⟨⟨⟨⟨⟨⟨⟨⟨⟨⟨⟨⟨⟨h1, h2⟩, h3⟩, h4⟩, h5⟩, h6⟩, h7⟩, h8⟩, h9⟩, h10⟩, h11⟩, h12⟩, h13⟩, h14⟩, h15⟩, h16⟩, h17⟩ := h
  exact ⟨⟨oexB_ok h1, He.eqO_ok h2, h3, h4, h5⟩, ⟨He.eqO_ok h9, He.eqO_ok h10, h3, h11, He.eqO_ok h12, He.eqO_ok h13, h14, h15⟩, fun f hf => He.eqO_ok (h8 f hf), He.eqO_ok h6, h7, h16, h17⟩
theorem fn_at {p : Pg} {f : Nat} {x : Str} (h : p.nm.fn[f]? = some x) : ∃ e, p.fns[f]? = some e ∧ e.x = x := by
  have h' : (p.fns.map (·.x))[f]? = some x := h
  rw [List.getElem?_map] at h'
  cases q : p.fns[f]? with
  | none => rw [q] at h'; cases h'
  | some e => rw [q] at h'; exact ⟨e, rfl, Option.some.inj h'⟩
section
variable {p : Pg} {K : PySem.W.Frag}
theorem funD_fn (c : He.SaysD [] p.dds K) {f : Nat} {e : FnE} (h : p.fns[f]? = some e) : FunD K e.x e.x (defArgs e.st) (defBody e.st) (defScope e.st) [] [] ((p.ad K).fad f) ((p.ad K).fdt f) := by
  obtain ⟨fd, F⟩ := c.defs (d := e.dd) (List.mem_append_left _ (List.mem_map.mpr ⟨e, List.mem_of_getElem? h, rfl⟩))
  have F' : FunD K e.x e.x (defArgs e.st) (defBody e.st) (defScope e.st) [] [] (He.ga K e.x) fd := F
  have e1 : (p.ad K).fad f = He.ga K e.x := by unfold Pg.ad; simp only [h]; rfl
  have e2 : (p.ad K).fdt f = fdO K (He.ga K e.x) := by unfold Pg.ad; simp only [h]; rfl
  rw [e1, e2, fdO_eq F']
  exact F'
theorem gf_of (ok : p.Ok) {h : Heap} {mg : Str → Option Value} (X : K.In h) (G : h.Ns mainGlobals mg) (ex : exB p K = true) (c : He.SaysD [] p.dds K) : Gf p.T p.nm (p.ad K) (He.ga K) K mg := by
  unfold exB at ex
  simp only [Bool.and_eq_true, List.all_eq_true] at ex
  obtain ⟨⟨⟨⟨⟨x1, x2⟩, x3⟩, x4⟩, x5⟩, x6⟩ := ex
  have rc : ∀ k, k ∈ p.nm.rc → ∃ e ∈ p.rc, e.c = k := fun k hk => by
    obtain ⟨e, h1, h2⟩ := List.mem_map.mp (show k ∈ p.rc.map (·.c) from hk)
    exact ⟨e, h1, h2⟩
  constructor
  · intro f x hx
    obtain ⟨e, h1, rfl⟩ := fn_at hx
    have F := funD_fn c h1
    have e1 : (p.ad K).fad f = He.ga K e.x := by unfold Pg.ad; simp only [h1]; rfl
    have e2 : (p.ad K).fps f = e.ps := by unfold Pg.ad; simp only [h1]; rfl
    have m := List.mem_of_getElem? h1
    refine ⟨by rw [e1]; exact PySem.W.mg_of X G (He.eqO_ok (x1 e m)), F.kp, ?_⟩
    rw [e2]
    exact F.bindsN (ok.fns e m).bd
  · intro k x hx
    have hx' : (p.gs.map (·.1))[k]? = some x := hx
    rw [List.getElem?_map] at hx'
    cases q : p.gs[k]? with
    | none => rw [q] at hx'; cases hx'
    | some e =>
      rw [q] at hx'
      have eq : e.1 = x := Option.some.inj hx'
      subst eq
      have z := x2 e (List.mem_of_getElem? q)
      split at z
      · rename_i y t hy
        have ey := of_decide_eq_true z
        subst ey
        refine ⟨_, t, ?_, PySem.W.mg_of X G hy⟩
        show (p.gs.map (·.2))[k]? = _
        rw [List.getElem?_map, q]
        rfl
      · cases z
  · exact fun x hx => PySem.W.mg_none_of X G (He.eqO_ok (x3 x hx))
  · intro k hk
    have z := x5 k hk
    exact ⟨PySem.W.mg_of X G (He.eqO_ok z.1.1), z.1.2⟩
  · intro k hk
    obtain ⟨e, h1, rfl⟩ := rc k hk
    obtain ⟨r1, r2, r3, _⟩ := rcB_ok (x6 e h1)
    refine ⟨r2, fun fs f hf hm => ?_⟩
    obtain ⟨e', h2, h3, h4⟩ := lookup_rc (l := p.rc) hf
    obtain ⟨_, _, r4, _⟩ := rcB_ok (x6 e' h2)
    rw [h3, h4] at r4
    exact r4 f hm
  · intro k t hk ht
    obtain ⟨e, h1, rfl⟩ := rc k hk
    obtain ⟨_, _, _, _, _, r6, r7⟩ := rcB_ok (x6 e h1)
    cases t with
    | ty t => exact r6 t (by unfold clsOk at ht; simpa [tys] using ht)
    | cls x => exact (r7 x (List.contains_iff_mem.mp (show p.nm.cl.contains x = true from ht))).1
  · intro t k ht hk
    have z := x5 k hk
    simp only [Bool.and_eq_true, List.all_eq_true, decide_eq_true_eq] at z
    exact z.2 t ht
  · intro f x d hx hd
    obtain ⟨e, h1, rfl⟩ := fn_at hx
    have e2 : (p.ad K).fps f = e.ps := by unfold Pg.ad; simp only [h1]; rfl
    have hd' : (p.fns[f]?).map (·.d) = some d := hd
    rw [h1] at hd'
    have ed : e.d = d := Option.some.inj hd'
    rw [e2, ← ed]
    exact (ok.fns e (List.mem_of_getElem? h1)).np
  · intro k fs hk
    obtain ⟨e, h2, h3, h4⟩ := lookup_rc (l := p.rc) hk
    exact List.mem_map.mpr ⟨e, h2, h3⟩
  · intro k y hk hy
    obtain ⟨e, h1, rfl⟩ := rc k hk
    obtain ⟨_, _, _, _, _, r6, r7⟩ := rcB_ok (x6 e h1)
    exact (r7 y hy).2
  · intro k fs hk ne
    obtain ⟨e, h2, rfl, rfl⟩ := lookup_rc (l := p.rc) hk
    obtain ⟨r1, r2, r3, r4, r5, _⟩ := rcB_ok (x6 e h2)
    have O := ok.rcs e h2
    obtain ⟨fd, F⟩ := c.defs (d := e.dd) (List.mem_append_right _ (List.mem_map.mpr ⟨e, h2, rfl⟩))
    have F' : FunD K "__init__" e.q (defArgs e.st) (defBody e.st) (defScope e.st) [] [] (He.ma K (He.ga K e.c) "__init__") fd := F
    exact ⟨O.lim, r1, r3, _, fd, e.q, e.st, e.N, r4, r5, F', O.sc, F'.bindsN O.bd, O.ag, O.nl⟩
  · intro x hx
    exact ⟨ok.im x hx, PySem.W.mg_of X G (He.eqO_ok (x4 x hx))⟩
/-- the law's def keeps the run's promise -/
theorem law_fn (ok : p.Ok) {P : Program} {w : World} {h base : Heap} {mg : Str → Option Value} (X : K.In h) (G : h.Ns mainGlobals mg) (ex : exB p K = true) (c : He.SaysD [] p.dds K) (F n : Nat) {f : Nat} {e : FnE} (he : p.fns[f]? = some e) :
    FnOk P w K mg base (L2N.CX P w) (n + 2) (He.ga K e.x) ((p.ad K).fdt f) e.ps (spC p.T F K (He.ga K) n f e.ps.length) := by
  have gf := gf_of ok X G ex c
  have L := lv_all (P := P) (w := w) (base := base) (F := F) gf (fun f x hx => by
    obtain ⟨e, h1, rfl⟩ := fn_at hx
    have O := ok.fns e (List.mem_of_getElem? h1)
    have e2 : (p.ad K).fps f = e.ps := by unfold Pg.ad; simp only [h1]; rfl
    refine ⟨e.d, e.N, e.st, ⟨?_, funD_fn c h1, by rw [e2]; exact O.sc, O.ag, by rw [e2]; exact O.np, O.ns, O.nl⟩⟩
    show (p.fns[f]?).map (·.d) = _
    rw [h1]
    rfl) n
  have e1 : (p.ad K).fad f = He.ga K e.x := by unfold Pg.ad; simp only [he]; rfl
  have e2 : (p.ad K).fps f = e.ps := by unfold Pg.ad; simp only [he]; rfl
  have z := L.calm f e.x (by show (p.fns.map (·.x))[f]? = _; rw [List.getElem?_map, he]; rfl)
  rw [e1, e2] at z
  exact z
end
/-- what lets nothing out -/
theorem shut_fn {P : Program} {w : World} {K : PySem.W.Frag} {mg : Str → Option Value} {base : Heap} {k : Nat} {f : Addr} {fd : FuncData} {ps : List Str} {sp : Sp} (F : FnOk P w K mg base (L2N.CX P w) k f fd ps sp) : FnOk P w K mg base L2.CX0 k f fd ps (fun vs H Q _ => sp vs H Q fun _ _ _ => False) := by
  refine ⟨fun vs H Q E h => F.len vs H Q _ h, ?_⟩
  intro A outer s H args us vs Q E hr e0 hb r h
  refine codeAny_mono (F.run A outer s H args us vs Q _ hr e0 hb r h) ?_
  rintro (er | fl) s' q
  · obtain ⟨_, _, _, _, _, _, _, _, _, _, _, _, z⟩ := q
    exact z.elim
  · cases fl <;> exact q
/-- the whole walk of a law: what is left is the plain law -/
theorem walk_law (p : Pg) (ok : p.Ok) {l : PySem.W.OpenLaw} {n k F : Nat} {q : Program} {loose : List Str} {XP : (Str → Option Value) → Heap → Prop} {d : DefRec} {x sc : Str} (hn : l.most = some n) (hn2 : n ≤ sizeLine) (hdf : d.params.defaults = []) (hr : Room (k + 2) callerA) {f : Nat} {e : FnE} (he : p.fns[f]? = some e)
    (hx : e.x = d.name) (hps : e.ps = [sc]) (plain : ∀ ns : List Int, ns.length ≤ n → run p.T F k false f [.scr ns] = .ok (.bl true)) :
    PySem.W.WalkO q loose XP (He.hookX 4 [] p.dds [] [] (exB p)).says l.row.toRowW d [] (fun f vs => PySem.call f vs) := by
  refine L2.walk_ofE (k := k + 2) (x := sc) (CX := L2.CX0) hn hn2 hdf hr ?_ (fun _ _ _ _ z => z)
  intro w mg fa h Y G hmg
  obtain ⟨K, KX, c⟩ := Y
  have cd : He.SaysD [] p.dds K := c.t.d
  have gf := gf_of ok KX G c.more cd
  have m := gf.fn f e.x (by show (p.fns.map (·.x))[f]? = _; rw [List.getElem?_map, he]; rfl)
  have e1 : (p.ad K).fad f = He.ga K e.x := by unfold Pg.ad; simp only [he]; rfl
  have ea : fa = He.ga K e.x := by
    have z := m.1
    rw [hx, hmg, e1, hx] at z
    rw [hx]
    cases z
    rfl
  subst ea
  have Fd := funD_fn cd he
  have b := FunD.bindsA Fd (ok.fns e (List.mem_of_getElem? he)).bd
  refine ⟨K, (p.ad K).fdt f, _, KX, fun s v => by have z := b s [v] (by rw [hps]; rfl); rw [hps] at z; exact z, fun H a ns hl _ hS => ?_, fun base _ _ => by
    have z := shut_fn (law_fn ok (P := l.prog) (w := w) (base := base) KX G c.more cd F k he)
    rw [hps] at z
    exact z⟩
  refine ⟨rfl, [], [.scr ns], fun _ z => (nomatch z), Reps.one ?_, ?_⟩
  · simp only [Rep]
    exact ⟨a, rfl, by rw [vis_nil]; exact hS⟩
  · rw [plain ns hl]
    exact fun v H' _ r => by
      simp only [Rep] at r
      exact r
end NL

end
section
set_option Elab.async false
set_option linter.all false
set_option maxRecDepth 100000
set_option maxHeartbeats 0
namespace NL
open PySem PySem.Spec PyProof.Rows L2
theorem ok__law_digits : e__law_digits.Ok pg.nm := by
  refine ⟨⟨rfl, rfl, rfl, by decide +kernel, rfl, by decide +kernel, by decide +kernel⟩, by decide +kernel, rfl, rfl, by decide, ?_⟩
  intro kV doc pm an cdv ct us hl
  exact match us, hl with | [_, _], _ => rfl
theorem ok__law_amount : e__law_amount.Ok pg.nm := by
  refine ⟨⟨rfl, rfl, rfl, by decide +kernel, rfl, by decide +kernel, by decide +kernel⟩, by decide +kernel, rfl, rfl, by decide, ?_⟩
  intro kV doc pm an cdv ct us hl
  exact match us, hl with | [_, _], _ => rfl
theorem ok__law_cell : e__law_cell.Ok pg.nm := by
  refine ⟨⟨rfl, rfl, rfl, by decide +kernel, rfl, by decide +kernel, by decide +kernel⟩, by decide +kernel, rfl, rfl, by decide, ?_⟩
  intro kV doc pm an cdv ct us hl
  exact match us, hl with | [_, _], _ => rfl
theorem ok__law_fraction : e__law_fraction.Ok pg.nm := by
  refine ⟨⟨rfl, rfl, rfl, by decide +kernel, rfl, by decide +kernel, by decide +kernel⟩, by decide +kernel, rfl, rfl, by decide, ?_⟩
  intro kV doc pm an cdv ct us hl
  exact match us, hl with | [_, _, _, _], _ => rfl
theorem ok__law_second : e__law_second.Ok pg.nm := by
  refine ⟨⟨rfl, rfl, rfl, by decide +kernel, rfl, by decide +kernel, by decide +kernel⟩, by decide +kernel, rfl, rfl, by decide, ?_⟩
  intro kV doc pm an cdv ct us hl
  exact match us, hl with | [_, _, _], _ => rfl
theorem ok__law_divisor : e__law_divisor.Ok pg.nm := by
  refine ⟨⟨rfl, rfl, rfl, by decide +kernel, rfl, by decide +kernel, by decide +kernel⟩, by decide +kernel, rfl, rfl, by decide, ?_⟩
  intro kV doc pm an cdv ct us hl
  exact match us, hl with | [_, _], _ => rfl
theorem ok__law_lowest : e__law_lowest.Ok pg.nm := by
  refine ⟨⟨rfl, rfl, rfl, by decide +kernel, rfl, by decide +kernel, by decide +kernel⟩, by decide +kernel, rfl, rfl, by decide, ?_⟩
  intro kV doc pm an cdv ct us hl
  exact match us, hl with | [_, _], _ => rfl
theorem ok__law_whole : e__law_whole.Ok pg.nm := by
  refine ⟨⟨rfl, rfl, rfl, by decide +kernel, rfl, by decide +kernel, by decide +kernel⟩, by decide +kernel, rfl, rfl, by decide, ?_⟩
  intro kV doc pm an cdv ct us hl
  exact match us, hl with | [_], _ => rfl
theorem ok__law_same : e__law_same.Ok pg.nm := by
  refine ⟨⟨rfl, rfl, rfl, by decide +kernel, rfl, by decide +kernel, by decide +kernel⟩, by decide +kernel, rfl, rfl, by decide, ?_⟩
  intro kV doc pm an cdv ct us hl
  exact match us, hl with | [_, _, _], _ => rfl
theorem ok_ratio : e_ratio.Ok pg.nm := by
  refine ⟨⟨rfl, rfl, rfl, by decide +kernel, rfl, by decide +kernel, by decide +kernel⟩, by decide +kernel, rfl, rfl, by decide, ?_⟩
  intro kV doc pm an cdv ct us hl
  exact match us, hl with | [_, _], _ => rfl
theorem ok__law_sole : e__law_sole.Ok pg.nm := by
  refine ⟨⟨rfl, rfl, rfl, by decide +kernel, rfl, by decide +kernel, by decide +kernel⟩, by decide +kernel, rfl, rfl, by decide, ?_⟩
  intro kV doc pm an cdv ct us hl
  exact match us, hl with | [_], _ => rfl
theorem ok__law_refused : e__law_refused.Ok pg.nm := by
  refine ⟨⟨rfl, rfl, rfl, by decide +kernel, rfl, by decide +kernel, by decide +kernel⟩, by decide +kernel, rfl, rfl, by decide, ?_⟩
  intro kV doc pm an cdv ct us hl
  exact match us, hl with | [_], _ => rfl
theorem ok__law_lowered : e__law_lowered.Ok pg.nm := by
  refine ⟨⟨rfl, rfl, rfl, by decide +kernel, rfl, by decide +kernel, by decide +kernel⟩, by decide +kernel, rfl, rfl, by decide, ?_⟩
  intro kV doc pm an cdv ct us hl
  exact match us, hl with | [_], _ => rfl
theorem ok_ratio_distance : e_ratio_distance.Ok pg.nm := by
  refine ⟨⟨rfl, rfl, rfl, by decide +kernel, rfl, by decide +kernel, by decide +kernel⟩, by decide +kernel, rfl, rfl, by decide, ?_⟩
  intro kV doc pm an cdv ct us hl
  exact match us, hl with | [_, _], _ => rfl
theorem ok_ratio_sum : e_ratio_sum.Ok pg.nm := by
  refine ⟨⟨rfl, rfl, rfl, by decide +kernel, rfl, by decide +kernel, by decide +kernel⟩, by decide +kernel, rfl, rfl, by decide, ?_⟩
  intro kV doc pm an cdv ct us hl
  exact match us, hl with | [_, _], _ => rfl
theorem ok_ratio_product : e_ratio_product.Ok pg.nm := by
  refine ⟨⟨rfl, rfl, rfl, by decide +kernel, rfl, by decide +kernel, by decide +kernel⟩, by decide +kernel, rfl, rfl, by decide, ?_⟩
  intro kV doc pm an cdv ct us hl
  exact match us, hl with | [_, _], _ => rfl
theorem ok__law_joined : e__law_joined.Ok pg.nm := by
  refine ⟨⟨rfl, rfl, rfl, by decide +kernel, rfl, by decide +kernel, by decide +kernel⟩, by decide +kernel, rfl, rfl, by decide, ?_⟩
  intro kV doc pm an cdv ct us hl
  exact match us, hl with | [_, _], _ => rfl
theorem ok_law : e_law.Ok pg.nm := by
  refine ⟨⟨rfl, rfl, rfl, by decide +kernel, rfl, by decide +kernel, by decide +kernel⟩, by decide +kernel, rfl, rfl, by decide, ?_⟩
  intro kV doc pm an cdv ct us hl
  exact match us, hl with | [_], _ => rfl
theorem ok_BadCount : x_BadCount.Ok := by
  refine ⟨⟨rfl, rfl, rfl, by decide +kernel, rfl, by decide +kernel, by decide +kernel⟩, by decide +kernel, rfl, by decide, ?_⟩
  intro kV doc pm an cdv ct us hl
  exact match us, hl with | [_, _], _ => rfl
theorem pg_ok : pg.Ok := ⟨List.forall_mem_cons.mpr ⟨ok__law_digits, List.forall_mem_cons.mpr ⟨ok__law_amount, List.forall_mem_cons.mpr ⟨ok__law_cell, List.forall_mem_cons.mpr ⟨ok__law_fraction, List.forall_mem_cons.mpr ⟨ok__law_second, List.forall_mem_cons.mpr ⟨ok__law_divisor, List.forall_mem_cons.mpr ⟨ok__law_lowest, List.forall_mem_cons.mpr ⟨ok__law_whole, List.forall_mem_cons.mpr ⟨ok__law_same, List.forall_mem_cons.mpr ⟨ok_ratio, List.forall_mem_cons.mpr ⟨ok__law_sole, List.forall_mem_cons.mpr ⟨ok__law_refused, List.forall_mem_cons.mpr ⟨ok__law_lowered, List.forall_mem_cons.mpr ⟨ok_ratio_distance, List.forall_mem_cons.mpr ⟨ok_ratio_sum, List.forall_mem_cons.mpr ⟨ok_ratio_product, List.forall_mem_cons.mpr ⟨ok__law_joined, List.forall_mem_cons.mpr ⟨ok_law, fun _ h => (nomatch h)⟩⟩⟩⟩⟩⟩⟩⟩⟩⟩⟩⟩⟩⟩⟩⟩⟩⟩, List.forall_mem_cons.mpr ⟨ok_BadCount, fun _ h => (nomatch h)⟩, List.forall_mem_cons.mpr ⟨rfl, fun _ h => (nomatch h)⟩⟩
end NL

end
section
set_option Elab.async false
set_option linter.all false
set_option maxRecDepth 100000
set_option maxHeartbeats 0
open PySem PySem.W PySem.Calls PyProof.Rows
theorem NL.holds05 (plain : ∀ ns : List Int, ns.length ≤ 63 → NL.run NL.pg.T 5000 40 false 17 [.scr ns] = .ok (.bl true)) : PySem.Challenge.rw_neverlocked_k05_ratios.Holds := by
  w_on; o_law
  refine HandSHeadRun.head_imp (r := OpenLaw.row PySem.Challenge.rw_neverlocked_k05_ratios) (q := view (OpenLaw.row PySem.Challenge.rw_neverlocked_k05_ratios).prog [0, 60]) (H := NL.hkX) (ob := NL.obX) (M := 40000) (loose := NL.loose) (d := HandSHeadRun.topDef (OpenLaw.row PySem.Challenge.rw_neverlocked_k05_ratios).prog 60) (kwd := []) NL.obX_eq NL.run_eq05
    (by kernel_rfl) (by kernel_rfl) (by kernel_rfl) (by rfl) (by first | assumption | decide +kernel) (by decide +kernel) ⟨rfl, rfl, rfl, rfl, rfl, by decide +kernel⟩ ?hw ?hc
  case hw => w_witness2
  case hc => exact NL.walk_law (k := 40) (F := 5000) (n := 63) (x := "law") (sc := "script") NL.pg NL.pg_ok (l := PySem.Challenge.rw_neverlocked_k05_ratios) rfl (by decide) (by kernel_rfl) ⟨by decide +kernel, by decide +kernel, by decide +kernel⟩ (f := 17) (e := NL.e_law) rfl (by kernel_rfl) rfl plain

end
section
set_option linter.all false
set_option maxRecDepth 10000
set_option maxHeartbeats 2000000
set_option exponentiation.threshold 5000
namespace NL
open PySem
/-! ### the plain law -/
theorem eq_int (a b : Int) : eqD (.int a) (.int b) = .ok (decide (a = b)) := by
  unfold eqD
  have h : (D.scal (.int a) && D.scal (.int b) && L2.scal (D.flat (.int a)) (D.flat (.int b))) = true := rfl
  rw [if_pos h]
  simp [D.flat]
theorem at_nat {α : Type} {xs : List α} {k : Nat} (h : k < xs.length) : L2.atI xs (k : Int) = xs[k]? := by
  unfold L2.atI L2.ixN
  rw [if_pos (by omega), if_pos (by omega)]
  rfl
theorem at0 {α : Type} {a : α} {l : List α} : L2.atI (a :: l) 0 = some a := at_nat (k := 0) (by simp)
theorem at1 {α : Type} {a b : α} {l : List α} : L2.atI (a :: b :: l) 1 = some b := at_nat (k := 1) (by simp)
theorem run1 {n F : Nat} {hot : Bool} {f : Nat} {ds : List D} {d : Df} (h : pg.T.df f = some d) (hl : ds.length = d.np) : run pg.T F (n + 1) hot f ds = endF (exs ⟨run pg.T F n, hot, pg.T.gl, pg.T.B, pg.T.ef⟩ F d.body (startR d ds)) := by
  rw [run_eq h, if_pos hl]
variable {n F : Nat} {hot : Bool}
/-- lowest terms -/
def gg (a b : Int) : Nat := Nat.gcd a.natAbs b.natAbs
def rtT (a b : Int) : Int := (if b < 0 then -a else a) / (gg a b : Int)
def rtB (a b : Int) : Int := (if b < 0 then -b else b) / (gg a b : Int)
def rtD (a b : Int) : D := .tup [.int (rtT a b), .int (rtB a b)]
theorem gg_pos {a b : Int} (h : b ≠ 0) : 0 < gg a b := Nat.gcd_pos_of_pos_right _ (by omega)
theorem log_le {k m : Nat} (h : k < 2 ^ m) (hm : 0 < m) : k.log2 < m := by
  by_cases z : k = 0
  · subst z
    simpa using hm
  · exact (Nat.log2_lt z).mpr h
theorem gg_le {a b : Int} (h : b ≠ 0) : gg a b ≤ b.natAbs := Nat.gcd_le_right _ (by omega)
/-- what is not too wide -/
def Wd (m : Nat) (a : Int) : Prop := a.natAbs < 2 ^ m
theorem gg_log {a b : Int} (h : b ≠ 0) (hs : Wd 4000 b) : (gg a b).log2 < 9000 := by
  have := gg_le (a := a) h
  have := log_le (m := 4000) (Nat.lt_of_le_of_lt this hs) (by decide)
  omega
theorem r_ratio_pos {a b : Int} (hb : 0 < b) (hs : Wd 4000 b) : run pg.T F (n + 1) hot 9 [.int a, .int b] = .ok (rtD a b) := by
  rw [run1 (d := e_ratio.d) rfl rfl]
  have h1 : ¬ b = 0 := by omega
  have h2 : ¬ b < 0 := by omega
  have h3 := gg_pos (a := a) h1
  have h4 := gg_log (a := a) h1 hs
  have h5 : (0 : Int) < (Nat.gcd a.natAbs b.natAbs : Nat) := by exact_mod_cast h3
  have h6 : (Nat.gcd a.natAbs b.natAbs).log2 < 9000 := h4
  simp [exs, ex, seqF, ev, evs, evT, evo, evq, evI, startR, endF, binD, primD, cmpD, subD, sliceD, endI, truthD, isAny, isOne, tyName, bOut, seqOf, setTg, eq_int, D.isNon, at0, at1, Tg.isTup, e_ratio, b_ratio, h1, h2, h5, h6, rtD, rtT, rtB, gg]
theorem sm_neg {m : Nat} {a : Int} (h : Wd m a) : Wd m (-a) := by unfold Wd at *; omega
theorem r_ratio {a b : Int} (hb : b ≠ 0) (hs : Wd 4000 b) : run pg.T F (n + 2) hot 9 [.int a, .int b] = .ok (rtD a b) := by
  by_cases h : b < 0
  · rw [run1 (d := e_ratio.d) rfl rfl]
    have r := r_ratio_pos (n := n) (F := F) (hot := hot) (a := -a) (b := -b) (by omega) (sm_neg hs)
    simp [exs, ex, seqF, ev, evs, evT, evo, evq, evI, startR, endF, binD, primD, cmpD, subD, sliceD, endI, truthD, isAny, isOne, tyName, bOut, seqOf, setTg, eq_int, D.isNon, at0, at1, Tg.isTup, e_ratio, b_ratio, hb, h, r]
    have h2 : ¬ (0 < b) := by omega
    simp [exs, ex, seqF, ev, evs, evT, evo, evq, evI, startR, endF, binD, primD, cmpD, subD, sliceD, endI, truthD, isAny, isOne, tyName, bOut, seqOf, setTg, eq_int, D.isNon, at0, at1, Tg.isTup, rtD, rtT, rtB, gg, h, h2]
  · exact r_ratio_pos (by omega) hs
theorem r_ratio_zero {a : Int} : run pg.T F (n + 1) false 9 [.int a, .int 0] = .er "BadCount" ["number"] [.int 0] := by
  rw [run1 (d := e_ratio.d) rfl rfl]
  have h : pg.T.ef "BadCount" = some (["number"] : List Str) := by rfl

  simp [exs, ex, seqF, ev, evs, evT, evo, evq, evI, startR, endF, binD, primD, cmpD, subD, sliceD, endI, truthD, isAny, isOne, tyName, bOut, seqOf, setTg, eq_int, D.isNon, at0, at1, Tg.isTup, e_ratio, b_ratio, h]
theorem r_sole : run pg.T F (n + 1) true 10 [.exc "BadCount" ["number"] [.int 0]] = .ok (.bl true) := rfl
theorem r_whole {a : Int} : run pg.T F (n + 1) hot 7 [.int a] = .ok (.bl true) := by
  rw [run1 (d := e__law_whole.d) rfl rfl]
  simp [exs, ex, seqF, ev, evs, evT, evo, evq, evI, startR, endF, binD, primD, cmpD, subD, sliceD, endI, truthD, isAny, isOne, tyName, bOut, seqOf, setTg, eq_int, D.isNon, at0, at1, Tg.isTup, e__law_whole, b__law_whole]
theorem r_same_int {a c : Int} {k : Int} : run pg.T F (n + 2) hot 8 [.int a, .int c, .int k] = .ok (.bl (decide (a = c))) := by
  rw [run1 (d := e__law_same.d) rfl rfl]
  have h := r_whole (n := n) (F := F) (hot := hot) (a := a)
  simp [exs, ex, seqF, ev, evs, evT, evo, evq, evI, startR, endF, binD, primD, cmpD, subD, sliceD, endI, truthD, isAny, isOne, tyName, bOut, seqOf, setTg, eq_int, D.isNon, at0, at1, Tg.isTup, e__law_same, b__law_same, h]
theorem r_same_two {a b : Int} : run pg.T F (n + 3) hot 8 [.tup [.int a, .int b], .tup [.int a, .int b], .int 2] = .ok (.bl true) := by
  rw [run1 (d := e__law_same.d) rfl rfl]
  have h1 := r_same_int (n := n) (F := F) (hot := hot) (a := a) (c := a) (k := 1)
  have h2 := r_same_int (n := n) (F := F) (hot := hot) (a := b) (c := b) (k := 1)
  have e : rngD 0 2 = [.int 0, .int 1] := rfl
  have e2 : rngOk 0 2 = true := by decide
  simp [exs, ex, seqF, ev, evs, evT, evo, evq, evI, startR, endF, binD, primD, cmpD, subD, sliceD, endI, truthD, isAny, isOne, tyName, bOut, seqOf, setTg, eq_int, D.isNon, at0, at1, Tg.isTup, e__law_same, b__law_same, h1, h2, e, e2, loopF]

/-! Euclid's way -/
def euB : Ss := match b__law_divisor with
  | .cons _ (.cons _ (.cons (.for _ _ b) _)) => b
  | _ => .nil
theorem eu_body {S : Sur} {a0 b0 d s5 : Sl} {x y : Int} (hy : 0 ≤ y) : exs S F euB [a0, b0, .dat (.int x), .dat (.int y), d, s5] =
    if y = 0 then .ok (.bk [a0, b0, .dat (.int x), .dat (.int y), d, s5]) else .ok (.nx [a0, b0, .dat (.int y), .dat (.int (x % y)), d, .dat (.int (x % y))]) := by
  by_cases h : y = 0
  · subst h
    simp [exs, ex, seqF, ev, evs, evT, evo, evq, evI, startR, endF, binD, primD, cmpD, subD, sliceD, endI, truthD, isAny, isOne, tyName, bOut, seqOf, setTg, eq_int, D.isNon, at0, at1, Tg.isTup, euB, b__law_divisor]
  · have h2 : 0 < y := by omega
    simp [exs, ex, seqF, ev, evs, evT, evo, evq, evI, startR, endF, binD, primD, cmpD, subD, sliceD, endI, truthD, isAny, isOne, tyName, bOut, seqOf, setTg, eq_int, D.isNon, at0, at1, Tg.isTup, euB, b__law_divisor, h, h2]
theorem eu_loop {S : Sur} {a0 b0 : Sl} : ∀ (m : Nat) (ds : List D) (x y : Int) (s4 s5 : Sl), 0 ≤ x → 0 ≤ y → y < 2 ^ m → 2 * m ≤ ds.length → ∃ y' s4' s5', loopF (.one 4) (fun r => exs S F euB r) ds [a0, b0, .dat (.int x), .dat (.int y), s4, s5] = .ok (.nx [a0, b0, .dat (.int (Nat.gcd x.natAbs y.natAbs : Nat)), y', s4', s5'])
  | m, [], x, y, s4, s5, hx, hy, hm, hl => by
    have hz : m = 0 := by simp at hl; omega
    subst hz
    have : y = 0 := by omega
    subst this
    refine ⟨.dat (.int 0), s4, s5, ?_⟩
    simp [exs, ex, seqF, ev, evs, evT, evo, evq, evI, startR, endF, binD, primD, cmpD, subD, sliceD, endI, truthD, isAny, isOne, tyName, bOut, seqOf, setTg, eq_int, D.isNon, at0, at1, Tg.isTup, loopF]
    omega
  | m, [d], x, y, s4, s5, hx, hy, hm, hl => by
    have hz : m = 0 := by simp at hl; omega
    subst hz
    have : y = 0 := by omega
    subst this
    refine ⟨.dat (.int 0), .dat d, s5, ?_⟩
    simp [exs, ex, seqF, ev, evs, evT, evo, evq, evI, startR, endF, binD, primD, cmpD, subD, sliceD, endI, truthD, isAny, isOne, tyName, bOut, seqOf, setTg, eq_int, D.isNon, at0, at1, Tg.isTup, loopF, eu_body]
    omega
  | m, d :: d2 :: ds, x, y, s4, s5, hx, hy, hm, hl => by
    by_cases h : y = 0
    · subst h
      refine ⟨.dat (.int 0), .dat d, s5, ?_⟩
      simp [exs, ex, seqF, ev, evs, evT, evo, evq, evI, startR, endF, binD, primD, cmpD, subD, sliceD, endI, truthD, isAny, isOne, tyName, bOut, seqOf, setTg, eq_int, D.isNon, at0, at1, Tg.isTup, loopF, eu_body]
      omega
    · cases m with
      | zero => exfalso; omega
      | succ m =>
        have r0 : 0 ≤ x % y := Int.emod_nonneg _ h
        have r1 : x % y < y := Int.emod_lt_of_pos _ (by omega)
        have g1 : Nat.gcd y.natAbs (x % y).natAbs = Nat.gcd x.natAbs y.natAbs := by
          have e : (x % y).natAbs = x.natAbs % y.natAbs := by
            rw [Int.natAbs_emod_of_nonneg hx]
          rw [e, Nat.gcd_comm y.natAbs, ← Nat.gcd_rec, Nat.gcd_comm]
        by_cases h2 : x % y = 0
        · refine ⟨.dat (.int 0), .dat d2, .dat (.int 0), ?_⟩
          rw [← g1]
          simp [exs, ex, seqF, ev, evs, evT, evo, evq, evI, startR, endF, binD, primD, cmpD, subD, sliceD, endI, truthD, isAny, isOne, tyName, bOut, seqOf, setTg, eq_int, D.isNon, at0, at1, Tg.isTup, loopF, eu_body, hy, h, h2]
          omega
        · have q0 : 0 ≤ y % (x % y) := Int.emod_nonneg _ h2
          have q1 : y % (x % y) < x % y := Int.emod_lt_of_pos _ (by omega)
          have q2 : y % (x % y) + x % y ≤ y := by
            generalize x % y = r at r0 r1 q0 q1 h2
            have e := Int.emod_add_mul_ediv y r
            have p : 1 ≤ y / r := (Int.le_ediv_iff_mul_le (by omega)).mpr (by omega)
            have p2 := Int.mul_le_mul_of_nonneg_left p r0
            omega
          have g2 : Nat.gcd (x % y).natAbs (y % (x % y)).natAbs = Nat.gcd y.natAbs (x % y).natAbs := by
            have e : (y % (x % y)).natAbs = y.natAbs % (x % y).natAbs := by
              rw [Int.natAbs_emod_of_nonneg hy]
            rw [e, Nat.gcd_comm (x % y).natAbs, ← Nat.gcd_rec, Nat.gcd_comm]
          obtain ⟨y', s4', s5', e⟩ := eu_loop (S := S) (a0 := a0) (b0 := b0) m ds (x % y) (y % (x % y)) (.dat d2) (.dat (.int (y % (x % y)))) r0 q0 (by rw [Int.pow_succ] at hm; omega) (by simp at hl; omega)
          refine ⟨y', s4', s5', ?_⟩
          rw [← g1, ← g2, ← e]
          simp [exs, ex, seqF, ev, evs, evT, evo, evq, evI, startR, endF, binD, primD, cmpD, subD, sliceD, endI, truthD, isAny, isOne, tyName, bOut, seqOf, setTg, eq_int, D.isNon, at0, at1, Tg.isTup, loopF, eu_body, hy, h, h2, r0]

theorem int_abs (a : Int) : (if a < 0 then -a else a) = (a.natAbs : Int) := by split <;> omega
theorem r_divisor {a b : Nat} (hb : b < 2 ^ 900) : run pg.T F (n + 1) hot 5 [.int a, .int b] = .ok (.int (Nat.gcd a b : Nat)) := by
  rw [run1 (d := e__law_divisor.d) rfl rfl]
  have l : (rngD 0 2000).length = 2000 := by simp [exs, ex, seqF, ev, evs, evT, evo, evq, evI, startR, endF, binD, primD, cmpD, subD, sliceD, endI, truthD, isAny, isOne, tyName, bOut, seqOf, setTg, eq_int, D.isNon, at0, at1, Tg.isTup, rngD]
  obtain ⟨y', s4', s5', e⟩ := eu_loop (F := F) (S := ⟨run pg.T F n, hot, pg.T.gl, pg.T.B, pg.T.ef⟩) (a0 := .dat (.int a)) (b0 := .dat (.int b)) 900 (rngD 0 2000) a b .un .un (by omega) (by omega) (by exact_mod_cast hb) (by rw [l]; decide)
  have e2 : rngOk 0 2000 = true := by decide
  have eb : euB = .cons (.ife (.cmp .eq (.var 3) (.int 0)) (.cons .brk .nil) .nil) (.cons (.set 5 (.bin .mod (.prim .int (.cons (.var 2) .nil)) (.prim .int (.cons (.var 3) .nil)))) (.cons (.set 2 (.var 3)) (.cons (.set 3 (.var 5)) .nil))) := rfl
  have ed : e__law_divisor.d = ⟨2, 6, .cons (.set 2 (.var 0)) (.cons (.set 3 (.var 1)) (.cons (.for (.one 4) (.rng1 (.int 2000)) euB) (.cons (.ret (.var 2)) .nil)))⟩ := rfl
  rw [ed]
  clear eb ed
  generalize euB = B at *
  simp [exs, ex, seqF, ev, evs, evT, evo, evq, evI, startR, endF, binD, primD, cmpD, subD, sliceD, endI, truthD, isAny, isOne, tyName, bOut, seqOf, setTg, eq_int, D.isNon, at0, at1, Tg.isTup, e2, e]
theorem gg_dvd_l {a b : Int} : (gg a b : Int) ∣ a := by
  have := Nat.gcd_dvd_left a.natAbs b.natAbs
  exact Int.ofNat_dvd_left.mpr this
theorem gg_dvd_r {a b : Int} : (gg a b : Int) ∣ b := by
  have := Nat.gcd_dvd_right a.natAbs b.natAbs
  exact Int.ofNat_dvd_left.mpr this
theorem r_lowest {a b : Int} (h : b ≠ 0) (hs : Wd 900 b) : run pg.T F (n + 2) hot 6 [.int a, .int b] = .ok (rtD a b) := by
  rw [run1 (d := e__law_lowest.d) rfl rfl]
  have r := r_divisor (n := n) (F := F) (hot := hot) (a := a.natAbs) (b := b.natAbs) hs
  have h3 := gg_pos (a := a) h
  have h4 : (gg a b).log2 < 9000 := by
    have := gg_le (a := a) h
    have := log_le (m := 900) (Nat.lt_of_le_of_lt this hs) (by decide)
    omega
  have h5 : (0 : Int) < (Nat.gcd a.natAbs b.natAbs : Nat) := by exact_mod_cast h3
  have h6 : (Nat.gcd a.natAbs b.natAbs).log2 < 9000 := h4
  have n1 : -a / (gg a b : Int) = -(a / (gg a b : Int)) := Int.neg_ediv_of_dvd gg_dvd_l
  have n2 : -b / (gg a b : Int) = -(b / (gg a b : Int)) := Int.neg_ediv_of_dvd gg_dvd_r
  unfold rtD rtT rtB
  rw [show (gg a b) = Nat.gcd a.natAbs b.natAbs from rfl] at *
  generalize Nat.gcd a.natAbs b.natAbs = g at *
  by_cases hb : b < 0
  · simp [exs, ex, seqF, ev, evs, evT, evo, evq, evI, startR, endF, binD, primD, cmpD, subD, sliceD, endI, truthD, isAny, isOne, tyName, bOut, seqOf, setTg, eq_int, D.isNon, at0, at1, Tg.isTup, e__law_lowest, b__law_lowest, int_abs, r, hb, h3, h4, n1, n2]
  · simp [exs, ex, seqF, ev, evs, evT, evo, evq, evI, startR, endF, binD, primD, cmpD, subD, sliceD, endI, truthD, isAny, isOne, tyName, bOut, seqOf, setTg, eq_int, D.isNon, at0, at1, Tg.isTup, e__law_lowest, b__law_lowest, int_abs, r, hb, h3, h4]
theorem r_refused {a : Int} : run pg.T F (n + 3) false 11 [.int a] = .ok (.bl true) := by
  rw [run1 (d := e__law_refused.d) rfl rfl]
  have h1 := r_ratio_zero (n := n + 1) (F := F) (a := a)
  have h2 := r_sole (n := n + 1) (F := F)
  have h3 := r_same_int (n := n) (F := F) (hot := true) (a := 0) (c := 0) (k := 1)
  have h4 : pg.T.ef "BadCount" = some (["number"] : List Str) := rfl
  have h5 : Cl.cls "BadCount" ∈ pg.T.B "BadCount" := List.contains_iff_mem.mp (rfl : (pg.T.B "BadCount").contains (.cls "BadCount") = true)
  have h6 : fldX pg.T.ef (.exc "BadCount" ["number"] [.int 0]) "number" = .ok (.int 0) := rfl
  simp [exs, ex, seqF, ev, evs, evT, evo, evq, evI, startR, endF, binD, primD, cmpD, subD, sliceD, endI, truthD, isAny, isOne, tyName, bOut, seqOf, setTg, eq_int, D.isNon, at0, at1, Tg.isTup, e__law_refused, b__law_refused, h1, h2, h3, h4, h5, h6, exh, coolF, D.nox]

theorem rt_neg {a b : Int} (h : b ≠ 0) : rtT (-a) (-b) = rtT a b ∧ rtB (-a) (-b) = rtB a b := by
  have e : gg (-a) (-b) = gg a b := by simp [exs, ex, seqF, ev, evs, evT, evo, evq, evI, startR, endF, binD, primD, cmpD, subD, sliceD, endI, truthD, isAny, isOne, tyName, bOut, seqOf, setTg, eq_int, D.isNon, at0, at1, Tg.isTup, gg]
  unfold rtT rtB
  rw [e]
  by_cases hb : b < 0
  · have h2 : ¬ (-b < 0) := by omega
    rw [if_pos hb, if_neg h2, if_pos hb, if_neg h2]
    exact ⟨rfl, rfl⟩
  · have h2 : -b < 0 := by omega
    rw [if_neg hb, if_pos h2, if_neg hb, if_pos h2, Int.neg_neg, Int.neg_neg]
    exact ⟨rfl, rfl⟩
theorem rt_turn {a b : Int} (h : b ≠ 0) : rtT a (-b) = -(rtT a b) ∧ rtB a (-b) = rtB a b := by
  have e : gg a (-b) = gg a b := by simp [exs, ex, seqF, ev, evs, evT, evo, evq, evI, startR, endF, binD, primD, cmpD, subD, sliceD, endI, truthD, isAny, isOne, tyName, bOut, seqOf, setTg, eq_int, D.isNon, at0, at1, Tg.isTup, gg]
  have n1 : -a / (gg a b : Int) = -(a / (gg a b : Int)) := Int.neg_ediv_of_dvd gg_dvd_l
  unfold rtT rtB
  rw [e]
  by_cases hb : b < 0
  · have h2 : ¬ (-b < 0) := by omega
    rw [if_pos hb, if_neg h2, if_pos hb, if_neg h2, n1, Int.neg_neg]
    exact ⟨rfl, rfl⟩
  · have h2 : -b < 0 := by omega
    rw [if_neg hb, if_pos h2, if_neg hb, if_pos h2, Int.neg_neg, n1]
    exact ⟨rfl, rfl⟩
theorem rt_turn2 {a b : Int} (h : b ≠ 0) : rtT (-a) b = -(rtT a b) ∧ rtB (-a) b = rtB a b := by
  have := rt_neg (a := a) (b := -b) (by omega)
  rw [Int.neg_neg] at this
  have t := rt_turn (a := a) h
  exact ⟨this.1.trans t.1, this.2.trans t.2⟩
theorem rt_zero {b : Int} (h : b ≠ 0) : rtT 0 b = 0 ∧ rtB 0 b = 1 := by
  have e : gg 0 b = b.natAbs := by simp [exs, ex, seqF, ev, evs, evT, evo, evq, evI, startR, endF, binD, primD, cmpD, subD, sliceD, endI, truthD, isAny, isOne, tyName, bOut, seqOf, setTg, eq_int, D.isNon, at0, at1, Tg.isTup, gg]
  unfold rtT rtB
  rw [e]
  refine ⟨by simp, ?_⟩
  rw [int_abs]
  exact Int.ediv_self (by omega)
theorem rt_pos {a b : Int} (h : b ≠ 0) : 0 < rtB a b := by
  unfold rtB
  rw [int_abs]
  have g := gg_pos (a := a) h
  have l := gg_le (a := a) h
  exact Int.ediv_pos_of_pos_of_dvd (by omega) (by omega) (Int.ofNat_dvd.mpr (Nat.gcd_dvd_right _ _))
theorem div_le {a : Int} {g : Nat} : (a / (g : Int)).natAbs ≤ a.natAbs := by
  exact Int.natAbs_ediv_le_natAbs a g
theorem rt_wide {a b : Int} {m : Nat} (ha : Wd m a) (hb : Wd m b) : Wd m (rtT a b) ∧ Wd m (rtB a b) := by
  unfold Wd rtT rtB at *
  have q1 := div_le (a := if b < 0 then -a else a) (g := gg a b)
  have q2 := div_le (a := if b < 0 then -b else b) (g := gg a b)
  constructor
  · refine Nat.lt_of_le_of_lt q1 ?_
    split <;> omega
  · refine Nat.lt_of_le_of_lt q2 ?_
    split <;> omega
theorem wd_log {m : Nat} {a : Int} (hm : 0 < m) (h : Wd m a) : a.natAbs.log2 < m := log_le h hm
theorem wd_mul {k m : Nat} {a b : Int} (ha : Wd k a) (hb : Wd m b) : Wd (k + m) (a * b) := by
  unfold Wd at *
  rw [Int.natAbs_mul, Nat.pow_add]
  exact Nat.mul_lt_mul'' ha hb
theorem wd_add {m : Nat} {a b : Int} (ha : Wd m a) (hb : Wd m b) : Wd (m + 1) (a + b) := by
  unfold Wd at *
  rw [Nat.pow_succ]
  omega
theorem wd_sub {m : Nat} {a b : Int} (ha : Wd m a) (hb : Wd m b) : Wd (m + 1) (a - b) := by
  unfold Wd at *
  rw [Nat.pow_succ]
  omega
theorem wd_mono {k m : Nat} {a : Int} (h : Wd k a) (l : k ≤ m) : Wd m a := Nat.lt_of_lt_of_le h (Nat.pow_le_pow_right (by decide) l)
theorem wd_abs {m : Nat} {a : Int} (h : Wd m a) : Wd m (a.natAbs : Int) := by
  unfold Wd at *
  omega
theorem eq_two {a b : Int} : eqD (.lst [.int a, .int b]) (.lst [.int a, .int b]) = .ok true := by
  simp [exs, ex, seqF, ev, evs, evT, evo, evq, evI, startR, endF, binD, primD, cmpD, subD, sliceD, endI, truthD, isAny, isOne, tyName, bOut, seqOf, setTg, eq_int, D.isNon, at0, at1, Tg.isTup, eqD, D.scal, D.py, D.pys, PySem.SeqAt.shaped, PyData.eqv, PyData.eqvAll, PyData.canLay0, PyData.canLayAll0, PyData.depth, PyData.depthAll]
theorem r_lowered {a b : Int} (h : b ≠ 0) (hs : Wd 900 b) : run pg.T F (n + 4) false 12 [.lst [.int a, .int b]] = .ok (.bl true) := by
  rw [run1 (d := e__law_lowered.d) rfl rfl]
  have w : Wd 4000 b := wd_mono hs (by decide)
  have r0 := r_lowest (n := n + 1) (F := F) (hot := false) (a := a) h hs
  have r1 := r_ratio (n := n + 1) (F := F) (hot := false) (a := a) h w
  have r2 := r_ratio (n := n + 1) (F := F) (hot := false) (a := -a) (b := -b) (by omega) (sm_neg w)
  have r3 := r_ratio (n := n + 1) (F := F) (hot := false) (a := a) (b := -b) (by omega) (sm_neg w)
  have r4 := r_ratio (n := n + 1) (F := F) (hot := false) (a := -a) (b := b) h w
  have r5 := r_ratio (n := n + 1) (F := F) (hot := false) (a := 0) (b := b) h w
  have s1 := r_same_two (n := n) (F := F) (hot := false) (a := rtT a b) (b := rtB a b)
  have s2 := r_same_two (n := n) (F := F) (hot := false) (a := -rtT a b) (b := rtB a b)
  have s3 := r_same_two (n := n) (F := F) (hot := false) (a := 0) (b := 1)
  have f1 := r_refused (n := n) (F := F) (a := a)
  have f2 := r_refused (n := n) (F := F) (a := -b)
  simp only [rtD, (rt_neg h).1, (rt_neg h).2, (rt_turn h).1, (rt_turn h).2, (rt_turn2 h).1, (rt_turn2 h).2, (rt_zero h).1, (rt_zero h).2] at r0 r1 r2 r3 r4 r5
  simp [exs, ex, seqF, ev, evs, evT, evo, evq, evI, startR, endF, binD, primD, cmpD, subD, sliceD, endI, truthD, isAny, isOne, tyName, bOut, seqOf, setTg, eq_int, D.isNon, at0, at1, Tg.isTup, e__law_lowered, b__law_lowered, r0, r1, r2, r3, r4, r5, s1, s2, s3, f1, f2]

theorem r_rsum {a b c d : Int} (h1 : 0 < b) (h2 : 0 < d) (wa : Wd 900 a) (wb : Wd 900 b) (wc : Wd 900 c) (wd : Wd 900 d) {X Y : D} (hX : X = .tup [.int a, .int b] ∨ X = .lst [.int a, .int b]) (hY : Y = .tup [.int c, .int d] ∨ Y = .lst [.int c, .int d]) :
    run pg.T F (n + 3) hot 14 [X, Y] = .ok (rtD (a * d + c * b) (b * d)) := by
  rw [run1 (d := e_ratio_sum.d) rfl rfl]
  have r := r_ratio (n := n) (F := F) (hot := hot) (a := a * d + c * b) (b := b * d) (Int.mul_ne_zero (by omega) (by omega)) (wd_mono (wd_mul wb wd) (by decide))
  have g1 : a.natAbs.log2 + d.natAbs.log2 < 1000000 := by have := wd_log (by decide) wa; have := wd_log (by decide) wd; omega
  have g2 : c.natAbs.log2 + b.natAbs.log2 < 1000000 := by have := wd_log (by decide) wc; have := wd_log (by decide) wb; omega
  have g3 : b.natAbs.log2 + d.natAbs.log2 < 1000000 := by have := wd_log (by decide) wb; have := wd_log (by decide) wd; omega
  rcases hX with rfl | rfl <;> rcases hY with rfl | rfl <;> simp [exs, ex, seqF, ev, evs, evT, evo, evq, evI, startR, endF, binD, primD, cmpD, subD, sliceD, endI, truthD, isAny, isOne, tyName, bOut, seqOf, setTg, eq_int, D.isNon, at0, at1, Tg.isTup, e_ratio_sum, b_ratio_sum, g1, g2, g3, r, rtD]
theorem r_rprod {a b c d : Int} (h1 : 0 < b) (h2 : 0 < d) (wa : Wd 900 a) (wb : Wd 900 b) (wc : Wd 900 c) (wd : Wd 900 d) {X Y : D} (hX : X = .tup [.int a, .int b] ∨ X = .lst [.int a, .int b]) (hY : Y = .tup [.int c, .int d] ∨ Y = .lst [.int c, .int d]) :
    run pg.T F (n + 3) hot 15 [X, Y] = .ok (rtD (a * c) (b * d)) := by
  rw [run1 (d := e_ratio_product.d) rfl rfl]
  have r := r_ratio (n := n) (F := F) (hot := hot) (a := a * c) (b := b * d) (Int.mul_ne_zero (by omega) (by omega)) (wd_mono (wd_mul wb wd) (by decide))
  have g1 : a.natAbs.log2 + c.natAbs.log2 < 1000000 := by have := wd_log (by decide) wa; have := wd_log (by decide) wc; omega
  have g3 : b.natAbs.log2 + d.natAbs.log2 < 1000000 := by have := wd_log (by decide) wb; have := wd_log (by decide) wd; omega
  rcases hX with rfl | rfl <;> rcases hY with rfl | rfl <;> simp [exs, ex, seqF, ev, evs, evT, evo, evq, evI, startR, endF, binD, primD, cmpD, subD, sliceD, endI, truthD, isAny, isOne, tyName, bOut, seqOf, setTg, eq_int, D.isNon, at0, at1, Tg.isTup, e_ratio_product, b_ratio_product, g1, g3, r, rtD]
theorem r_rdist {a b c d : Int} (h1 : 0 < b) (h2 : 0 < d) (wa : Wd 900 a) (wb : Wd 900 b) (wc : Wd 900 c) (wd : Wd 900 d) {X Y : D} (hX : X = .tup [.int a, .int b] ∨ X = .lst [.int a, .int b]) (hY : Y = .tup [.int c, .int d] ∨ Y = .lst [.int c, .int d]) :
    run pg.T F (n + 3) hot 13 [X, Y] = .ok (rtD ((a * d - c * b).natAbs : Int) (b * d)) := by
  rw [run1 (d := e_ratio_distance.d) rfl rfl]
  have r := r_ratio (n := n) (F := F) (hot := hot) (a := ((a * d - c * b).natAbs : Int)) (b := b * d) (Int.mul_ne_zero (by omega) (by omega)) (wd_mono (wd_mul wb wd) (by decide))
  have g1 : a.natAbs.log2 + d.natAbs.log2 < 1000000 := by have := wd_log (by decide) wa; have := wd_log (by decide) wd; omega
  have g2 : c.natAbs.log2 + b.natAbs.log2 < 1000000 := by have := wd_log (by decide) wc; have := wd_log (by decide) wb; omega
  have g3 : b.natAbs.log2 + d.natAbs.log2 < 1000000 := by have := wd_log (by decide) wb; have := wd_log (by decide) wd; omega
  have ab := int_abs (a * d - c * b)
  rcases hX with rfl | rfl <;> rcases hY with rfl | rfl <;> simp only [e_ratio_distance, b_ratio_distance, exs, ex, ev, evs, startR, binD, subD, at0, at1, g1, g2, g3, Out.bind, primD, if_true, List.map_cons, List.map_nil, List.length_cons, List.length_nil, Nat.sub_self, List.replicate, List.append_nil, List.getElem?_cons_zero, List.getElem?_cons_succ, ab, r] <;> rfl
theorem r_joined {a b c d : Int} (h1 : 0 < b) (h2 : 0 < d) (wa : Wd 400 a) (wb : Wd 400 b) (wc : Wd 400 c) (wd : Wd 400 d) : run pg.T F (n + 5) false 16 [.tup [.int a, .int b], .tup [.int c, .int d]] = .ok (.bl true) := by
  rw [run1 (d := e__law_joined.d) rfl rfl]
  have va := wd_mono wa (show 400 ≤ 900 by decide)
  have vb := wd_mono wb (show 400 ≤ 900 by decide)
  have vc := wd_mono wc (show 400 ≤ 900 by decide)
  have vd := wd_mono wd (show 400 ≤ 900 by decide)
  have ne : b * d ≠ 0 := Int.mul_ne_zero (by omega) (by omega)
  have wbd : Wd 900 (b * d) := wd_mono (wd_mul wb wd) (by decide)
  have g1 : a.natAbs.log2 + d.natAbs.log2 < 1000000 := by have := wd_log (by decide) wa; have := wd_log (by decide) wd; omega
  have g2 : c.natAbs.log2 + b.natAbs.log2 < 1000000 := by have := wd_log (by decide) wc; have := wd_log (by decide) wb; omega
  have g3 : b.natAbs.log2 + d.natAbs.log2 < 1000000 := by have := wd_log (by decide) wb; have := wd_log (by decide) wd; omega
  have g4 : a.natAbs.log2 + c.natAbs.log2 < 1000000 := by have := wd_log (by decide) wa; have := wd_log (by decide) wc; omega
  have l1 := r_lowest (n := n + 2) (F := F) (hot := false) (a := a * d + c * b) ne wbd
  have l2 := r_lowest (n := n + 2) (F := F) (hot := false) (a := a * c) ne wbd
  have l3 := r_lowest (n := n + 2) (F := F) (hot := false) (a := ((a * d - c * b).natAbs : Int)) ne wbd
  have q1 := fun X Y hX hY => r_rsum (n := n + 1) (F := F) (hot := false) h1 h2 va vb vc vd (X := X) (Y := Y) hX hY
  have q2 := fun X Y hX hY => r_rprod (n := n + 1) (F := F) (hot := false) h1 h2 va vb vc vd (X := X) (Y := Y) hX hY
  have q3 := fun X Y hX hY => r_rdist (n := n + 1) (F := F) (hot := false) h1 h2 va vb vc vd (X := X) (Y := Y) hX hY
  have p1 := q1 _ _ (.inl rfl) (.inl rfl)
  have p2 := q2 _ _ (.inl rfl) (.inl rfl)
  have p3 := q3 _ _ (.inl rfl) (.inl rfl)
  have p4 := q1 _ _ (.inr rfl) (.inr rfl)
  have p5 := q2 _ _ (.inr rfl) (.inr rfl)
  have p6 := q3 _ _ (.inr rfl) (.inr rfl)
  clear q1 q2 q3
  have s := fun u v => r_same_two (n := n + 1) (F := F) (hot := false) (a := u) (b := v)
  have ab := int_abs (a * d - c * b)
  generalize ((a * d - c * b).natAbs : Int) = z at *
  unfold rtD at *
  simp [exs, ex, seqF, ev, evs, evT, evo, evq, evI, startR, endF, binD, primD, cmpD, subD, sliceD, endI, truthD, isAny, isOne, tyName, bOut, seqOf, setTg, eq_int, D.isNon, at0, at1, Tg.isTup, e__law_joined, b__law_joined, g1, g2, g3, g4, l1, l2, l3, p1, p2, p3, p4, p5, p6, s, eq_two, ab]
end NL

end
section
set_option linter.all false
set_option maxRecDepth 10000
set_option maxHeartbeats 4000000
set_option exponentiation.threshold 5000
namespace NL
open PySem
variable {n F : Nat} {hot : Bool}
def dInts (ns : List Int) : D := .lst (ns.map .int)
def InB : List Int → List Int → Prop
  | [], [] => True
  | r :: rs, b :: bs => 0 ≤ r ∧ r < b ∧ InB rs bs
  | _, _ => False
theorem InB.len : ∀ {r b : List Int}, InB r b → r.length = b.length
  | [], [], _ => rfl
  | _ :: _, _ :: _, h => by rw [List.length_cons, List.length_cons, InB.len h.2.2]
/-! a cell -/
def celB : Ss := match b__law_cell with
  | .cons _ (.cons _ (.cons (.for _ _ b) _)) => b
  | _ => .nil
theorem cel_loop {S : Sur} {a b : Sl} : ∀ (ns : List Int) (seed : Int) (s3 : Sl), 0 ≤ seed → seed < 1000003 → ∃ seed' s3', 0 ≤ seed' ∧ seed' < 1000003 ∧ loopF (.one 3) (fun r => exs S F celB r) (ns.map .int) [a, b, .dat (.int seed), s3] = .ok (.nx [a, b, .dat (.int seed'), s3'])
  | [], seed, s3, h1, h2 => ⟨seed, s3, h1, h2, rfl⟩
  | x :: ns, seed, s3, h1, h2 => by
    have r0 := Int.emod_nonneg (seed * 31 + x % 1000003) (show (1000003 : Int) ≠ 0 by decide)
    have r1 := Int.emod_lt_of_pos (seed * 31 + x % 1000003) (show (0 : Int) < 1000003 by decide)
    obtain ⟨seed', s3', q1, q2, q3⟩ := cel_loop (S := S) (a := a) (b := b) ns _ (.dat (.int x)) r0 r1
    refine ⟨seed', s3', q1, q2, ?_⟩
    have g : seed.natAbs.log2 + Nat.log2 31 < 1000000 := by
      have := log_le (m := 20) (k := seed.natAbs) (by omega) (by decide)
      have e : Nat.log2 31 = 4 := by decide +kernel
      omega
    rw [← q3]
    simp only [List.map_cons, loopF]
    simp [exs, ex, seqF, ev, evs, evT, evo, evq, evI, startR, endF, binD, primD, cmpD, subD, sliceD, endI, truthD, isAny, isOne, tyName, bOut, seqOf, setTg, eq_int, D.isNon, at0, at1, Tg.isTup, celB, b__law_cell, g]
theorem r_cell {ns : List Int} {k : Nat} (hk : k < 100) : ∃ c, run pg.T F (n + 1) false 2 [.scr ns, .int k] = .ok (.int c) := by
  rw [run1 (d := e__law_cell.d) rfl rfl]
  by_cases h : k < ns.length
  · have e : L2.atI ns (k : Int) = some ns[k] := by rw [at_nat h, List.getElem?_eq_getElem h]
    refine ⟨ns[k], ?_⟩
    simp [exs, ex, seqF, ev, evs, evT, evo, evq, evI, startR, endF, binD, primD, cmpD, subD, sliceD, endI, truthD, isAny, isOne, tyName, bOut, seqOf, setTg, eq_int, D.isNon, at0, at1, Tg.isTup, e__law_cell, b__law_cell, h, e]
  · obtain ⟨seed, s3, q1, q2, q3⟩ := cel_loop (F := F) (S := ⟨run pg.T F n, false, pg.T.gl, pg.T.B, pg.T.ef⟩) (a := .dat (.scr ns)) (b := .dat (.int k)) ns 17 .un (by decide) (by decide)
    refine ⟨(seed + 7) * ((k : Int) + 3) * 69621 % 2147483647, ?_⟩
    have g1 : (seed + 7).natAbs.log2 + ((k : Int) + 3).natAbs.log2 < 1000000 := by
      have := log_le (m := 21) (k := (seed + 7).natAbs) (by omega) (by decide)
      have := log_le (m := 20) (k := ((k : Int) + 3).natAbs) (by omega) (by decide)
      omega
    have g2 : ((seed + 7) * ((k : Int) + 3)).natAbs.log2 + Nat.log2 69621 < 1000000 := by
      have w : Wd (21 + 20) ((seed + 7) * ((k : Int) + 3)) := wd_mul (show _ < _ by omega) (show _ < _ by omega)
      have := wd_log (by decide) w
      have e : Nat.log2 69621 < 30 := by decide +kernel
      omega
    have ed : e__law_cell.d = ⟨2, 4, .cons (.ife (.cmp .lt (.var 1) (.prim .len (.cons (.var 0) .nil))) (.cons (.ret (.sub (.var 0) (.var 1))) .nil) .nil) (.cons (.set 2 (.int 17)) (.cons (.for (.one 3) (.seq (.var 0)) celB) (.cons (.ret (.bin .mod (.prim .int (.cons (.bin .mul (.bin .mul (.bin .add (.var 2) (.int 7)) (.bin .add (.var 1) (.int 3))) (.int 69621)) .nil)) (.int 2147483647))) .nil)))⟩ := rfl
    rw [ed]
    clear ed
    generalize celB = B at *
    simp [exs, ex, seqF, ev, evs, evT, evo, evq, evI, startR, endF, binD, primD, cmpD, subD, sliceD, endI, truthD, isAny, isOne, tyName, bOut, seqOf, setTg, eq_int, D.isNon, at0, at1, Tg.isTup, h, q3, g1, g2]
/-! digits -/
def dg1B : Ss := match b__law_digits with
  | .cons _ (.cons _ (.cons (.ife _ (.cons _ (.cons (.for _ _ b) _)) _) _)) => b
  | _ => .nil
def dg2B : Ss := match b__law_digits with
  | .cons _ (.cons _ (.cons _ (.cons _ (.cons (.for _ _ b) _)))) => b
  | _ => .nil
theorem dg1_loop {S : Sur} {a b s4 s5 s7 : Sl} : ∀ (bs : List Int) (acc : List D) (rest : Int) (s6 : Sl), (∀ x ∈ bs, 0 < x ∧ x < 2 ^ 60) → acc.length + bs.length < 1000000 → ∃ row rest' s6', InB row bs ∧
    loopF (.one 6) (fun r => exs S F dg1B r) (bs.map .int) [a, b, .own (.lst acc), .dat (.int rest), s4, s5, s6, s7] = .ok (.nx [a, b, .own (.lst (acc ++ row.map .int)), .dat (.int rest'), s4, s5, s6', s7])
  | [], acc, rest, s6, _, _ => ⟨[], rest, s6, trivial, by simp [exs, ex, seqF, ev, evs, evT, evo, evq, evI, startR, endF, binD, primD, cmpD, subD, sliceD, endI, truthD, isAny, isOne, tyName, bOut, seqOf, setTg, eq_int, D.isNon, at0, at1, Tg.isTup, loopF]⟩
  | x :: bs, acc, rest, s6, hb, hl => by
    have hx := hb x (List.mem_cons_self ..)
    have r0 := Int.emod_nonneg rest (show x ≠ 0 by omega)
    have r1 := Int.emod_lt_of_pos rest hx.1
    obtain ⟨row, rest', s6', q1, q2⟩ := dg1_loop (S := S) (a := a) (b := b) (s4 := s4) (s5 := s5) (s7 := s7) bs (acc ++ [.int (rest % x)]) (rest / x) (.dat (.int x)) (fun y hy => hb y (List.mem_cons_of_mem _ hy)) (by simp at hl ⊢; omega)
    refine ⟨rest % x :: row, rest', s6', ⟨r0, r1, q1⟩, ?_⟩
    have g : x.natAbs.log2 < 9000 := by
      have := log_le (m := 60) (k := x.natAbs) (by omega) (by decide)
      omega
    have h2 : acc.length < 1000000 := by simp at hl; omega
    rw [show acc ++ (rest % x :: row).map D.int = (acc ++ [.int (rest % x)]) ++ row.map D.int by simp, ← q2]
    simp only [List.map_cons, loopF]
    simp [exs, ex, seqF, ev, evs, evT, evo, evq, evI, startR, endF, binD, primD, cmpD, subD, sliceD, endI, truthD, isAny, isOne, tyName, bOut, seqOf, setTg, eq_int, D.isNon, at0, at1, Tg.isTup, dg1B, b__law_digits, hx.1, g, h2]
theorem dg2_loop {S : Sur} {a s3 s6 : Sl} {B : List Int} (hB : B.length < 1000) (hb : ∀ x ∈ B, 0 < x) : ∀ (m i : Nat) (acc : List D) (seed : Int) (s5 s7 : Sl), i + m = B.length → acc.length = i → 0 ≤ seed → seed < 2147483647 → ∃ row seed' s5' s7', InB row (B.drop i) ∧
    loopF (.one 5) (fun r => exs S F dg2B r) ((List.range' i m).map fun k => D.int (k : Nat)) [a, .dat (dInts B), .own (.lst acc), s3, .dat (.int seed), s5, s6, s7] = .ok (.nx [a, .dat (dInts B), .own (.lst (acc ++ row.map .int)), s3, .dat (.int seed'), s5', s6, s7'])
  | 0, i, acc, seed, s5, s7, hi, ha, h1, h2 => ⟨[], seed, s5, s7, by rw [show i = B.length by omega, List.drop_length]; trivial, by simp [exs, ex, seqF, ev, evs, evT, evo, evq, evI, startR, endF, binD, primD, cmpD, subD, sliceD, endI, truthD, isAny, isOne, tyName, bOut, seqOf, setTg, eq_int, D.isNon, at0, at1, Tg.isTup, loopF]⟩
  | m + 1, i, acc, seed, s5, s7, hi, ha, h1, h2 => by
    have hlt : i < B.length := by omega
    have hx := hb B[i] (List.getElem_mem hlt)
    have e0 : L2.atI (B.map D.int) (i : Int) = some (.int B[i]) := by rw [at_nat (by simpa using hlt), List.getElem?_map, List.getElem?_eq_getElem hlt]; rfl
    have t0 := Int.emod_nonneg (seed * 48271 + 974711 * (i : Int) + 12345) (show (2147483647 : Int) ≠ 0 by decide)
    have t1 := Int.emod_lt_of_pos (seed * 48271 + 974711 * (i : Int) + 12345) (show (0 : Int) < 2147483647 by decide)
    have g1 : seed.natAbs.log2 + Nat.log2 48271 < 1000000 := by
      have := log_le (m := 40) (k := seed.natAbs) (by omega) (by decide)
      have e : Nat.log2 48271 < 30 := by decide +kernel
      omega
    have g2 : Nat.log2 974711 + i.log2 < 1000000 := by
      have := log_le (m := 40) (k := i) (by omega) (by decide)
      have e : Nat.log2 974711 < 30 := by decide +kernel
      omega
    have g4 : Nat.log2 65537 < 9000 := by decide +kernel
    have g5 : Nat.log2 19 < 9000 := by decide +kernel
    generalize hs : (seed * 48271 + 974711 * (i : Int) + 12345) % 2147483647 = s at t0 t1
    have g3 : s.natAbs.log2 + (s / 65537 + 3).natAbs.log2 < 1000000 := by
      have := log_le (m := 40) (k := s.natAbs) (by omega) (by decide)
      have := log_le (m := 40) (k := (s / 65537 + 3).natAbs) (by omega) (by decide)
      omega
    generalize ht : s * (s / 65537 + 3) % 2147483629 = t
    have r0 := Int.emod_nonneg (t / 19) (show B[i] ≠ 0 by omega)
    have r1 := Int.emod_lt_of_pos (t / 19) hx
    obtain ⟨row, seed', s5', s7', q1, q2⟩ := dg2_loop (S := S) (a := a) (s3 := s3) (s6 := s6) hB hb m (i + 1) (acc ++ [.int (t / 19 % B[i])]) s (.dat (.int i)) (.dat (.int t)) (by omega) (by simp [exs, ex, seqF, ev, evs, evT, evo, evq, evI, startR, endF, binD, primD, cmpD, subD, sliceD, endI, truthD, isAny, isOne, tyName, bOut, seqOf, setTg, eq_int, D.isNon, at0, at1, Tg.isTup, ha]) t0 t1
    refine ⟨t / 19 % B[i] :: row, seed', s5', s7', ?_, ?_⟩
    · rw [List.drop_eq_getElem_cons hlt]
      exact ⟨r0, r1, q1⟩
    · have h2 : acc.length < 1000000 := by omega
      rw [show acc ++ (t / 19 % B[i] :: row).map D.int = (acc ++ [.int (t / 19 % B[i])]) ++ row.map D.int by simp, ← q2]
      simp only [List.range'_succ, List.map_cons, loopF]
      simp [exs, ex, seqF, ev, evs, evT, evo, evq, evI, startR, endF, binD, primD, cmpD, subD, sliceD, endI, truthD, isAny, isOne, tyName, bOut, seqOf, setTg, eq_int, D.isNon, at0, at1, Tg.isTup, dg2B, b__law_digits, dInts, g1, g2, g3, g4, g5, h2, hs, ht, e0, hx]
theorem rng_eq (m : Nat) : rngD 0 (m : Int) = (List.range' 0 m).map fun k => D.int (k : Nat) := by
  unfold rngD
  rw [List.range_eq_range']
  simp
theorem r_digits {c : Int} {B : List Int} (hB : B.length < 1000) (hb : ∀ x ∈ B, 0 < x ∧ x < 2 ^ 60) : ∃ row, InB row B ∧ run pg.T F (n + 1) false 0 [.int c, dInts B] = .ok (dInts row) := by
  rw [run1 (d := e__law_digits.d) rfl rfl]
  have ed : e__law_digits.d = ⟨2, 8, .cons (.own 2 (.lst .nil)) (.cons (.set 3 (.prim .int (.cons (.var 0) .nil))) (.cons (.ife (.cmp .ge (.var 3) (.bin .pow (.int 10) (.int 18))) (.cons (.set 3 (.bin .sub (.var 3) (.bin .pow (.int 10) (.int 18)))) (.cons (.for (.one 6) (.seq (.var 1)) dg1B) (.cons (.frz 2) (.cons (.ret (.var 2)) .nil)))) .nil)
    (.cons (.set 4 (.bin .mod (.prim .int (.cons (.var 3) .nil)) (.int 2147483629))) (.cons (.for (.one 5) (.rng1 (.prim .len (.cons (.var 1) .nil))) dg2B) (.cons (.frz 2) (.cons (.ret (.var 2)) .nil))))))⟩ := rfl
  rw [ed]
  clear ed
  have hE : ∀ (S : Sur) (ρ : List Sl), ev S (.bin .pow (.int 10) (.int 18)) ρ = .ok (.int (10 ^ 18)) := fun S ρ => rfl
  generalize Ex.bin .pow (.int 10) (.int 18) = E at *
  generalize (10 : Int) ^ 18 = Big at *
  by_cases h : Big ≤ c
  · obtain ⟨row, rest, s6, q1, q2⟩ := dg1_loop (F := F) (S := ⟨run pg.T F n, false, pg.T.gl, pg.T.B, pg.T.ef⟩) (a := .dat (.int c)) (b := .dat (dInts B)) (s4 := .un) (s5 := .un) (s7 := .un) B [] (c - Big) .un hb (by simp; omega)
    refine ⟨row, q1, ?_⟩
    generalize dg1B = B1 at *
    simp [exs, ex, seqF, ev, evs, evT, evo, evq, evI, startR, endF, binD, primD, cmpD, subD, sliceD, endI, truthD, isAny, isOne, tyName, bOut, seqOf, setTg, eq_int, D.isNon, at0, at1, Tg.isTup, dInts] at q2
    simp [exs, ex, seqF, ev, evs, evT, evo, evq, evI, startR, endF, binD, primD, cmpD, subD, sliceD, endI, truthD, isAny, isOne, tyName, bOut, seqOf, setTg, eq_int, D.isNon, at0, at1, Tg.isTup, dInts, hE, h, q2, frzAt, thaw]
  · obtain ⟨row, seed, s5, s7, q1, q2⟩ := dg2_loop (F := F) (S := ⟨run pg.T F n, false, pg.T.gl, pg.T.B, pg.T.ef⟩) (a := .dat (.int c)) (s3 := .dat (.int c)) (s6 := .un) hB (fun x hx => (hb x hx).1) B.length 0 [] (c % 2147483629) .un .un (by omega) rfl (Int.emod_nonneg _ (by decide)) (by have := Int.emod_lt_of_pos c (show (0 : Int) < 2147483629 by decide); omega)
    refine ⟨row, q1, ?_⟩
    rw [← rng_eq] at q2
    have ro : rngOk 0 (B.length : Int) = true := by
      unfold rngOk
      simp only [Bool.and_eq_true, decide_eq_true_eq]
      omega
    generalize dg2B = B1 at *
    generalize dg1B = B2 at *
    simp [exs, ex, seqF, ev, evs, evT, evo, evq, evI, startR, endF, binD, primD, cmpD, subD, sliceD, endI, truthD, isAny, isOne, tyName, bOut, seqOf, setTg, eq_int, D.isNon, at0, at1, Tg.isTup, dInts] at q2
    simp [exs, ex, seqF, ev, evs, evT, evo, evq, evI, startR, endF, binD, primD, cmpD, subD, sliceD, endI, truthD, isAny, isOne, tyName, bOut, seqOf, setTg, eq_int, D.isNon, at0, at1, Tg.isTup, dInts, hE, h, q2, frzAt, thaw, ro]
end NL

end
section
set_option linter.all false
set_option maxRecDepth 10000
set_option maxHeartbeats 4000000
set_option exponentiation.threshold 5000
namespace NL
open PySem
variable {n F : Nat} {hot : Bool}
theorem at2 {α : Type} {a b c : α} {l : List α} : L2.atI (a :: b :: c :: l) 2 = some c := at_nat (k := 2) (by simp)
theorem at3 {α : Type} {a b c d : α} {l : List α} : L2.atI (a :: b :: c :: d :: l) 3 = some d := at_nat (k := 3) (by simp)
theorem at4 {α : Type} {a b c d e : α} {l : List α} : L2.atI (a :: b :: c :: d :: e :: l) 4 = some e := at_nat (k := 4) (by simp)
theorem at5 {α : Type} {a b c d e f : α} {l : List α} : L2.atI (a :: b :: c :: d :: e :: f :: l) 5 = some f := at_nat (k := 5) (by simp)
theorem at6 {α : Type} {a b c d e f g : α} {l : List α} : L2.atI (a :: b :: c :: d :: e :: f :: g :: l) 6 = some g := at_nat (k := 6) (by simp)
theorem at7 {α : Type} {a b c d e f g h : α} {l : List α} : L2.atI (a :: b :: c :: d :: e :: f :: g :: h :: l) 7 = some h := at_nat (k := 7) (by simp)
theorem at10 {α : Type} {a b c d e f g h i j k : α} {l : List α} : L2.atI (a :: b :: c :: d :: e :: f :: g :: h :: i :: j :: k :: l) 10 = some k := at_nat (k := 10) (by simp)
theorem inB4 {row : List Int} {a b c d : Int} (h : InB row [a, b, c, d]) : ∃ w x y z, row = [w, x, y, z] ∧ (0 ≤ w ∧ w < a) ∧ (0 ≤ x ∧ x < b) ∧ (0 ≤ y ∧ y < c) ∧ (0 ≤ z ∧ z < d) := by
  match row, h with
  | [w, x, y, z], h => exact ⟨w, x, y, z, rfl, ⟨h.1, h.2.1⟩, ⟨h.2.2.1, h.2.2.2.1⟩, ⟨h.2.2.2.2.1, h.2.2.2.2.2.1⟩, ⟨h.2.2.2.2.2.2.1, h.2.2.2.2.2.2.2.1⟩⟩
theorem r_amount {c way : Int} (h0 : 0 ≤ way) (h1 : way < 8) : ∃ v, 0 ≤ v ∧ Wd 70 v ∧ run pg.T F (n + 2) false 1 [.int c, .int way] = .ok (.int v) := by
  rw [run1 (d := e__law_amount.d) rfl rfl]
  obtain ⟨row, q1, q2⟩ := r_digits (n := n) (F := F) (c := c) (B := [10000000, 10000000, 1000000, 13]) (by decide) (by intro x hx; simp at hx; omega)
  obtain ⟨w, x, y, z, rfl, h2, h3, h4, h5⟩ := inB4 q1
  simp only [dInts, List.map_cons, List.map_nil] at q2
  have p7 : (10 : Int) ^ 7 = 10000000 := by decide
  have p6 : (10 : Int) ^ 6 = 1000000 := by decide
  have p14 : (10 : Int) ^ 14 = 100000000000000 := by decide
  have g1 : x.natAbs.log2 + Nat.log2 10000000 < 1000000 := by
    have := log_le (m := 60) (k := x.natAbs) (by omega) (by decide)
    have e : Nat.log2 10000000 < 60 := by decide +kernel
    omega
  have g2 : y.natAbs.log2 + Nat.log2 100000000000000 < 1000000 := by
    have := log_le (m := 60) (k := y.natAbs) (by omega) (by decide)
    have e : Nat.log2 100000000000000 < 60 := by decide +kernel
    omega
  have bg : Wd 70 (w + x * 10000000 + y * 100000000000000) := by unfold Wd; omega
  have bw : Wd 70 w := by unfold Wd; omega
  have bz : Wd 70 z := by unfold Wd; omega
  have cs : way = 0 ∨ way = 1 ∨ way = 2 ∨ way = 3 ∨ way = 4 ∨ way = 5 ∨ way = 6 ∨ way = 7 := by omega
  rcases cs with rfl | rfl | rfl | rfl | rfl | rfl | rfl | rfl
  · exact ⟨_, by omega, bg, by simp [exs, ex, seqF, ev, evs, evT, evo, evq, evI, startR, endF, binD, primD, cmpD, subD, sliceD, endI, truthD, isAny, isOne, tyName, bOut, seqOf, setTg, eq_int, D.isNon, at0, at1, Tg.isTup, e__law_amount, b__law_amount, q2, g1, g2, at2, at3]⟩
  · exact ⟨_, by omega, bg, by simp [exs, ex, seqF, ev, evs, evT, evo, evq, evI, startR, endF, binD, primD, cmpD, subD, sliceD, endI, truthD, isAny, isOne, tyName, bOut, seqOf, setTg, eq_int, D.isNon, at0, at1, Tg.isTup, e__law_amount, b__law_amount, q2, g1, g2, at2, at3]⟩
  · exact ⟨_, by omega, bg, by simp [exs, ex, seqF, ev, evs, evT, evo, evq, evI, startR, endF, binD, primD, cmpD, subD, sliceD, endI, truthD, isAny, isOne, tyName, bOut, seqOf, setTg, eq_int, D.isNon, at0, at1, Tg.isTup, e__law_amount, b__law_amount, q2, g1, g2, at2, at3]⟩
  · exact ⟨_, by omega, bg, by simp [exs, ex, seqF, ev, evs, evT, evo, evq, evI, startR, endF, binD, primD, cmpD, subD, sliceD, endI, truthD, isAny, isOne, tyName, bOut, seqOf, setTg, eq_int, D.isNon, at0, at1, Tg.isTup, e__law_amount, b__law_amount, q2, g1, g2, at2, at3]⟩
  · exact ⟨w, by omega, bw, by simp [exs, ex, seqF, ev, evs, evT, evo, evq, evI, startR, endF, binD, primD, cmpD, subD, sliceD, endI, truthD, isAny, isOne, tyName, bOut, seqOf, setTg, eq_int, D.isNon, at0, at1, Tg.isTup, e__law_amount, b__law_amount, q2, g1, g2, at2, at3, at4]⟩
  · exact ⟨z, by omega, bz, by simp [exs, ex, seqF, ev, evs, evT, evo, evq, evI, startR, endF, binD, primD, cmpD, subD, sliceD, endI, truthD, isAny, isOne, tyName, bOut, seqOf, setTg, eq_int, D.isNon, at0, at1, Tg.isTup, e__law_amount, b__law_amount, q2, g1, g2, at2, at3, at5]⟩
  · exact ⟨1, by omega, by unfold Wd; decide, by simp [exs, ex, seqF, ev, evs, evT, evo, evq, evI, startR, endF, binD, primD, cmpD, subD, sliceD, endI, truthD, isAny, isOne, tyName, bOut, seqOf, setTg, eq_int, D.isNon, at0, at1, Tg.isTup, e__law_amount, b__law_amount, q2, g1, g2, at2, at3, at6]⟩
  · exact ⟨0, by omega, by unfold Wd; decide, by simp [exs, ex, seqF, ev, evs, evT, evo, evq, evI, startR, endF, binD, primD, cmpD, subD, sliceD, endI, truthD, isAny, isOne, tyName, bOut, seqOf, setTg, eq_int, D.isNon, at0, at1, Tg.isTup, e__law_amount, b__law_amount, q2, g1, g2, at2, at3, at7]⟩
theorem max1 {v : Int} (h : 0 ≤ v) : ∃ f, 0 < f ∧ (∀ m, 0 < m → Wd m v → Wd m f) ∧ (if v > 1 then v else 1) = f := by
  refine ⟨_, ?_, ?_, rfl⟩
  · split <;> omega
  · intro m hm hv
    split
    · exact hv
    · show (1 : Nat) < 2 ^ m
      exact Nat.one_lt_two_pow (by omega)
theorem sgn {s : Int} (h0 : 0 ≤ s) (h1 : s < 2) : Wd 1 (1 - 2 * s) ∧ 1 - 2 * s ≠ 0 := by
  have : s = 0 ∨ s = 1 := by omega
  rcases this with rfl | rfl <;> exact ⟨by unfold Wd; decide, by decide⟩
theorem r_fraction {ns : List Int} {k : Nat} {w0 w1 w2 s0 s1 : Int} (hk : k < 50) (hw0 : 0 ≤ w0 ∧ w0 < 8) (hw1 : 0 ≤ w1 ∧ w1 < 8) (hw2 : 0 ≤ w2 ∧ w2 < 8) (hs0 : 0 ≤ s0 ∧ s0 < 2) (hs1 : 0 ≤ s1 ∧ s1 < 2) :
    ∃ t b, b ≠ 0 ∧ Wd 150 t ∧ Wd 150 b ∧ run pg.T F (n + 3) false 3 [.scr ns, .int k, .lst [.int w0, .int w1, .int w2], .lst [.int s0, .int s1]] = .ok (.lst [.int t, .int b]) := by
  rw [run1 (d := e__law_fraction.d) rfl rfl]
  obtain ⟨c0, e0⟩ := r_cell (n := n + 1) (F := F) (ns := ns) (k := k) (by omega)
  obtain ⟨c1, e1⟩ := r_cell (n := n + 1) (F := F) (ns := ns) (k := k + 1) (by omega)
  obtain ⟨c2, e2⟩ := r_cell (n := n + 1) (F := F) (ns := ns) (k := k + 2) (by omega)
  obtain ⟨v0, p0, q0, r0⟩ := r_amount (n := n) (F := F) (c := c0) hw0.1 hw0.2
  obtain ⟨v1, p1, q1, r1⟩ := r_amount (n := n) (F := F) (c := c1) hw1.1 hw1.2
  obtain ⟨v2, p2, q2, r2⟩ := r_amount (n := n) (F := F) (c := c2) (way := w2 % 7) (Int.emod_nonneg _ (by decide)) (by have := Int.emod_lt_of_pos w2 (show (0 : Int) < 7 by decide); omega)
  obtain ⟨f, f1, f2, f3⟩ := max1 p0
  obtain ⟨g, g1, g2, g3⟩ := max1 p2
  have wf := f2 70 (by decide) q0
  have wg := g2 70 (by decide) q2
  obtain ⟨a1, a2⟩ := sgn hs0.1 hs0.2
  obtain ⟨b1, b2⟩ := sgn hs1.1 hs1.2
  have t1 := wd_mul q1 wf
  have t2 := wd_mul wg wf
  have t3 := wd_mul t1 a1
  have t4 := wd_mul t2 b1
  have l1 : v1.natAbs.log2 + f.natAbs.log2 < 1000000 := by have := wd_log (by decide) q1; have := wd_log (by decide) wf; omega
  have l2 : g.natAbs.log2 + f.natAbs.log2 < 1000000 := by have := wd_log (by decide) wg; have := wd_log (by decide) wf; omega
  have l3 : (v1 * f).natAbs.log2 + (1 - 2 * s0).natAbs.log2 < 1000000 := by have := wd_log (by decide) t1; have := wd_log (by decide) a1; omega
  have l4 : (g * f).natAbs.log2 + (1 - 2 * s1).natAbs.log2 < 1000000 := by have := wd_log (by decide) t2; have := wd_log (by decide) b1; omega
  have l5 : Nat.log2 2 + s0.natAbs.log2 < 1000000 := by
    have := log_le (m := 60) (k := s0.natAbs) (by omega) (by decide)
    have e : Nat.log2 2 < 60 := by decide +kernel
    omega
  have l6 : Nat.log2 2 + s1.natAbs.log2 < 1000000 := by
    have := log_le (m := 60) (k := s1.natAbs) (by omega) (by decide)
    have e : Nat.log2 2 < 60 := by decide +kernel
    omega
  have k1 : ((k + 1 : Nat) : Int) = (k : Int) + 1 := by omega
  have k2 : ((k + 2 : Nat) : Int) = (k : Int) + 2 := by omega
  rw [k1] at e1
  rw [k2] at e2
  refine ⟨v1 * f * (1 - 2 * s0), g * f * (1 - 2 * s1), ?_, wd_mono t3 (by decide), wd_mono t4 (by decide), ?_⟩
  · exact Int.mul_ne_zero (Int.mul_ne_zero (by omega) (by omega)) b2
  · simp only [gt_iff_lt] at f3 g3
    simp [exs, ex, seqF, ev, evs, evT, evo, evq, evI, startR, endF, binD, primD, cmpD, subD, sliceD, endI, truthD, isAny, isOne, tyName, bOut, seqOf, setTg, eq_int, D.isNon, at0, at1, Tg.isTup, e__law_fraction, b__law_fraction, e0, e1, e2, r0, r1, r2, f3, g3, l1, l2, l3, l4, l5, l6, at2]
theorem r_second {p q x y way : Int} (hq : q ≠ 0) (hy : y ≠ 0) (wp : Wd 150 p) (wq : Wd 150 q) (wx : Wd 150 x) (wy : Wd 150 y) :
    ∃ t b, b ≠ 0 ∧ Wd 160 t ∧ Wd 160 b ∧ run pg.T F (n + 1) false 4 [.lst [.int p, .int q], .lst [.int x, .int y], .int way] = .ok (.lst [.int t, .int b]) := by
  rw [run1 (d := e__law_second.d) rfl rfl]
  have up : ∀ {z : Int}, Wd 150 z → Wd 160 z := fun h => wd_mono h (by decide)
  have ab := int_abs y
  have e7 : Nat.log2 7 < 60 := by decide +kernel
  have l7p : p.natAbs.log2 + Nat.log2 7 < 1000000 := by have := wd_log (by decide) wp; omega
  have l7q : q.natAbs.log2 + Nat.log2 7 < 1000000 := by have := wd_log (by decide) wq; omega
  have m0 := Int.emod_nonneg (y.natAbs : Int) (show (12 : Int) ≠ 0 by decide)
  have m1 := Int.emod_lt_of_pos (y.natAbs : Int) (show (0 : Int) < 12 by decide)
  generalize hz : (y.natAbs : Int) % 12 = z at m0 m1
  have wz : Wd 5 (1 + z) := by unfold Wd; omega
  have lz : q.natAbs.log2 + (1 + z).natAbs.log2 < 1000000 := by have := wd_log (by decide) wq; have := wd_log (by decide) wz; omega
  have w7 : Wd 3 7 := by unfold Wd; decide
  have w1 : Wd 150 1 := by unfold Wd; decide
  by_cases c3 : way = 3
  · subst c3
    exact ⟨x, q * (1 + z), Int.mul_ne_zero hq (by omega), up wx, wd_mono (wd_mul wq wz) (by decide), by simp [exs, ex, seqF, ev, evs, evT, evo, evq, evI, startR, endF, binD, primD, cmpD, subD, sliceD, endI, truthD, isAny, isOne, tyName, bOut, seqOf, setTg, eq_int, D.isNon, at0, at1, Tg.isTup, e__law_second, b__law_second, ab, hz, lz]⟩
  by_cases c4 : way = 4
  · subst c4
    exact ⟨p * 7, q * 7, Int.mul_ne_zero hq (by decide), wd_mono (wd_mul wp w7) (by decide), wd_mono (wd_mul wq w7) (by decide), by simp [exs, ex, seqF, ev, evs, evT, evo, evq, evI, startR, endF, binD, primD, cmpD, subD, sliceD, endI, truthD, isAny, isOne, tyName, bOut, seqOf, setTg, eq_int, D.isNon, at0, at1, Tg.isTup, e__law_second, b__law_second, l7p, l7q]⟩
  by_cases c5 : way = 5
  · subst c5
    exact ⟨p, -q, by omega, up wp, up (sm_neg wq), by simp [exs, ex, seqF, ev, evs, evT, evo, evq, evI, startR, endF, binD, primD, cmpD, subD, sliceD, endI, truthD, isAny, isOne, tyName, bOut, seqOf, setTg, eq_int, D.isNon, at0, at1, Tg.isTup, e__law_second, b__law_second]⟩
  by_cases c6 : way = 6
  · subst c6
    by_cases hp : p = 0
    · exact ⟨x, y, hy, up wx, up wy, by simp [exs, ex, seqF, ev, evs, evT, evo, evq, evI, startR, endF, binD, primD, cmpD, subD, sliceD, endI, truthD, isAny, isOne, tyName, bOut, seqOf, setTg, eq_int, D.isNon, at0, at1, Tg.isTup, e__law_second, b__law_second, hp]⟩
    · exact ⟨q, p, hp, up wq, up wp, by simp [exs, ex, seqF, ev, evs, evT, evo, evq, evI, startR, endF, binD, primD, cmpD, subD, sliceD, endI, truthD, isAny, isOne, tyName, bOut, seqOf, setTg, eq_int, D.isNon, at0, at1, Tg.isTup, e__law_second, b__law_second, hp]⟩
  by_cases c7 : way = 7
  · subst c7
    exact ⟨p + 1, q, hq, wd_mono (wd_add wp w1) (by decide), up wq, by simp [exs, ex, seqF, ev, evs, evT, evo, evq, evI, startR, endF, binD, primD, cmpD, subD, sliceD, endI, truthD, isAny, isOne, tyName, bOut, seqOf, setTg, eq_int, D.isNon, at0, at1, Tg.isTup, e__law_second, b__law_second]⟩
  by_cases c8 : way = 8
  · subst c8
    by_cases hm : q = -1
    · exact ⟨x, y, hy, up wx, up wy, by simp [exs, ex, seqF, ev, evs, evT, evo, evq, evI, startR, endF, binD, primD, cmpD, subD, sliceD, endI, truthD, isAny, isOne, tyName, bOut, seqOf, setTg, eq_int, D.isNon, at0, at1, Tg.isTup, e__law_second, b__law_second, hm]⟩
    · exact ⟨p, q + 1, by omega, up wp, wd_mono (wd_add wq w1) (by decide), by simp [exs, ex, seqF, ev, evs, evT, evo, evq, evI, startR, endF, binD, primD, cmpD, subD, sliceD, endI, truthD, isAny, isOne, tyName, bOut, seqOf, setTg, eq_int, D.isNon, at0, at1, Tg.isTup, e__law_second, b__law_second, hm]⟩
  · exact ⟨x, y, hy, up wx, up wy, by simp [exs, ex, seqF, ev, evs, evT, evo, evq, evI, startR, endF, binD, primD, cmpD, subD, sliceD, endI, truthD, isAny, isOne, tyName, bOut, seqOf, setTg, eq_int, D.isNon, at0, at1, Tg.isTup, e__law_second, b__law_second, c3, c4, c5, c6, c7, c8]⟩
theorem inB11 {row : List Int} (h : InB row [8, 8, 8, 8, 8, 8, 2, 2, 2, 2, 9]) : ∃ a b c d e f g i j k l, row = [a, b, c, d, e, f, g, i, j, k, l] ∧ (0 ≤ a ∧ a < 8) ∧ (0 ≤ b ∧ b < 8) ∧ (0 ≤ c ∧ c < 8) ∧ (0 ≤ d ∧ d < 8) ∧ (0 ≤ e ∧ e < 8) ∧ (0 ≤ f ∧ f < 8) ∧ (0 ≤ g ∧ g < 2) ∧ (0 ≤ i ∧ i < 2) ∧ (0 ≤ j ∧ j < 2) ∧ (0 ≤ k ∧ k < 2) := by
  match row, h with
  | [a, b, c, d, e, f, g, i, j, k, l], ⟨a1, a2, b1, b2, c1, c2, d1, d2, e1, e2, f1, f2, g1, g2, i1, i2, j1, j2, k1, k2, _⟩ =>
    exact ⟨a, b, c, d, e, f, g, i, j, k, l, rfl, ⟨a1, a2⟩, ⟨b1, b2⟩, ⟨c1, c2⟩, ⟨d1, d2⟩, ⟨e1, e2⟩, ⟨f1, f2⟩, ⟨g1, g2⟩, ⟨i1, i2⟩, ⟨j1, j2⟩, ⟨k1, k2⟩⟩
def rowB : Ss := .cons (.ife (.not (.val (.call 16 (.cons (.sub (.var 7) (.int 0)) (.cons (.sub (.var 7) (.int 1)) .nil))))) (.cons (.ret (.bl false)) .nil) .nil) .nil
def Rat2 (d : D) : Prop := ∃ a b, d = .tup [.int a, .int b] ∧ 0 < b ∧ Wd 400 a ∧ Wd 400 b
theorem row_step {a0 a1 a2 a3 a4 a5 a6 a7 : Sl} {x y : D} (hx : Rat2 x) (hy : Rat2 y) : exs ⟨run pg.T F (n + 5), false, pg.T.gl, pg.T.B, pg.T.ef⟩ F rowB [a0, a1, a2, a3, a4, a5, a6, .dat (.lst [x, y])] = .ok (.nx [a0, a1, a2, a3, a4, a5, a6, .dat (.lst [x, y])]) := by
  obtain ⟨a, b, rfl, h1, w1, w2⟩ := hx
  obtain ⟨c, d, rfl, h2, w3, w4⟩ := hy
  have r := r_joined (n := n) (F := F) h1 h2 w1 w2 w3 w4
  simp [exs, ex, seqF, ev, evs, evT, evo, evq, evI, startR, endF, binD, primD, cmpD, subD, sliceD, endI, truthD, isAny, isOne, tyName, bOut, seqOf, setTg, eq_int, D.isNon, at0, at1, Tg.isTup, rowB, r]
theorem rows_ok {a0 a1 a2 a3 a4 a5 a6 : Sl} : ∀ (ps : List (D × D)) (a7 : Sl), (∀ p ∈ ps, Rat2 p.1 ∧ Rat2 p.2) → ∃ a7', loopF (.one 7) (fun r => exs ⟨run pg.T F (n + 5), false, pg.T.gl, pg.T.B, pg.T.ef⟩ F rowB r) (ps.map fun p => .lst [p.1, p.2]) [a0, a1, a2, a3, a4, a5, a6, a7] = .ok (.nx [a0, a1, a2, a3, a4, a5, a6, a7'])
  | [], a7, _ => ⟨a7, rfl⟩
  | p :: ps, a7, h => by
    obtain ⟨q, e⟩ := rows_ok ps (.dat (.lst [p.1, p.2])) (fun x hx => h x (List.mem_cons_of_mem _ hx))
    have hp := h p (List.mem_cons_self ..)
    refine ⟨q, ?_⟩
    have s := row_step (n := n) (F := F) (a0 := a0) (a1 := a1) (a2 := a2) (a3 := a3) (a4 := a4) (a5 := a5) (a6 := a6) (a7 := a7) hp.1 hp.2
    rw [← e]
    simp only [List.map_cons, loopF]
    simp [exs, ex, seqF, ev, evs, evT, evo, evq, evI, startR, endF, binD, primD, cmpD, subD, sliceD, endI, truthD, isAny, isOne, tyName, bOut, seqOf, setTg, eq_int, D.isNon, at0, at1, Tg.isTup, s]
theorem rat_of {a b : Int} {m : Nat} (h : b ≠ 0) (wa : Wd m a) (wb : Wd m b) (hm : m ≤ 400) : Rat2 (rtD a b) := ⟨_, _, rfl, rt_pos h, wd_mono (rt_wide wa wb).1 hm, wd_mono (rt_wide wa wb).2 hm⟩
def lawW (B : Ss) : Ss := (.cons (.set 1 (.call 0 (.cons (.call 2 (.cons (.var 0) (.cons (.int 0) .nil))) (.cons (.lst (.cons (.int 8) (.cons (.int 8) (.cons (.int 8) (.cons (.int 8) (.cons (.int 8) (.cons (.int 8) (.cons (.int 2) (.cons (.int 2) (.cons (.int 2) (.cons (.int 2) (.cons (.int 9) .nil)))))))))))) .nil)))) (.cons (.set 2 (.call 3 (.cons (.var 0) (.cons (.int 1) (.cons (.slice (.var 1) .no (.yes (.int 3))) (.cons (.slice (.var 1) (.yes (.int 6)) (.yes (.int 8))) .nil)))))) (.cons (.set 3 (.call 4 (.cons (.var 2) (.cons (.call 3 (.cons (.var 0) (.cons (.int 4) (.cons (.slice (.var 1) (.yes (.int 3)) (.yes (.int 6))) (.cons (.slice (.var 1) (.yes (.int 8)) (.yes (.int 10))) .nil))))) (.cons (.sub (.var 1) (.int 10)) .nil))))) (.cons (.ife (.or (.not (.val (.call 12 (.cons (.var 2) .nil)))) (.or (.not (.val (.call 12 (.cons (.var 3) .nil)))) (.not (.val (.call 11 (.cons (.int 0) .nil)))))) (.cons (.ret (.bl false)) .nil) .nil) (.cons (.set 4 (.call 6 (.cons (.sub (.var 2) (.int 0)) (.cons (.sub (.var 2) (.int 1)) .nil)))) (.cons (.set 5 (.call 6 (.cons (.sub (.var 3) (.int 0)) (.cons (.sub (.var 3) (.int 1)) .nil)))) (.cons (.set 6 (.call 6 (.cons (.bin .add (.bin .mul (.sub (.var 4) (.int 0)) (.sub (.var 5) (.int 1))) (.bin .mul (.sub (.var 5) (.int 0)) (.sub (.var 4) (.int 1)))) (.cons (.bin .mul (.sub (.var 4) (.int 1)) (.sub (.var 5) (.int 1))) .nil)))) (.cons (.for (.one 7) (.seq (.lst (.cons (.lst (.cons (.var 4) (.cons (.var 5) .nil))) (.cons (.lst (.cons (.var 5) (.cons (.var 4) .nil))) (.cons (.lst (.cons (.var 4) (.cons (.var 4) .nil))) (.cons (.lst (.cons (.var 4) (.cons (.tup (.cons (.int 0) (.cons (.int 1) .nil))) .nil))) (.cons (.lst (.cons (.tup (.cons (.int 0) (.cons (.int 1) .nil))) (.cons (.var 5) .nil))) (.cons (.lst (.cons (.var 6) (.cons (.var 6) .nil))) (.cons (.lst (.cons (.var 6) (.cons (.var 4) .nil))) (.cons (.lst (.cons (.tup (.cons (.int 1) (.cons (.int 2) .nil))) (.cons (.tup (.cons (.int 1) (.cons (.int 3) .nil))) .nil))) (.cons (.lst (.cons (.tup (.cons (.int 1) (.cons (.int 3) .nil))) (.cons (.tup (.cons (.int 1) (.cons (.int 2) .nil))) .nil))) .nil))))))))))) B) (.cons (.ret (.call 8 (.cons (.call 9 (.cons (.int 6) (.cons (.neg (.int 4)) .nil))) (.cons (.tup (.cons (.neg (.int 3)) (.cons (.int 2) .nil))) (.cons (.int 2) .nil))))) .nil)))))))))
theorem plain (ns : List Int) (hn : ns.length ≤ 63) : run pg.T 5000 40 false 17 [.scr ns] = .ok (.bl true) := by
  rw [run1 (d := e_law.d) rfl rfl]
  obtain ⟨c, e0⟩ := r_cell (n := 38) (F := 5000) (ns := ns) (k := 0) (by omega)
  obtain ⟨row, h1, h2⟩ := r_digits (n := 38) (F := 5000) (c := c) (B := [8, 8, 8, 8, 8, 8, 2, 2, 2, 2, 9]) (by decide) (by intro x hx; simp at hx; omega)
  obtain ⟨i0, i1, i2, i3, i4, i5, i6, i7, i8, i9, i10, rfl, b0, b1, b2, b3, b4, b5, b6, b7, b8, b9⟩ := inB11 h1
  obtain ⟨p, q, hq, wp, wq, e1⟩ := r_fraction (n := 36) (F := 5000) (ns := ns) (k := 1) (by omega) b0 b1 b2 b6 b7
  obtain ⟨x, y, hy, wx, wy, e2⟩ := r_fraction (n := 36) (F := 5000) (ns := ns) (k := 4) (by omega) b3 b4 b5 b8 b9
  obtain ⟨t, b, hb, wt, wb, e3⟩ := r_second (n := 38) (F := 5000) (way := i10) hq hy wp wq wx wy
  have e4 := r_lowered (n := 35) (F := 5000) (a := p) hq (wd_mono wq (by decide))
  have e5 := r_lowered (n := 35) (F := 5000) (a := t) hb (wd_mono wb (by decide))
  have e6 := r_refused (n := 36) (F := 5000) (a := 0)
  have e7 := r_lowest (n := 37) (F := 5000) (hot := false) (a := p) hq (wd_mono wq (by decide))
  have e8 := r_lowest (n := 37) (F := 5000) (hot := false) (a := t) hb (wd_mono wb (by decide))
  have o1 := rat_of hq wp wq (by decide)
  have o2 := rat_of hb wt wb (by decide)
  have u1 := rt_wide (m := 160) (wd_mono wp (by decide)) (wd_mono wq (by decide))
  have u2 := rt_wide wt wb
  have k1 := rt_pos (a := p) hq
  have k2 := rt_pos (a := t) hb
  have ne : rtB p q * rtB t b ≠ 0 := Int.mul_ne_zero (by omega) (by omega)
  have w1 := wd_add (wd_mul u1.1 u2.2) (wd_mul u2.1 u1.2)
  have w2 := wd_mono (wd_mul u1.2 u2.2) (show 160 + 160 ≤ 160 + 160 + 1 by decide)
  have e9 := r_lowest (n := 37) (F := 5000) (hot := false) (a := rtT p q * rtB t b + rtT t b * rtB p q) ne (wd_mono w2 (by decide))
  have o3 := rat_of ne w1 w2 (by decide)
  have o4 : Rat2 (.tup [.int 0, .int 1]) := ⟨0, 1, rfl, by decide, Nat.pow_pos (by decide), Nat.one_lt_two_pow (by decide)⟩
  have o5 : Rat2 (.tup [.int 1, .int 2]) := ⟨1, 2, rfl, by decide, Nat.one_lt_two_pow (by decide), by unfold Wd; decide⟩
  have o6 : Rat2 (.tup [.int 1, .int 3]) := ⟨1, 3, rfl, by decide, Nat.one_lt_two_pow (by decide), by unfold Wd; decide⟩
  have g1 : (rtT p q).natAbs.log2 + (rtB t b).natAbs.log2 < 1000000 := by have := wd_log (by decide) u1.1; have := wd_log (by decide) u2.2; omega
  have g2 : (rtT t b).natAbs.log2 + (rtB p q).natAbs.log2 < 1000000 := by have := wd_log (by decide) u2.1; have := wd_log (by decide) u1.2; omega
  have g3 : (rtB p q).natAbs.log2 + (rtB t b).natAbs.log2 < 1000000 := by have := wd_log (by decide) u1.2; have := wd_log (by decide) u2.2; omega
  have z1 := r_ratio (n := 37) (F := 5000) (hot := false) (a := 6) (b := -4) (by decide) (by unfold Wd; decide)
  have z2 : rtT 6 (-4) = -3 ∧ rtB 6 (-4) = 2 := by decide
  have z3 := r_same_two (n := 36) (F := 5000) (hot := false) (a := -3) (b := 2)
  have sl : ∀ {u v w z : Option Int}, True := trivial
  rw [show (1 : Nat) = 1 from rfl] at e1
  simp only [dInts, List.map_cons, List.map_nil] at h2
  simp only [rtD, z2.1, z2.2] at z1
  generalize hA : rtT p q = A at *
  generalize hA' : rtB p q = A' at *
  generalize hC : rtT t b = C at *
  generalize hC' : rtB t b = C' at *
  generalize hT : rtT (A * C' + C * A') (A' * C') = T1 at *
  generalize hT' : rtB (A * C' + C * A') (A' * C') = T2 at *
  simp only [rtD, hA, hA', hC, hC', hT, hT'] at e7 e8 e9 o1 o2 o3
  obtain ⟨a7, el⟩ := rows_ok (n := 34) (F := 5000) (a0 := .dat (.scr ns)) (a1 := .dat (.lst [.int i0, .int i1, .int i2, .int i3, .int i4, .int i5, .int i6, .int i7, .int i8, .int i9, .int i10])) (a2 := .dat (.lst [.int p, .int q])) (a3 := .dat (.lst [.int t, .int b]))
    (a4 := .dat (.tup [.int A, .int A'])) (a5 := .dat (.tup [.int C, .int C'])) (a6 := .dat (.tup [.int T1, .int T2]))
    [(.tup [.int A, .int A'], .tup [.int C, .int C']), (.tup [.int C, .int C'], .tup [.int A, .int A']), (.tup [.int A, .int A'], .tup [.int A, .int A']), (.tup [.int A, .int A'], .tup [.int 0, .int 1]), (.tup [.int 0, .int 1], .tup [.int C, .int C']),
      (.tup [.int T1, .int T2], .tup [.int T1, .int T2]), (.tup [.int T1, .int T2], .tup [.int A, .int A']), (.tup [.int 1, .int 2], .tup [.int 1, .int 3]), (.tup [.int 1, .int 3], .tup [.int 1, .int 2])] .un
    (by intro p hp; simp at hp; rcases hp with rfl | rfl | rfl | rfl | rfl | rfl | rfl | rfl | rfl <;> exact ⟨by assumption, by assumption⟩)
  simp only [List.map_cons, List.map_nil] at el
  have c1 : ((1 : Nat) : Int) = 1 := rfl
  have c4 : ((4 : Nat) : Int) = 4 := rfl
  have c0 : ((0 : Nat) : Int) = 0 := rfl
  rw [c1] at e1
  rw [c4] at e2
  rw [c0] at e0
  have ed : e_law.d = ⟨1, 8, lawW rowB⟩ := rfl
  rw [ed]
  clear ed
  generalize rowB = RB at *
  simp [exs, ex, seqF, ev, evs, evT, evo, evq, evI, startR, endF, binD, primD, cmpD, subD, sliceD, endI, truthD, isAny, isOne, tyName, bOut, seqOf, setTg, eq_int, D.isNon, at0, at1, Tg.isTup, lawW, e0, h2, e1, e2, e3, e4, e5, e6, e7, e8, e9, g1, g2, g3, z1, z3, el, cutD, HT.sIx, at10]
end NL

end
section
open PySem
theorem PySem.Challenge.cw_neverlocked_k05_ratios_holds : PySem.Challenge.rw_neverlocked_k05_ratios.Holds := by
  exact NL.holds05 NL.plain

end
