import PyProof.Rows.All
import Wide.All
import OpenK.AllK
import Wide.FinOn
import HandS.ForMost
import HandS.Exc
import HandS.Defaults
import HandS.Slots
import HandS.Wide
import HandS.WideBits
import HandS.TupAny
import HandS.TupMul
import HandS.IsInst
import HandS.SlotsOwn
import HandS.SortInts
import HandS.SortKw
import HandS.Deep
import HandS.Style
import HandS.RaiseMore
import HandS.Star
import HandS.ExcOwn
import HandS.Walk
import HandS.Zip
import HandS.NoneIn
import HandS.WideMore
import HandS.CallSlots
import HandS.Property
import HandS.Ends
import HandS.More
import KE.KExcSuper
import KE.KExcInit
import KE.KSuper
import HandS.ExcInit
import HandS.ExcSuper
import HandS.TryMany
import HandS.ExcField
import HandS.Lambda
import KE.KRevSl
import KE.GoesMore
import KE.DatumOrd
import PyProof.Draws
import PyProof.EnumMake
import PyProof.Rows.RowBridgeK
import HandS.CallLocal
import HandS.Dict
import KE.KStateDown
import HandS.Head0
import HandS.Head1
import HandS.Head2
import HandS.HeadEnd
import HandS.HeadHook1
import HandS.HeadHook2
import HandS.HeadHook4
import HandS.HeadWalk
import PyProof.ExcBaseAll.ValueError
import PyProof.ExcBaseAll.IndexError
import PyProof.ExcBaseAll.OverflowError
import PyProof.ExcBaseAll.LookupError
import PyProof.ExcBaseAll.ArithmeticError
import PySem.Challenge.RW_codegrates_k83_errors_of_cosets
set_option Elab.async false
set_option linter.all false
set_option autoImplicit false
set_option maxRecDepth 100000
/-! Ev, part A: data by value, the state of a body, what an expression's semantics asks. -/
namespace Ev
open PySem PySem.Spec PyProof.Rows L2

/-- data -/
inductive D where
  | non | bl (b : Bool) | int (i : Int) | str (x : Str) | fn (j : Nat)
  | tup (xs : List D) | lst (xs : List D) | obj (c : Nat) (fs : List D) | dct (ks vs : List D) | scr (xs : List D)
instance : Inhabited D := ⟨.non⟩

/-- a slot of a body: nothing, a value that does not change, a list (a dict) that only this slot holds -/
inductive Sl where
  | no | val (d : D) | own (d : D)
abbrev Rho := List Sl
/-- what an expression leaves: a value, what stands in a slot, a new list -/
inductive Opd where
  | val (d : D) | slot (i : Nat) | fresh (d : D)
/-- an exception: its class, what it keeps -/
structure Xn where
  c : Nat
  p : Option D
inductive Res (α : Type) where
  | ok (a : α) (r : Rho) | exn (x : Xn) (r : Rho) | stuck
abbrev M := Rho → Res Opd
/-- what stands in a slot, as it is now -/
def sat (r : Rho) (i : Nat) : Option D := match r[i]? with
  | some (.val d) => some d
  | some (.own d) => some d
  | _ => none
def peek (r : Rho) : Opd → Option D
  | .val d => some d
  | .fresh d => some d
  | .slot i => sat r i
def peeks (r : Rho) : List Opd → Option (List D)
  | [] => some []
  | o :: os => match peek r o, peeks r os with
    | some d, some ds => some (d :: ds)
    | _, _ => none

/-- the facts of the program's top -/
structure Gam where
  P : Program
  w : World
  K : PySem.W.Frag
  mg : Str → Option Value
  base : Heap
  fnA : Nat → Option Addr
  clsA : Nat → Option Addr
  fldA : Nat → Str
  /-- what is kept besides -/
  inv : Hp → Prop
  invS : ∀ H H', Same H H' → inv H → inv H'
  invU : ∀ H a xs ys, H a = some (.lst xs) → inv H → inv (upd H a (.lst ys))
  invI : ∀ H x dx C vs, H x = some (.ins C dx []) → H dx = some (.own x) → inv H → inv (SlX.slH H x C dx vs)

mutual
/-- v is d in the part F of the heap -/
inductive Rep (G : Gam) (F : Hp) : V → D → Prop
  | non : Rep G F .non .non
  | bl (b : Bool) : Rep G F (.bl b) (.bl b)
  | int (i : Int) : Rep G F (.int i) (.int i)
  | str (x : Str) : Rep G F (.str x) (.str x)
  | fn (j : Nat) (a : Addr) (h : G.fnA j = some a) : Rep G F (.ref a) (.fn j)
  | tup (a : Addr) (xs : List V) (ds : List D) (h : SqT G.K F a xs) (r : Reps G F xs ds) : Rep G F (.ref a) (.tup ds)
  | lst (a : Addr) (xs : List V) (ds : List D) (h : F a = some (.lst xs)) (r : Reps G F xs ds) : Rep G F (.ref a) (.lst ds)
  | scr (a : Addr) (xs : List V) (ds : List D) (h : SqL G.K F a xs) (r : Reps G F xs ds) : Rep G F (.ref a) (.scr ds)
  | dct (a : Addr) (kvs : List (Key × V)) (ks vs : List D) (h : F a = some (.dK kvs)) (rk : Reps G F (kvs.map fun p => kV p.1) ks) (rv : Reps G F (kvs.map (·.2)) vs) : Rep G F (.ref a) (.dct ks vs)
  | obj (a dx C : Addr) (c : Nat) (vs : List V) (ds : List D) (hc : G.clsA c = some C) (h : SlX.Slt F a C dx (vs.map some)) (r : Reps G F vs ds) : Rep G F (.ref a) (.obj c ds)
inductive Reps (G : Gam) (F : Hp) : List V → List D → Prop
  | nil : Reps G F [] []
  | cons (v : V) (d : D) (vs : List V) (ds : List D) (h : Rep G F v d) (t : Reps G F vs ds) : Reps G F (v :: vs) (d :: ds)
end

/-- a code object's table -/
def isT : Option HO → Bool
  | some (.tbl _) => true
  | _ => false
def noT (H : Hp) : Hp := fun b => if isT (H b) = true then none else H b
def NoT (H : Hp) : Prop := ∀ b, isT (H b) = false
theorem noT_NoT (H : Hp) : NoT (noT H) := fun b => by
  unfold noT
  cases h : isT (H b) with
  | true => rfl
  | false => rw [if_neg Bool.false_ne_true]; exact h
theorem noT_at {H : Hp} {a : Addr} {o : HO} (h : H a = some o) (n : isT (some o) = false) : noT H a = some o := by
  unfold noT
  rw [h, n]
  rfl
theorem noT_none {H : Hp} {a : Addr} (h : H a = none) : noT H a = none := by
  unfold noT
  rw [h]
  rfl
theorem noT_same (H : Hp) : Same (noT H) H := fun b o e => by
  unfold noT at e
  split at e
  · cases e
  · exact e
theorem same_noT {B H : Hp} (s : Same B H) (n : NoT B) : Same B (noT H) := fun b o e => noT_at (s b o e) (by rw [← e]; exact n b)
theorem NoT.upd {H : Hp} {a : Addr} {o : HO} (n : NoT H) (h : isT (some o) = false) : NoT (upd H a o) := fun b => by
  by_cases hb : b = a
  · subst hb; rw [upd_same]; exact h
  · rw [upd_ne hb]; exact n b
def SameT (F F' : Hp) : Prop := ∀ b o, F b = some o → isT (some o) = false → F' b = some o
theorem SameT.of {F F' : Hp} (e : Same F F') : SameT F F' := fun b o h _ => e b o h
theorem SameT.noT (F : Hp) : SameT F (noT F) := fun b o h n => noT_at h n
theorem sqt_monoT {K : PySem.W.Frag} {F F' : Hp} {a : Addr} {xs : List V} (e : SameT F F') (h : SqT K F a xs) : SqT K F' a xs := by
  rcases h with (h | ⟨o, h⟩) | h
  · exact .inl (.inl (e _ _ h rfl))
  · exact .inl (.inr ⟨o, e _ _ h rfl⟩)
  · exact .inr h
theorem sql_monoT {K : PySem.W.Frag} {F F' : Hp} {a : Addr} {xs : List V} (e : SameT F F') (h : SqL K F a xs) : SqL K F' a xs := by
  rcases h with (h | ⟨o, h⟩) | h
  · exact .inl (.inl (e _ _ h rfl))
  · exact .inl (.inr ⟨o, e _ _ h rfl⟩)
  · exact .inr h
theorem slt_monoT {F F' : Hp} {a C dx : Addr} {vs : List (Option V)} (e : SameT F F') (h : SlX.Slt F a C dx vs) : SlX.Slt F' a C dx vs := by
  rcases h with ⟨h, h2⟩ | ⟨h1, h2⟩
  · exact .inl ⟨e _ _ h rfl, h2⟩
  · exact .inr ⟨e _ _ h1 rfl, e _ _ h2 rfl⟩
theorem sqt_mono {K : PySem.W.Frag} {F F' : Hp} {a : Addr} {xs : List V} (e : Same F F') (h : SqT K F a xs) : SqT K F' a xs := sqt_monoT (.of e) h
theorem slt_mono {F F' : Hp} {a C dx : Addr} {vs : List (Option V)} (e : Same F F') (h : SlX.Slt F a C dx vs) : SlX.Slt F' a C dx vs := slt_monoT (.of e) h
mutual
theorem Rep.monoT {G : Gam} {F F' : Hp} (e : SameT F F') : ∀ {v : V} {d : D}, Rep G F v d → Rep G F' v d
  | _, _, .non => .non
  | _, _, .bl b => .bl b
  | _, _, .int i => .int i
  | _, _, .str x => .str x
  | _, _, .fn j a h => .fn j a h
  | _, _, .tup a xs ds h r => .tup a xs ds (sqt_monoT e h) (Reps.monoT e r)
  | _, _, .lst a xs ds h r => .lst a xs ds (e _ _ h rfl) (Reps.monoT e r)
  | _, _, .scr a xs ds h r => .scr a xs ds (sql_monoT e h) (Reps.monoT e r)
  | _, _, .dct a kvs ks vs h rk rv => .dct a kvs ks vs (e _ _ h rfl) (Reps.monoT e rk) (Reps.monoT e rv)
  | _, _, .obj a dx C c vs ds hc h r => .obj a dx C c vs ds hc (slt_monoT e h) (Reps.monoT e r)
theorem Reps.monoT {G : Gam} {F F' : Hp} (e : SameT F F') : ∀ {vs : List V} {ds : List D}, Reps G F vs ds → Reps G F' vs ds
  | _, _, .nil => .nil
  | _, _, .cons v d vs ds h t => .cons v d vs ds (Rep.monoT e h) (Reps.monoT e t)
end
theorem Rep.mono {G : Gam} {F F' : Hp} (e : Same F F') {v : V} {d : D} (h : Rep G F v d) : Rep G F' v d := h.monoT (.of e)
theorem Reps.mono {G : Gam} {F F' : Hp} (e : Same F F') {vs : List V} {ds : List D} (h : Reps G F vs ds) : Reps G F' vs ds := h.monoT (.of e)
theorem Rep.noT {G : Gam} {F : Hp} {v : V} {d : D} (h : Rep G F v d) : Rep G (noT F) v d := h.monoT (.noT F)
theorem Reps.noT {G : Gam} {F : Hp} {vs : List V} {ds : List D} (h : Reps G F vs ds) : Reps G (noT F) vs ds := h.monoT (.noT F)
section
variable {G : Gam} {pn : Option Addr} {F : Hp}
theorem Reps.length : ∀ {vs : List V} {ds : List D}, Reps G F vs ds → vs.length = ds.length
  | _, _, .nil => rfl
  | _, _, .cons _ _ _ _ _ t => congrArg Nat.succ (Reps.length t)
theorem Reps.get : ∀ {vs : List V} {ds : List D} {i : Nat} {d : D}, Reps G F vs ds → ds[i]? = some d → ∃ v, vs[i]? = some v ∧ Rep G F v d
  | _, _, _, _, .nil, e => by simp at e
  | _, _, 0, _, .cons v d vs ds h t, e => by simp at e; subst e; exact ⟨v, rfl, h⟩
  | _, _, i + 1, _, .cons v d vs ds h t, e => by
    obtain ⟨u, h1, h2⟩ := Reps.get (i := i) t (by simpa using e)
    exact ⟨u, by simpa using h1, h2⟩
theorem Reps.getV : ∀ {vs : List V} {ds : List D} {i : Nat} {v : V}, Reps G F vs ds → vs[i]? = some v → ∃ d, ds[i]? = some d ∧ Rep G F v d
  | _, _, _, _, .nil, e => by simp at e
  | _, _, 0, _, .cons v d vs ds h t, e => by simp at e; subst e; exact ⟨d, rfl, h⟩
  | _, _, i + 1, _, .cons v d vs ds h t, e => by
    obtain ⟨u, h1, h2⟩ := Reps.getV (i := i) t (by simpa using e)
    exact ⟨u, by simpa using h1, h2⟩
theorem Reps.append : ∀ {vs ws : List V} {ds es : List D}, Reps G F vs ds → Reps G F ws es → Reps G F (vs ++ ws) (ds ++ es)
  | _, _, _, _, .nil, s => s
  | _, _, _, _, .cons v d vs ds h t, s => .cons v d _ _ h (Reps.append t s)
theorem Reps.set {v : V} {d : D} (r : Rep G F v d) : ∀ {vs : List V} {ds : List D} (i : Nat), Reps G F vs ds → Reps G F (vs.set i v) (ds.set i d)
  | _, _, _, .nil => .nil
  | _, _, 0, .cons _ _ _ _ _ t => .cons _ _ _ _ r t
  | _, _, i + 1, .cons _ _ _ _ q t => .cons _ _ _ _ q (Reps.set r i t)
theorem Reps.take : ∀ {vs : List V} {ds : List D} (n : Nat), Reps G F vs ds → Reps G F (vs.take n) (ds.take n)
  | _, _, 0, _ => .nil
  | _, _, _ + 1, .nil => .nil
  | _, _, n + 1, .cons _ _ _ _ q t => .cons _ _ _ _ q (Reps.take n t)
theorem Reps.drop : ∀ {vs : List V} {ds : List D} (n : Nat), Reps G F vs ds → Reps G F (vs.drop n) (ds.drop n)
  | _, _, 0, r => r
  | _, _, _ + 1, .nil => .nil
  | _, _, n + 1, .cons _ _ _ _ _ t => Reps.drop n t
theorem Reps.reverse : ∀ {vs : List V} {ds : List D}, Reps G F vs ds → Reps G F vs.reverse ds.reverse
  | _, _, .nil => .nil
  | _, _, .cons v d vs ds h t => by
    rw [List.reverse_cons, List.reverse_cons]
    exact Reps.append (Reps.reverse t) (.cons v d [] [] h .nil)
theorem Reps.one {v : V} {d : D} (h : Rep G F v d) : Reps G F [v] [d] := .cons _ _ _ _ h .nil
theorem Reps.two {v w : V} {d e : D} (h : Rep G F v d) (h2 : Rep G F w e) : Reps G F [v, w] [d, e] := .cons _ _ _ _ h (.one h2)
theorem Reps.inv_nil {vs : List V} (h : Reps G F vs []) : vs = [] := by cases h; rfl
theorem Reps.inv_cons {vs : List V} {d : D} {ds : List D} (h : Reps G F vs (d :: ds)) : ∃ v ws, vs = v :: ws ∧ Rep G F v d ∧ Reps G F ws ds := by
  cases h with
  | cons v d vs ds h t => exact ⟨v, vs, rfl, h, t⟩
end

/-- what stands at a is a list (a dict) of one's own, outside B and F -/
inductive Own (G : Gam) (B F H : Hp) (a : Addr) : D → Prop
  | lst (xs : List V) (ds : List D) (hb : B a = none) (hf : F a = none) (h : H a = some (.lst xs)) (r : Reps G F xs ds) : Own G B F H a (.lst ds)
theorem Own.nb {G : Gam} {B F H : Hp} {a : Addr} {d : D} (h : Own G B F H a d) : B a = none := by
  cases h with
  | lst xs ds hb hf h r => exact hb
theorem Own.nf {G : Gam} {B F H : Hp} {a : Addr} {d : D} (h : Own G B F H a d) : F a = none := by
  cases h with
  | lst xs ds hb hf h r => exact hf
theorem Own.here {G : Gam} {B F H : Hp} {a : Addr} {d : D} (h : Own G B F H a d) : ∃ o, H a = some o ∧ Mut (some o) := by
  cases h with
  | lst xs ds hb hf h r => exact ⟨_, h, True.intro⟩
theorem Own.move {G : Gam} {B F H B' F' H' : Hp} {a : Addr} {d : D} (h : Own G B F H a d) (hb : B' a = none) (hf : F' a = none) (hh : H' a = H a) (e : Same F F') : Own G B' F' H' a d := by
  cases h with
  | lst xs ds hb' hf' h r => exact .lst xs ds hb hf (hh.trans h) (r.mono e)

theorem Own.noT {G : Gam} {B F H B' : Hp} {a : Addr} {d : D} (h : Own G B F H a d) (hb : B' a = none) : Own G B' (noT F) H a d := by
  cases h with
  | lst xs ds hb' hf' h r => exact .lst xs ds hb (noT_none hf') h r.noT

/-- new frozen parts stand outside B -/
def NewO (B F F' : Hp) : Prop := ∀ b, B b ≠ none → F b = none → F' b = none
theorem NewO.refl (B F : Hp) : NewO B F F := fun _ _ h => h
theorem NewO.trans {B F F1 F2 : Hp} (a : NewO B F F1) (b : NewO B F1 F2) : NewO B F F2 := fun c h1 h2 => b c h1 (a c h1 h2)
theorem NewO.noT {B F F' : Hp} (n : NewO B F F') : NewO B F (noT F') := fun c h1 h2 => noT_none (n c h1 h2)
theorem NewO.of {B H F F' : Hp} (e : Same B H) (n : NewO H F F') : NewO B F F' := fun c h1 h2 => n c (fun z => h1 (e.free z)) h2

/-- what stands besides: no tables in what is kept -/
structure Kp (G : Gam) (B F H : Hp) : Prop where
  nB : NoT B
  nF : NoT F
  iv : G.inv H
theorem Kp.setH {G : Gam} {B F H H' : Hp} (k : Kp G B F H) (e : Same H H') : Kp G B F H' := ⟨k.nB, k.nF, G.invS _ _ e k.iv⟩
theorem Kp.setF {G : Gam} {B F F' H : Hp} (k : Kp G B F H) (n : NoT F') : Kp G B F' H := ⟨k.nB, n, k.iv⟩
theorem Kp.updF {G : Gam} {B F H : Hp} {a : Addr} {o : HO} (k : Kp G B F H) (n : isT (some o) = false) : Kp G B (upd F a o) H := k.setF (k.nF.upd n)
/-- the state: B is to be kept, F is frozen, slots stand for data -/
structure Sta (G : Gam) (pn : Option Addr) (B F H : Hp) (σ : L2.St) (r : Rho) : Prop where
  bH : Same B H
  fH : Same F H
  kp : Kp G B F H
  len : r.length = σ.length
  val : ∀ (i : Nat) (d : D), r[i]? = some (.val d) → ∃ v, σ[i]? = some (some v) ∧ Rep G F v d
  own : ∀ (i : Nat) (d : D), r[i]? = some (.own d) → ∃ a, σ[i]? = some (some (.ref a)) ∧ Own G B F H a d
  dis : ∀ (i j : Nat) (d e : D) (a : Addr), i ≠ j → r[i]? = some (.own d) → r[j]? = some (.own e) → σ[i]? = some (some (.ref a)) → σ[j]? = some (some (.ref a)) → False
  pin : ∀ a, pn = some a → σ[0]? = some (some (.ref a))
/-- what v is, for an operand -/
def OpdR (G : Gam) (B F H : Hp) (σ : L2.St) (r : Rho) (v : V) : Opd → Prop
  | .val d => Rep G F v d
  | .slot i => σ[i]? = some (some v)
  | .fresh d => ∃ a, v = .ref a ∧ Own G B F H a d ∧ ∀ (j : Nat) (e : D), r[j]? = some (.own e) → σ[j]? ≠ some (some (.ref a))
/-- an exception in the air: its class, what it keeps -/
def ExnR (G : Gam) (F H : Hp) (x : Xn) (cls : Value) (d : Option Addr) : Prop :=
  (∃ C, G.clsA x.c = some C ∧ cls = .ref C) ∧ match x.p with
    | none => True
    | some q => ∃ dd v, d = some dd ∧ H dd = some (.xd [(G.fldA x.c, v)]) ∧ Rep G F v q
section
variable {G : Gam} {pn : Option Addr} {B F H F' H' : Hp} {σ : L2.St} {r : Rho}
theorem Sta.bT (s : Sta G pn B F H σ r) : Same B (noT H) := same_noT s.bH s.kp.nB
theorem Sta.growT (s : Sta G pn B F H σ r) (e1 : Same F F') (e2 : Same (noT H) H') (e3 : Same F' H') (n : NewO (noT H) F F') (nF : NoT F') (iv : G.inv H') : Sta G pn B F' H' σ r where
  bH := s.bT.trans e2
  fH := e3
  kp := ⟨s.kp.nB, nF, iv⟩
  len := s.len
  val := fun i d h => let ⟨v, a, b⟩ := s.val i d h; ⟨v, a, b.mono e1⟩
  own := fun i d h => by
    obtain ⟨a, ha, o⟩ := s.own i d h
    cases o with
    | lst xs ds hb hf hh rr =>
      have hT : noT H a = some (.lst xs) := noT_at hh rfl
      exact ⟨a, ha, .lst xs ds hb (n a (by rw [hT]; exact fun z => nomatch z) hf) (e2 _ _ hT) (rr.mono e1)⟩
  dis := s.dis
  pin := s.pin
theorem Sta.grow (s : Sta G pn B F H σ r) (e1 : Same F F') (e2 : Same H H') (e3 : Same F' H') (n : NewO H F F') (nF : NoT F') : Sta G pn B F' H' σ r :=
  s.growT e1 ((noT_same H).trans e2) e3 (fun b h1 h2 => n b (fun z => h1 (noT_none z)) h2) nF (G.invS _ _ e2 s.kp.iv)
/-- tables are left out of what is frozen -/
theorem Sta.growS (s : Sta G pn B F H σ r) (e1 : Same F F') (e2 : Same H H') (e3 : Same F' H') (n : NewO H F F') : Sta G pn B (noT F') H' σ r :=
  s.grow (same_noT e1 s.kp.nF) e2 ((noT_same F').trans e3) n.noT (noT_NoT F')
theorem Sta.newO (s : Sta G pn B F H σ r) (n : NewO H F F') : NewO B F F' := n.of s.bH
theorem Sta.newT (s : Sta G pn B F H σ r) (n : NewO (noT H) F F') : NewO B F F' := n.of s.bT

/-- an operand's content -/
def RepO (G : Gam) (F H : Hp) (v : V) (d : D) : Prop := Rep G F v d ∨ ∃ a xs ds, v = .ref a ∧ d = .lst ds ∧ H a = some (.lst xs) ∧ Reps G F xs ds
inductive RepOs (G : Gam) (F H : Hp) : List V → List D → Prop
  | nil : RepOs G F H [] []
  | cons (v : V) (d : D) (vs : List V) (ds : List D) (h : RepO G F H v d) (t : RepOs G F H vs ds) : RepOs G F H (v :: vs) (d :: ds)
inductive OpdRs (G : Gam) (B F H : Hp) (σ : L2.St) (r : Rho) : List V → List Opd → Prop
  | nil : OpdRs G B F H σ r [] []
  | cons (v : V) (o : Opd) (vs : List V) (os : List Opd) (h : OpdR G B F H σ r v o) (t : OpdRs G B F H σ r vs os) : OpdRs G B F H σ r (v :: vs) (o :: os)
theorem Sta.peek (s : Sta G pn B F H σ r) {v : V} {o : Opd} {d : D} (h : OpdR G B F H σ r v o) (e : Ev.peek r o = some d) : RepO G F H v d := by
  cases o with
  | val x => cases e; exact .inl h
  | fresh x =>
    cases e
    obtain ⟨a, rfl, o, _⟩ := h
    cases o with
    | lst xs ds hb hf hh rr => exact .inr ⟨a, xs, ds, rfl, rfl, hh, rr⟩
  | slot i =>
    have e : sat r i = some d := e
    unfold sat at e
    split at e
    · rename_i x q
      cases e
      obtain ⟨w, h1, h2⟩ := s.val i d q
      have h : σ[i]? = some (some v) := h
      rw [h1] at h; cases h
      exact .inl h2
    · rename_i x q
      cases e
      obtain ⟨a, h1, o⟩ := s.own i d q
      have h : σ[i]? = some (some v) := h
      rw [h1] at h; cases h
      cases o with
      | lst xs ds hb hf hh rr => exact .inr ⟨a, xs, ds, rfl, rfl, hh, rr⟩
    · cases e
theorem Sta.peeks (s : Sta G pn B F H σ r) : ∀ {vs : List V} {os : List Opd} {ds : List D}, OpdRs G B F H σ r vs os → Ev.peeks r os = some ds → RepOs G F H vs ds
  | _, _, _, .nil, e => by cases e; exact .nil
  | _, _, _, .cons v o vs os h t, e => by
    unfold Ev.peeks at e
    split at e
    · rename_i d ds h1 h2
      cases e
      exact .cons _ _ _ _ (s.peek h h1) (s.peeks t h2)
    · cases e
end

/-! ### what is asked behind an expression -/
abbrev PQ (α : Type) := α → Hp → Prop
def PostE (G : Gam) (pn : Option Addr) (W : WX) (B F : Hp) (σ : L2.St) (Q : VK) : Res Opd → Prop
  | .ok o r => ∀ (v : V) (F' H' : Hp), Same F F' → NewO B F F' → Sta G pn B F' H' σ r → OpdR G B F' H' σ r v o → Q v H'
  | .exn x r => ∀ (cls : Value) (d : Option Addr) (F' H' : Hp), Same F F' → NewO B F F' → Sta G pn B F' H' σ r → ExnR G F' H' x cls d → W cls d σ H'
  | .stuck => False
/-- an expression's reading, by its semantics -/
def tM (G : Gam) (pn : Option Addr) (W : WX) (m : M) : TE := fun σ H Q => ∃ B F r, Sta G pn B F H σ r ∧ PostE G pn W B F σ Q (m r)
/-- arguments: no fresh operands -/
def PostA (G : Gam) (pn : Option Addr) (W : WX) (B F : Hp) (σ : L2.St) (Q : List V → Hp → Prop) : Res (List Opd) → Prop
  | .ok os r => ∀ (vs : List V) (F' H' : Hp), Same F F' → NewO B F F' → Sta G pn B F' H' σ r → OpdRs G B F' H' σ r vs os → Q vs H'
  | .exn x r => ∀ (cls : Value) (d : Option Addr) (F' H' : Hp), Same F F' → NewO B F F' → Sta G pn B F' H' σ r → ExnR G F' H' x cls d → W cls d σ H'
  | .stuck => False
abbrev MA := Rho → Res (List Opd)
def tMA (G : Gam) (pn : Option Addr) (W : WX) (m : MA) : TA := fun σ H Q => ∃ B F r, Sta G pn B F H σ r ∧ PostA G pn W B F σ Q (m r)
/-- tests -/
abbrev MT := Rho → Res Bool
def PostT (G : Gam) (pn : Option Addr) (W : WX) (B F : Hp) (σ : L2.St) (Q : Bool → Hp → Prop) : Res Bool → Prop
  | .ok b r => ∀ (F' H' : Hp), Same F F' → NewO B F F' → Sta G pn B F' H' σ r → Q b H'
  | .exn x r => ∀ (cls : Value) (d : Option Addr) (F' H' : Hp), Same F F' → NewO B F F' → Sta G pn B F' H' σ r → ExnR G F' H' x cls d → W cls d σ H'
  | .stuck => False
def tMT (G : Gam) (pn : Option Addr) (W : WX) (m : MT) : TT := fun σ H Q => ∃ B F r, Sta G pn B F H σ r ∧ PostT G pn W B F σ Q (m r)

theorem PE.imp {X : Cx} {e : Expr} {t t' : TE} (h : PE X e t) (i : ∀ σ H Q, t' σ H Q → t σ H Q) : PE X e t' := ⟨fun pins s σ H Q I q => h.run pins s σ H Q I (i σ H Q q)⟩
theorem PT.imp {X : Cx} {e : Expr} {t t' : TT} (h : PT X e t) (i : ∀ σ H Q, t' σ H Q → t σ H Q) : PT X e t' := ⟨fun pins s σ H Q I q => h.run pins s σ H Q I (i σ H Q q)⟩
theorem PW.imp {X : Cx} {e : Expr} {t t' : TT} (h : PW X e t) (i : ∀ σ H Q, t' σ H Q → t σ H Q) : PW X e t' := ⟨fun wh pins s σ H Q I q => h.run wh pins s σ H Q I (i σ H Q q)⟩
theorem PA.imp {X : Cx} {es : List Expr} {t t' : TA} (h : PA X es t) (i : ∀ σ H Q, t' σ H Q → t σ H Q) : PA X es t' := ⟨fun pos pins s σ H Q I q => h.run pos pins s σ H Q I (i σ H Q q)⟩
theorem PS.imp {X : Cx} {st : Stmt} {t t' : TS} (h : PS X st t) (i : ∀ D σ H, t' D σ H → t D σ H) : PS X st t' := ⟨fun pins s σ H D I q => h.run pins s σ H D I (i D σ H q)⟩
theorem PSs.imp {X : Cx} {st : List Stmt} {t t' : TS} (h : PSs X st t) (i : ∀ D σ H, t' D σ H → t D σ H) : PSs X st t' := ⟨fun pins s σ H D I q => h.run pins s σ H D I (i D σ H q)⟩
end Ev
/-! Ev, part B: expressions: arguments, operators by values, tests. -/
namespace Ev
open PySem PySem.Spec PyProof.Rows L2

def noFresh : Opd → Opd
  | .fresh d => .val d
  | o => o
def bindR {α β : Type} (x : Res α) (f : α → Rho → Res β) : Res β := match x with
  | .ok a r => f a r
  | .exn x r => .exn x r
  | .stuck => .stuck
def mArgs : List M → MA
  | [] => fun r => .ok [] r
  | m :: ms => fun r => bindR (m r) fun o r1 => bindR (mArgs ms r1) fun os r2 => .ok (noFresh o :: os) r2
/-- an operator by values -/
def opt {α : Type} (x : Option α) (r : Rho) : Res α := match x with
  | some a => .ok a r
  | none => .stuck
def mOp (f : List D → Option Opd) (ms : List M) : M := fun r => bindR (mArgs ms r) fun os r1 => opt ((peeks r1 os).bind f) r1
def mVal (d : D) : M := fun r => .ok (.val d) r
def mVar (i : Nat) : M := fun r => match r[i]? with
  | some (.val d) => .ok (.val d) r
  | some (.own _) => .ok (.slot i) r
  | _ => .stuck
/-- truth -/
def truthD : D → Option Bool
  | .non => some false
  | .bl b => some b
  | .int i => some (i != 0)
  | .str x => if x.length ≤ sizeLine then some ((x.length : Int) != 0) else none
  | .tup xs => some (!xs.isEmpty)
  | .lst xs => some (!xs.isEmpty)
  | .scr xs => some (!xs.isEmpty)
  | .dct ks _ => some (!ks.isEmpty)
  | _ => none
def mTruth (m : M) : MT := fun r => bindR (m r) fun o r1 => opt ((peek r1 o).bind truthD) r1
/-- a bool alone -/
def boolD : D → Option Bool
  | .bl b => some b
  | _ => none
def mBool (m : M) : MT := fun r => bindR (m r) fun o r1 => opt ((peek r1 o).bind boolD) r1
def mAnd (t u : MT) : MT := fun r => bindR (t r) fun b r1 => if b = true then u r1 else .ok false r1
def mOr (t u : MT) : MT := fun r => bindR (t r) fun b r1 => if b = true then .ok true r1 else u r1
def mNot (t : MT) : MT := fun r => bindR (t r) fun b r1 => .ok (!b) r1
def mIf (t : MT) (a b : M) : M := fun r => bindR (t r) fun c r1 => if c = true then a r1 else b r1
def mAndV (a b : M) : M := fun r => bindR (mBool a r) fun c r1 => if c = true then b r1 else .ok (.val (.bl false)) r1
def mOrV (a b : M) : M := fun r => bindR (mBool a r) fun c r1 => if c = true then .ok (.val (.bl true)) r1 else b r1
def mNotV (a : M) : M := fun r => bindR (mBool a r) fun c r1 => .ok (.val (.bl (!c))) r1

section
variable {G : Gam} {pn : Option Addr} {W : WX} {B F F' H H' : Hp} {σ : L2.St} {r : Rho}
theorem NewO.upd {a : Addr} {o : HO} (hb : B a = none) : NewO B F (upd F a o) := fun c h1 h2 => by
  by_cases e : c = a
  · subst e; exact absurd hb h1
  · rw [upd_ne e]; exact h2
theorem same_upd {a : Addr} {o : HO} (h : F a = none) : Same F (upd F a o) := fun b u e => by rw [upd_ne (ne_of_none e h)]; exact e
/-- a new list is frozen -/
theorem Sta.settle (s : Sta G pn B F H σ r) {v : V} {o : Opd} (h : OpdR G B F H σ r v o) : ∃ F', Same F F' ∧ NewO B F F' ∧ Sta G pn B F' H σ r ∧ OpdR G B F' H σ r v (noFresh o) := by
  cases o with
  | val d => exact ⟨F, Same.refl F, NewO.refl B F, s, h⟩
  | slot i => exact ⟨F, Same.refl F, NewO.refl B F, s, h⟩
  | fresh d =>
    obtain ⟨a, rfl, o, ne⟩ := h
    cases o with
    | lst xs ds hb hf hh rr =>
      have e1 : Same F (upd F a (.lst xs)) := same_upd hf
      refine ⟨upd F a (.lst xs), e1, NewO.upd hb, ⟨s.bH, fun b u e => ?_, s.kp.updF rfl, s.len, fun i d h => ?_, fun i d h => ?_, s.dis, s.pin⟩, ?_⟩
      · by_cases hba : b = a
        · subst hba; rw [upd_same] at e; cases e; exact hh
        · rw [upd_ne hba] at e; exact s.fH b u e
      · obtain ⟨v, a1, a2⟩ := s.val i d h
        exact ⟨v, a1, a2.mono e1⟩
      · obtain ⟨c, a1, a2⟩ := s.own i d h
        have hca : c ≠ a := fun z => ne i d h (by rw [← z]; exact a1)
        exact ⟨c, a1, a2.move a2.nb (by rw [upd_ne hca]; exact a2.nf) rfl e1⟩
      · exact .lst a xs ds upd_same (rr.mono e1)
theorem OpdR.keep {v : V} {o : Opd} {r' : Rho} (h : OpdR G B F H σ r v (noFresh o)) (e : Same F F') : OpdR G B F' H' σ r' v (noFresh o) := by
  cases o with
  | val d => exact Rep.mono e h
  | slot i => exact h
  | fresh d => exact Rep.mono e h
theorem tMA_nil {Q : List V → Hp → Prop} (h : tMA G pn W (mArgs []) σ H Q) : tNil σ H Q := by
  obtain ⟨B, F, r, s, p⟩ := h
  exact p [] F H (Same.refl F) (NewO.refl B F) s .nil
theorem tMA_cons {m : M} {ms : List M} {Q : List V → Hp → Prop} (h : tMA G pn W (mArgs (m :: ms)) σ H Q) : tM G pn W m σ H fun x H1 => tMA G pn W (mArgs ms) σ H1 fun xs H2 => Q (x :: xs) H2 := by
  obtain ⟨B, F, r, s, p⟩ := h
  refine ⟨B, F, r, s, ?_⟩
  unfold mArgs at p
  cases e : m r with
  | stuck => rw [e] at p; exact p
  | exn x r1 => rw [e] at p; exact p
  | ok o r1 =>
    rw [e] at p
    intro v F1 H1 e1 n1 s1 o1
    obtain ⟨F2, e2, n2, s2, o2⟩ := s1.settle o1
    refine ⟨B, F2, r1, s2, ?_⟩
    have p : PostA G pn W B F σ Q (bindR (mArgs ms r1) fun os r2 => .ok (noFresh o :: os) r2) := p
    cases q : mArgs ms r1 with
    | stuck => rw [q] at p; exact p
    | exn x r2 =>
      rw [q] at p
      intro cls d F3 H3 e3 n3 s3 x3
      exact p cls d F3 H3 ((e1.trans e2).trans e3) ((n1.trans n2).trans n3) s3 x3
    | ok os r2 =>
      rw [q] at p
      intro vs F3 H3 e3 n3 s3 os3
      exact p (v :: vs) F3 H3 ((e1.trans e2).trans e3) ((n1.trans n2).trans n3) s3 (.cons _ _ _ _ (o2.keep e3) os3)

/-- what an operator hands back -/
def ResR (G : Gam) (F' H H' : Hp) (v : V) : Opd → Prop
  | .val d => Rep G F' v d
  | .fresh d => ∃ a, v = .ref a ∧ Own G H F' H' a d
  | .slot _ => False
/-- what is wanted of an operator's end -/
def Fin (G : Gam) (F H : Hp) (o : Opd) (Q : VK) : Prop := ∀ (v : V) (F' H' : Hp), Same F F' → Same H H' → Same F' H' → NewO H F F' → ResR G F' H H' v o → Q v H'
/-- R: what the layer's rule asks -/
def OpS (G : Gam) (R : List V → Hp → VK → Prop) (f : List D → Option Opd) : Prop := ∀ (F H : Hp) (vs : List V) (ds : List D) (o : Opd) (Q : VK), Same F H → RepOs G F H vs ds → f ds = some o → Fin G F H o Q → R vs H Q
theorem Sta.fin {o : Opd} {Q : VK} (s : Sta G pn B F H σ r) (p : ∀ (v : V) (F' H' : Hp), Same F F' → NewO B F F' → Sta G pn B F' H' σ r → OpdR G B F' H' σ r v o → Q v H') : Fin G F H o Q := by
  intro v F' H' e1 e2 e3 n rr
  refine p v (noT F') H' (same_noT e1 s.kp.nF) (s.newO n).noT (s.growS e1 e2 e3 n) ?_
  cases o with
  | val d => exact Rep.noT rr
  | slot i => exact rr.elim
  | fresh d =>
    obtain ⟨a, rfl, o⟩ := rr
    refine ⟨a, rfl, o.noT (s.bH.free o.nb), fun j e hj hs => ?_⟩
    obtain ⟨b, hb, ob⟩ := s.own j e hj
    rw [hb] at hs
    cases hs
    obtain ⟨u, hu, _⟩ := ob.here
    rw [o.nb] at hu
    cases hu
theorem tM_op {f : List D → Option Opd} {ms : List M} {R : List V → Hp → VK → Prop} {Q : VK} (hf : OpS G R f) (h : tM G pn W (mOp f ms) σ H Q) : tMA G pn W (mArgs ms) σ H fun vs H2 => R vs H2 Q := by
  obtain ⟨B, F, r, s, p⟩ := h
  refine ⟨B, F, r, s, ?_⟩
  unfold mOp at p
  cases e : mArgs ms r with
  | stuck => rw [e] at p; exact p
  | exn x r1 => rw [e] at p; exact p
  | ok os r1 =>
    rw [e] at p
    intro vs F1 H1 e1 n1 s1 o1
    have p : PostE G pn W B F σ Q (opt ((peeks r1 os).bind f) r1) := p
    cases q : peeks r1 os with
    | none => rw [q] at p; exact p.elim
    | some ds =>
      rw [q] at p
      have p : PostE G pn W B F σ Q (opt (f ds) r1) := p
      cases q2 : f ds with
      | none => rw [q2] at p; exact p.elim
      | some o =>
        rw [q2] at p
        exact hf F1 H1 vs ds o Q s1.fH (s1.peeks o1 q) q2 (s1.fin fun v F' H' e n st oo => p v F' H' (e1.trans e) (n1.trans n) st oo)
theorem op1 {f : List D → Option Opd} {a : M} {R : List V → Hp → VK → Prop} {Q : VK} (hf : OpS G R f) (h : tM G pn W (mOp f [a]) σ H Q) : tM G pn W a σ H fun x H1 => R [x] H1 Q := by
  obtain ⟨B, F, r, s, p⟩ := tMA_cons (tM_op hf h)
  refine ⟨B, F, r, s, ?_⟩
  revert p
  cases a r with
  | stuck => exact id
  | exn x r => exact id
  | ok o r => exact fun p v F' H' e n st oo => tMA_nil (p v F' H' e n st oo)
theorem op2 {f : List D → Option Opd} {a b : M} {R : List V → Hp → VK → Prop} {Q : VK} (hf : OpS G R f) (h : tM G pn W (mOp f [a, b]) σ H Q) : tM G pn W a σ H fun x H1 => tM G pn W b σ H1 fun y H2 => R [x, y] H2 Q := by
  obtain ⟨B, F, r, s, p⟩ := tMA_cons (tM_op hf h)
  refine ⟨B, F, r, s, ?_⟩
  revert p
  cases a r with
  | stuck => exact id
  | exn x r => exact id
  | ok o r =>
    intro p v F' H' e n st oo
    obtain ⟨B1, F1, r1, s1, p1⟩ := tMA_cons (p v F' H' e n st oo)
    refine ⟨B1, F1, r1, s1, ?_⟩
    revert p1
    cases b r1 with
    | stuck => exact id
    | exn x r => exact id
    | ok o r => exact fun p v F' H' e n st oo => tMA_nil (p v F' H' e n st oo)
/-- weakening of the end -/
theorem tM_mono {m : M} {Q Q' : VK} (h : tM G pn W m σ H Q) (i : ∀ v H, Q v H → Q' v H) : tM G pn W m σ H Q' := by
  obtain ⟨B, F, r, s, p⟩ := h
  refine ⟨B, F, r, s, ?_⟩
  revert p
  cases m r with
  | stuck => exact id
  | exn x r => exact id
  | ok o r => exact fun p v F' H' e n st oo => i _ _ (p v F' H' e n st oo)
end

/-! ### names and constants -/
section
variable {G : Gam} {pn : Option Addr} {W : WX} {X : Cx}
theorem PE_val {e : Expr} {v : V} {d : D} (h : PE X e (tC v)) (hr : ∀ F, Rep G F v d) : PE X e (tM G pn W (mVal d)) := PE.imp h fun σ H Q ⟨B, F, r, s, p⟩ =>
  p v F H (Same.refl F) (NewO.refl B F) s (hr F)
theorem tM_var {i : Nat} {σ : L2.St} {H : Hp} {Q : VK} (h : tM G pn W (mVar i) σ H Q) : tVar i σ H Q := by
  obtain ⟨B, F, r, s, p⟩ := h
  unfold mVar at p
  split at p
  · rename_i d q
    obtain ⟨v, h1, h2⟩ := s.val i d q
    exact ⟨v, h1, p v F H (Same.refl F) (NewO.refl B F) s h2⟩
  · rename_i d q
    obtain ⟨a, h1, h2⟩ := s.own i d q
    exact ⟨.ref a, h1, p (.ref a) F H (Same.refl F) (NewO.refl B F) s h1⟩
  · exact p.elim

/-! ### tests -/
theorem truth_sound {F H : Hp} {v : V} {d : D} {b : Bool} (r : RepO G F H v d) (fH : Same F H) (h : truthD d = some b) : TruV G.K v H b := by
  rcases r with r | ⟨a, xs, ds, rfl, rfl, hh, rr⟩
  · cases r with
    | non => cases h; rfl
    | bl b => cases h; rfl
    | int i => cases h; rfl
    | str x =>
      have h : (if x.length ≤ sizeLine then some ((x.length : Int) != 0) else none) = some b := h
      split at h
      · rename_i q; cases h; exact ⟨q, rfl⟩
      · cases h
    | fn j a h' => cases h
    | tup a xs ds hs rr =>
      cases h
      refine .inr (.inl ⟨xs, sqt_mono fH hs, ?_⟩)
      have := rr.length
      cases xs <;> cases ds <;> simp_all
    | lst a xs ds hs rr =>
      cases h
      refine .inl ⟨xs, SqL.of (fH _ _ hs), ?_⟩
      have := rr.length
      cases xs <;> cases ds <;> simp_all
    | scr a xs ds hs rr =>
      cases h
      refine .inl ⟨xs, fH.seq hs, ?_⟩
      have := rr.length
      cases xs <;> cases ds <;> simp_all
    | dct a kvs ks vs hs rk rv =>
      cases h
      refine .inr (.inr ⟨kvs, fH _ _ hs, ?_⟩)
      have := rk.length
      cases kvs <;> cases ks <;> simp_all
    | obj => cases h
  · cases h
    refine .inl ⟨xs, SqL.of hh, ?_⟩
    have := rr.length
    cases xs <;> cases ds <;> simp_all
theorem tMT_truth {m : M} {σ : L2.St} {H : Hp} {Q : Bool → Hp → Prop} (h : tMT G pn W (mTruth m) σ H Q) : tM G pn W m σ H fun x H' => ∃ k, TruV G.K x H' k ∧ Q k H' := by
  obtain ⟨B, F, r, s, p⟩ := h
  refine ⟨B, F, r, s, ?_⟩
  unfold mTruth at p
  revert p
  cases m r with
  | stuck => exact id
  | exn x r => exact id
  | ok o r1 =>
    intro p v F1 H1 e1 n1 s1 o1
    have p : PostT G pn W B F σ Q (opt ((peek r1 o).bind truthD) r1) := p
    cases q : peek r1 o with
    | none => rw [q] at p; exact p.elim
    | some d =>
      rw [q] at p
      have p : PostT G pn W B F σ Q (opt (truthD d) r1) := p
      cases q2 : truthD d with
      | none => rw [q2] at p; exact p.elim
      | some b =>
        rw [q2] at p
        exact ⟨b, truth_sound (s1.peek o1 q) s1.fH q2, p F1 H1 e1 n1 s1⟩
theorem tMT_bool {m : M} {σ : L2.St} {H : Hp} {Q : Bool → Hp → Prop} (h : tMT G pn W (mBool m) σ H Q) : tM G pn W m σ H fun x H' => ∃ k, x = .bl k ∧ Q k H' := by
  obtain ⟨B, F, r, s, p⟩ := h
  refine ⟨B, F, r, s, ?_⟩
  unfold mBool at p
  revert p
  cases m r with
  | stuck => exact id
  | exn x r => exact id
  | ok o r1 =>
    intro p v F1 H1 e1 n1 s1 o1
    have p : PostT G pn W B F σ Q (opt ((peek r1 o).bind boolD) r1) := p
    cases q : peek r1 o with
    | none => rw [q] at p; exact p.elim
    | some d =>
      rw [q] at p
      have p : PostT G pn W B F σ Q (opt (boolD d) r1) := p
      cases d with
      | bl b =>
        rcases s1.peek o1 q with rr | ⟨_, _, _, _, z, _⟩
        · cases rr
          exact ⟨b, rfl, p F1 H1 e1 n1 s1⟩
        · cases z
      | _ => exact p.elim
/-- one test behind another -/
theorem tMT_bind {t : MT} {k : Bool → MT} {σ : L2.St} {H : Hp} {Q : Bool → Hp → Prop} (h : tMT G pn W (fun r => bindR (t r) k) σ H Q) : tMT G pn W t σ H fun b H1 => tMT G pn W (k b) σ H1 Q := by
  obtain ⟨B, F, r, s, p⟩ := h
  refine ⟨B, F, r, s, ?_⟩
  revert p
  show PostT G pn W B F σ Q (bindR (t r) k) → _
  cases t r with
  | stuck => exact id
  | exn x r => exact id
  | ok b r1 =>
    intro p F1 H1 e1 n1 s1
    refine ⟨B, F1, r1, s1, ?_⟩
    have p : PostT G pn W B F σ Q (k b r1) := p
    revert p
    cases k b r1 with
    | stuck => exact id
    | exn x r2 => exact fun p cls d F3 H3 e3 n3 s3 x3 => p cls d F3 H3 (e1.trans e3) (n1.trans n3) s3 x3
    | ok c r2 => exact fun p F3 H3 e3 n3 s3 => p F3 H3 (e1.trans e3) (n1.trans n3) s3
theorem tM_bindT {t : MT} {k : Bool → M} {σ : L2.St} {H : Hp} {Q : VK} (h : tM G pn W (fun r => bindR (t r) k) σ H Q) : tMT G pn W t σ H fun b H1 => tM G pn W (k b) σ H1 Q := by
  obtain ⟨B, F, r, s, p⟩ := h
  refine ⟨B, F, r, s, ?_⟩
  revert p
  show PostE G pn W B F σ Q (bindR (t r) k) → _
  cases t r with
  | stuck => exact id
  | exn x r => exact id
  | ok b r1 =>
    intro p F1 H1 e1 n1 s1
    refine ⟨B, F1, r1, s1, ?_⟩
    have p : PostE G pn W B F σ Q (k b r1) := p
    revert p
    cases k b r1 with
    | stuck => exact id
    | exn x r2 => exact fun p cls d F3 H3 e3 n3 s3 x3 => p cls d F3 H3 (e1.trans e3) (n1.trans n3) s3 x3
    | ok c r2 => exact fun p v F3 H3 e3 n3 s3 o3 => p v F3 H3 (e1.trans e3) (n1.trans n3) s3 o3
theorem tMT_ret {b : Bool} {σ : L2.St} {H : Hp} {Q : Bool → Hp → Prop} (h : tMT G pn W (fun r => .ok b r) σ H Q) : Q b H := by
  obtain ⟨B, F, r, s, p⟩ := h
  exact p F H (Same.refl F) (NewO.refl B F) s
theorem tM_ret {d : D} {v : V} {σ : L2.St} {H : Hp} {Q : VK} (hr : ∀ F, Rep G F v d) (h : tM G pn W (fun r => .ok (.val d) r) σ H Q) : Q v H := by
  obtain ⟨B, F, r, s, p⟩ := h
  exact p v F H (Same.refl F) (NewO.refl B F) s (hr F)
theorem tMT_ite {c : Bool} {t u : MT} {σ : L2.St} {H : Hp} {Q : Bool → Hp → Prop} (h : tMT G pn W (fun r => if c = true then t r else u r) σ H Q) : if c = true then tMT G pn W t σ H Q else tMT G pn W u σ H Q := by
  cases c with
  | true => exact h
  | false => exact h
variable {a b c : Expr} {rest : List Expr} {pos : Pos} {ma mb : M} {ta tb : MT}
theorem PT_and1 (ha : PT X a (tMT G pn W ta)) : PW X (.BoolOp .And [a] pos) (tMT G pn W ta) := pw_and1 ha
theorem PT_or1 (ha : PT X a (tMT G pn W ta)) : PW X (.BoolOp .Or [a] pos) (tMT G pn W ta) := pw_or1 ha
theorem PT_and (ha : PT X a (tMT G pn W ta)) (hb : PW X (.BoolOp .And (b :: rest) pos) (tMT G pn W tb)) : PW X (.BoolOp .And (a :: b :: rest) pos) (tMT G pn W (mAnd ta tb)) :=
  PW.imp (pw_and ha hb) fun σ H Q h => by
    have h2 := tMT_bind (k := fun b r1 => if b = true then tb r1 else .ok false r1) h
    obtain ⟨B, F, r, s, p⟩ := h2
    refine ⟨B, F, r, s, ?_⟩
    revert p
    cases ta r with
    | stuck => exact id
    | exn x r => exact id
    | ok c r1 =>
      intro p F1 H1 e1 n1 s1
      have q := p F1 H1 e1 n1 s1
      cases c with
      | true => exact q
      | false => exact tMT_ret q
theorem PT_or (ha : PT X a (tMT G pn W ta)) (hb : PW X (.BoolOp .Or (b :: rest) pos) (tMT G pn W tb)) : PW X (.BoolOp .Or (a :: b :: rest) pos) (tMT G pn W (mOr ta tb)) :=
  PW.imp (pw_or ha hb) fun σ H Q h => by
    have h2 := tMT_bind (k := fun b r1 => if b = true then .ok true r1 else tb r1) h
    obtain ⟨B, F, r, s, p⟩ := h2
    refine ⟨B, F, r, s, ?_⟩
    revert p
    cases ta r with
    | stuck => exact id
    | exn x r => exact id
    | ok c r1 =>
      intro p F1 H1 e1 n1 s1
      have q := p F1 H1 e1 n1 s1
      cases c with
      | true => exact tMT_ret q
      | false => exact q
theorem tMT_mono {m : MT} {σ : L2.St} {H : Hp} {Q Q' : Bool → Hp → Prop} (h : tMT G pn W m σ H Q) (i : ∀ v H, Q v H → Q' v H) : tMT G pn W m σ H Q' := by
  obtain ⟨B, F, r, s, p⟩ := h
  refine ⟨B, F, r, s, ?_⟩
  revert p
  cases m r with
  | stuck => exact id
  | exn x r => exact id
  | ok o r => exact fun p F' H' e n st => i _ _ (p F' H' e n st)
theorem PT_not (ha : PT X a (tMT G pn W ta)) : PT X (.UnaryOp .Not a pos) (tMT G pn W (mNot ta)) :=
  PT.imp (pt_not ha) fun σ H Q h => tMT_mono (tMT_bind (k := fun b r1 => .ok (!b) r1) h) fun b H1 q => tMT_ret q
theorem PE_if (hc : PT X c (tMT G pn W ta)) (ha : PE X a (tM G pn W ma)) (hb : PE X b (tM G pn W mb)) : PE X (.IfExp c a b pos) (tM G pn W (mIf ta ma mb)) :=
  PE.imp (pe_ifExp hc ha hb) fun σ H Q h => tMT_mono (tM_bindT (k := fun c r1 => if c = true then ma r1 else mb r1) h) fun b H1 q => by cases b <;> exact q
theorem PE_and (ha : PE X a (tM G pn W ma)) (hb : PE X (.BoolOp .And (b :: rest) pos) (tM G pn W mb)) : PE X (.BoolOp .And (a :: b :: rest) pos) (tM G pn W (mAndV ma mb)) :=
  PE.imp (pe_and ha hb) fun σ H Q h => tM_mono (tMT_bool (tM_bindT (k := fun c r1 => if c = true then mb r1 else .ok (.val (.bl false)) r1) h)) fun v H1 ⟨k, e, q⟩ => ⟨k, e, by
    cases k with
    | true => exact q
    | false => exact tM_ret (fun F => .bl false) q⟩
theorem PE_or (ha : PE X a (tM G pn W ma)) (hb : PE X (.BoolOp .Or (b :: rest) pos) (tM G pn W mb)) : PE X (.BoolOp .Or (a :: b :: rest) pos) (tM G pn W (mOrV ma mb)) :=
  PE.imp (pe_or ha hb) fun σ H Q h => tM_mono (tMT_bool (tM_bindT (k := fun c r1 => if c = true then .ok (.val (.bl true)) r1 else mb r1) h)) fun v H1 ⟨k, e, q⟩ => ⟨k, e, by
    cases k with
    | true => exact tM_ret (fun F => .bl true) q
    | false => exact q⟩
theorem PE_not (ha : PE X a (tM G pn W ma)) : PE X (.UnaryOp .Not a pos) (tM G pn W (mNotV ma)) :=
  PE.imp (pe_not ha) fun σ H Q h => tM_mono (tMT_bool (tM_bindT (k := fun c r1 => .ok (.val (.bl (!c))) r1) h)) fun v H1 ⟨k, e, q⟩ => ⟨k, e, tM_ret (fun F => .bl (!k)) q⟩
theorem PA_nil : PA X [] (tMA G pn W (mArgs [])) := PA.imp pa_nil fun σ H Q h => tMA_nil h
theorem PA_cons {e : Expr} {es : List Expr} {m : M} {ms : List M} (ha : PE X e (tM G pn W m)) (hr : PA X es (tMA G pn W (mArgs ms))) (hs : starEach (e :: es) X.env = (false, eval e X.env) :: starEach es X.env) : PA X (e :: es) (tMA G pn W (mArgs (m :: ms))) :=
  PA.imp (pa_cons ha hr hs) fun σ H Q h => tMA_cons h
/-- an operator with two operands -/
theorem PE_bin {op : Operator} {R : List V → Hp → VK → Prop} {f : List D → Option Opd} (ho : OpR X (binaryOp op) fun x y H Q => R [x, y] H Q) (hf : OpS G R f) (ha : PE X a (tM G pn W ma)) (hb : PE X b (tM G pn W mb)) : PE X (.BinOp a op b pos) (tM G pn W (mOp f [ma, mb])) :=
  PE.imp (pe_op ho ha hb) fun σ H Q h => op2 hf h
theorem PE_cmp {op : CmpOp} {R : List V → Hp → VK → Prop} {f : List D → Option Opd} (ho : OpR X (compareOp op) fun x y H Q => R [x, y] H Q) (hf : OpS G R f) (ha : PE X a (tM G pn W ma)) (hb : PE X b (tM G pn W mb)) (hm : behindInMarks op b = false) :
    PE X (.Compare a [op] [b] pos) (tM G pn W (mOp f [ma, mb])) := PE.imp (pe_cmpR ho ha hb hm) fun σ H Q h => op2 hf h
/-- a comparison as a test: the value is a bool -/
theorem PT_cmp {op : CmpOp} {R : List V → Hp → VK → Prop} {f : List D → Option Opd} (ho : OpR X (compareOp op) fun x y H Q => R [x, y] H Q) (hf : OpS G R f) (ha : PE X a (tM G pn W ma)) (hb : PE X b (tM G pn W mb)) (hm : behindInMarks op b = false) :
    PT X (.Compare a [op] [b] pos) (tMT G pn W (mBool (mOp f [ma, mb]))) := PT.imp (pt_cmpR ho ha hb hm) fun σ H Q h => op2 hf (tMT_bool h)
theorem PE_un {op : UnaryOp} {R : List V → Hp → VK → Prop} {f : List D → Option Opd} (ho : UnR X (unaryOp op) fun x H Q => R [x] H Q) (hf : OpS G R f) (ha : PE X a (tM G pn W ma)) : PE X (.UnaryOp op a pos) (tM G pn W (mOp f [ma])) :=
  PE.imp (pe_un ho ha) fun σ H Q h => op1 hf h
end
end Ev
/-! Ev, part C: operators. -/
namespace Ev
open PySem PySem.Spec PyProof.Rows L2

def two (f : D → D → Option Opd) : List D → Option Opd
  | [d, e] => f d e
  | _ => none
def one (f : D → Option Opd) : List D → Option Opd
  | [d] => f d
  | _ => none
def R2L (r : R2) : List V → Hp → VK → Prop := fun vs H Q => ∃ x y, vs = [x, y] ∧ r x y H Q
def R1L (r : V → Hp → VK → Prop) : List V → Hp → VK → Prop := fun vs H Q => ∃ x, vs = [x] ∧ r x H Q
/-- a rule r for f -/
def Op2 (G : Gam) (r : R2) (f : D → D → Option Opd) : Prop := ∀ (F H : Hp) (x y : V) (d e : D) (o : Opd) (Q : VK), Same F H → RepO G F H x d → RepO G F H y e → f d e = some o → Fin G F H o Q → r x y H Q
def Op1 (G : Gam) (r : V → Hp → VK → Prop) (f : D → Option Opd) : Prop := ∀ (F H : Hp) (x : V) (d : D) (o : Opd) (Q : VK), Same F H → RepO G F H x d → f d = some o → Fin G F H o Q → r x H Q
section
variable {G : Gam} {pn : Option Addr} {F H : Hp} {X : Cx}
theorem Op2.ops {r : R2} {f : D → D → Option Opd} (h : Op2 G r f) : OpS G (R2L r) (two f) := by
  intro F H vs ds o Q e rs hf fin
  cases rs with
  | nil => cases hf
  | cons v d vs ds hr t =>
    cases t with
    | nil => cases hf
    | cons v2 d2 vs2 ds2 hr2 t2 =>
      cases t2 with
      | nil => exact ⟨_, _, rfl, h F H v v2 d d2 o Q e hr hr2 hf fin⟩
      | cons => cases hf
theorem Op1.ops {r : V → Hp → VK → Prop} {f : D → Option Opd} (h : Op1 G r f) : OpS G (R1L r) (one f) := by
  intro F H vs ds o Q e rs hf fin
  cases rs with
  | nil => cases hf
  | cons v d vs ds hr t =>
    cases t with
    | nil => exact ⟨_, rfl, h F H v d o Q e hr hf fin⟩
    | cons => cases hf
theorem OpR.imp {f : Value → Value → Sem Value} {r r' : R2} (h : OpR X f r) (i : ∀ x y H Q, r' x y H Q → r x y H Q) : OpR X f r' := fun pins s σ H x y v u Q I rx ry q => h pins s σ H x y v u Q I rx ry (i _ _ _ _ q)
theorem OpR.lst {f : Value → Value → Sem Value} {r : R2} (h : OpR X f r) : OpR X f fun x y H Q => R2L r [x, y] H Q := OpR.imp h fun x y H Q ⟨x', y', e, q⟩ => by cases e; exact q
theorem UnR.lst {f : Value → Sem Value} {r : V → Hp → VK → Prop} (h : UnR X f r) : UnR X f fun x H Q => R1L r [x] H Q := fun pins s σ H x v Q I rx q => h pins s σ H x v Q I rx (by obtain ⟨x', e, q⟩ := q; cases e; exact q)
theorem CallR.imp {f : Value} {r r' : List V → Hp → VK → Prop} (h : CallR X f r) (i : ∀ xs H Q, r' xs H Q → r xs H Q) : CallR X f r' := fun pins s σ H xs us Q I rx q => h pins s σ H xs us Q I rx (i _ _ _ q)
theorem CallR.or {f : Value} {r r' : List V → Hp → VK → Prop} (h : CallR X f r) (h' : CallR X f r') : CallR X f fun xs H Q => r xs H Q ∨ r' xs H Q := fun pins s σ H xs us Q I rx q => by
  rcases q with q | q
  · exact h pins s σ H xs us Q I rx q
  · exact h' pins s σ H xs us Q I rx q
/-- one after another -/
def orD {α β : Type} (f g : α → Option β) : α → Option β := fun a => match f a with
  | some o => some o
  | none => g a
def orD2 (f g : D → D → Option Opd) : D → D → Option Opd := fun d e => match f d e with
  | some o => some o
  | none => g d e
theorem Op2.or {r r' : R2} {f g : D → D → Option Opd} (h : Op2 G r f) (h' : Op2 G r' g) : Op2 G (fun x y H Q => r x y H Q ∨ r' x y H Q) (orD2 f g) := by
  intro F H x y d e o Q s rx ry hf fin
  unfold orD2 at hf
  split at hf
  · rename_i o' q
    cases hf
    exact .inl (h F H x y d e o Q s rx ry q fin)
  · exact .inr (h' F H x y d e o Q s rx ry hf fin)
theorem OpS.or {r r' : List V → Hp → VK → Prop} {f g : List D → Option Opd} (h : OpS G r f) (h' : OpS G r' g) : OpS G (fun xs H Q => r xs H Q ∨ r' xs H Q) (orD f g) := by
  intro F H vs ds o Q s rs hf fin
  unfold orD at hf
  split at hf
  · rename_i o' q
    cases hf
    exact .inl (h F H vs ds o Q s rs q fin)
  · exact .inr (h' F H vs ds o Q s rs hf fin)

/-! ### contents -/
theorem RepO.int {v : V} {i : Int} (h : RepO G F H v (.int i)) : v = .int i := by
  rcases h with h | ⟨_, _, _, _, e, _⟩
  · cases h; rfl
  · cases e
theorem RepO.bl {v : V} {b : Bool} (h : RepO G F H v (.bl b)) : v = .bl b := by
  rcases h with h | ⟨_, _, _, _, e, _⟩
  · cases h; rfl
  · cases e
theorem RepO.str {v : V} {x : Str} (h : RepO G F H v (.str x)) : v = .str x := by
  rcases h with h | ⟨_, _, _, _, e, _⟩
  · cases h; rfl
  · cases e
theorem RepO.non {v : V} (h : RepO G F H v .non) : v = .non := by
  rcases h with h | ⟨_, _, _, _, e, _⟩
  · cases h; rfl
  · cases e
theorem RepO.tup {v : V} {ds : List D} (h : RepO G F H v (.tup ds)) : ∃ a xs, v = .ref a ∧ SqT G.K F a xs ∧ Reps G F xs ds := by
  rcases h with h | ⟨_, _, _, _, e, _⟩
  · cases h with
    | tup a xs ds h r => exact ⟨a, xs, rfl, h, r⟩
  · cases e
theorem RepO.lst {v : V} {ds : List D} (s : Same F H) (h : RepO G F H v (.lst ds)) : ∃ a xs, v = .ref a ∧ H a = some (.lst xs) ∧ Reps G F xs ds := by
  rcases h with h | ⟨a, xs, ds', e1, e, e2, e3⟩
  · cases h with
    | lst a xs ds h r => exact ⟨a, xs, rfl, s _ _ h, r⟩
  · cases e; exact ⟨a, xs, e1, e2, e3⟩
theorem RepO.scr {v : V} {ds : List D} (h : RepO G F H v (.scr ds)) : ∃ a xs, v = .ref a ∧ SqL G.K F a xs ∧ Reps G F xs ds := by
  rcases h with h | ⟨_, _, _, _, e, _⟩
  · cases h with
    | scr a xs ds h r => exact ⟨a, xs, rfl, h, r⟩
  · cases e
theorem Reps.ints : ∀ {vs : List V} {ns : List Int}, Reps G F vs (ns.map D.int) → vs = ns.map V.int
  | _, [], h => h.inv_nil
  | _, n :: ns, h => by
    obtain ⟨v, ws, rfl, h1, h2⟩ := Reps.inv_cons h
    cases h1
    rw [Reps.ints h2]
    rfl
theorem Reps.bls : ∀ {vs : List V} {ns : List Bool}, Reps G F vs (ns.map D.bl) → vs = ns.map V.bl
  | _, [], h => h.inv_nil
  | _, n :: ns, h => by
    obtain ⟨v, ws, rfl, h1, h2⟩ := Reps.inv_cons h
    cases h1
    rw [Reps.bls h2]
    rfl
theorem Reps.strs : ∀ {vs : List V} {ns : List Str}, Reps G F vs (ns.map D.str) → vs = ns.map V.str
  | _, [], h => h.inv_nil
  | _, n :: ns, h => by
    obtain ⟨v, ws, rfl, h1, h2⟩ := Reps.inv_cons h
    cases h1
    rw [Reps.strs h2]
    rfl
theorem Reps.ofInts : ∀ ns : List Int, Reps G F (ns.map V.int) (ns.map D.int)
  | [] => .nil
  | n :: ns => .cons _ _ _ _ (.int n) (Reps.ofInts ns)
theorem Reps.ofStrs : ∀ ns : List Str, Reps G F (ns.map V.str) (ns.map D.str)
  | [] => .nil
  | n :: ns => .cons _ _ _ _ (.str n) (Reps.ofStrs ns)

/-! ### ends -/
variable {Q : VK}
theorem Fin.val {v : V} {d : D} (h : Fin G F H (.val d) Q) (s : Same F H) (r : Rep G F v d) : Q v H := h v F H (Same.refl F) (Same.refl H) s (NewO.refl H F) r
theorem same_both {p : Addr} {o : HO} (s : Same F H) : Same (upd F p o) (upd H p o) := fun b u e => by
  by_cases hb : b = p
  · subst hb; rw [upd_same] at e ⊢; exact e
  · rw [upd_ne hb] at e ⊢; exact s b u e
theorem Fin.tup {ds : List D} {xs : List V} {p : Addr} (h : Fin G F H (.val (.tup ds)) Q) (s : Same F H) (r : Reps G F xs ds) (hp : H p = none) : Q (.ref p) (upd H p (.tup xs)) := by
  have e : Same F (upd F p (.tup xs)) := same_upd (s.free hp)
  exact h (.ref p) (upd F p (.tup xs)) (upd H p (.tup xs)) e (same_upd hp) (same_both s) (NewO.upd hp) (.tup p xs ds (SqT.of upd_same) (r.mono e))
theorem Fin.lst {ds : List D} {xs : List V} {p : Addr} (h : Fin G F H (.fresh (.lst ds)) Q) (s : Same F H) (r : Reps G F xs ds) (hp : H p = none) : Q (.ref p) (upd H p (.lst xs)) := by
  refine h (.ref p) F (upd H p (.lst xs)) (Same.refl F) (same_upd hp) (fun b u e => ?_) (NewO.refl H F) ⟨p, rfl, .lst xs ds hp (s.free hp) upd_same r⟩
  rw [upd_ne (ne_of_none (s b u e) hp)]
  exact s b u e

/-! ### whole numbers -/
def pInt (C : Int → Int → Bool) (g : Int → Int → Int) : D → D → Option Opd
  | .int i, .int j => if C i j then some (.val (.int (g i j))) else none
  | _, _ => none
theorem op_pInt {P : Int → Int → Prop} {C : Int → Int → Bool} {g : Int → Int → Int} (hC : ∀ i j, C i j = true → P i j) : Op2 G (rI P fun i j => .int (g i j)) (pInt C g) := by
  intro F H x y d e o Q s rx ry hf fin
  unfold pInt at hf
  split at hf
  · rename_i i j
    split at hf
    · rename_i hc
      cases hf
      exact ⟨i, j, rx.int, ry.int, hC i j hc, fin.val s (.int _)⟩
    · cases hf
  · cases hf
def pIntB (g : Int → Int → Bool) : D → D → Option Opd
  | .int i, .int j => some (.val (.bl (g i j)))
  | _, _ => none
theorem op_pIntB {g : Int → Int → Bool} : Op2 G (rI0 fun i j => .bl (g i j)) (pIntB g) := by
  intro F H x y d e o Q s rx ry hf fin
  unfold pIntB at hf
  split at hf
  · rename_i i j
    cases hf
    exact ⟨i, j, rx.int, ry.int, fin.val s (.bl _)⟩
  · cases hf
def pIntU (g : Int → Int) : D → Option Opd
  | .int i => some (.val (.int (g i)))
  | _ => none
theorem op_pIntU {g : Int → Int} : Op1 G (rU fun i => .int (g i)) (pIntU g) := by
  intro F H x d o Q s rx hf fin
  unfold pIntU at hf
  split at hf
  · rename_i i
    cases hf
    exact ⟨i, rx.int, fin.val s (.int _)⟩
  · cases hf
theorem opr_rI0 {f : Value → Value → Sem Value} {g : Int → Int → V} (h : OpR X f (rI0 g)) : OpR X f (rI (fun _ _ => True) g) := OpR.imp h fun x y H Q ⟨i, j, a, b, _, q⟩ => ⟨i, j, a, b, q⟩
/-- + of texts, tuples, lists -/
def pAddS : D → D → Option Opd
  | .str x, .str y => if x.length + y.length ≤ sizeLine then some (.val (.str (x ++ y))) else none
  | _, _ => none
theorem op_pAddS : Op2 G (fun x y H Q => ∃ i j, x = .str i ∧ y = .str j ∧ i.length + j.length ≤ sizeLine ∧ Q (.str (i ++ j)) H) pAddS := by
  intro F H x y d e o Q s rx ry hf fin
  unfold pAddS at hf
  split at hf
  · rename_i i j
    split at hf
    · rename_i hc
      cases hf
      exact ⟨i, j, rx.str, ry.str, hc, fin.val s (.str _)⟩
    · cases hf
  · cases hf
def pAddT : D → D → Option Opd
  | .tup xs, .tup ys => if xs.length + ys.length ≤ sizeLine then some (.val (.tup (xs ++ ys))) else none
  | _, _ => none
theorem op_pAddT : Op2 G (rCatA G.K) pAddT := by
  intro F H x y d e o Q s rx ry hf fin
  unfold pAddT at hf
  split at hf
  · rename_i xs ys
    split at hf
    · rename_i hc
      cases hf
      obtain ⟨a, vs, rfl, h1, r1⟩ := rx.tup
      obtain ⟨b, ws, rfl, h2, r2⟩ := ry.tup
      refine ⟨a, b, vs, ws, rfl, rfl, sqt_mono s h1, sqt_mono s h2, by rw [r1.length, r2.length]; exact hc, fun z => ?_, fun z1 z2 => ?_, fun _ _ p hp => fin.tup s (r1.append r2) hp⟩
      · subst z
        have : xs = [] := by have := r1.length; cases xs <;> simp_all
        subst this
        exact fin.val s (.tup b ws _ h2 r2)
      · subst z2
        have : ys = [] := by have := r2.length; cases ys <;> simp_all
        subst this
        exact fin.val s (.tup a vs _ h1 (by rw [List.append_nil]; exact r1))
    · cases hf
  · cases hf
def pAddL : D → D → Option Opd
  | .lst xs, .lst ys => if xs.length + ys.length ≤ sizeLine then some (.fresh (.lst (xs ++ ys))) else none
  | _, _ => none
theorem op_pAddL : Op2 G rCat pAddL := by
  intro F H x y d e o Q s rx ry hf fin
  unfold pAddL at hf
  split at hf
  · rename_i xs ys
    split at hf
    · rename_i hc
      cases hf
      obtain ⟨a, vs, rfl, h1, r1⟩ := rx.lst s
      obtain ⟨b, ws, rfl, h2, r2⟩ := ry.lst s
      exact ⟨a, b, vs, ws, rfl, rfl, h1, h2, by rw [r1.length, r2.length]; exact hc, fun p hp => fin.lst s (r1.append r2) hp⟩
    · cases hf
  · cases hf
theorem Reps.rep {vs : List V} {ds : List D} (r : Reps G F vs ds) : ∀ n : Nat, Reps G F (List.replicate n vs).flatten (List.replicate n ds).flatten
  | 0 => .nil
  | n + 1 => by
    rw [List.replicate_succ, List.replicate_succ, List.flatten_cons, List.flatten_cons]
    exact r.append (Reps.rep r n)
def pMulL : D → D → Option Opd
  | .lst xs, .int k => if -(2 ^ 63) ≤ k ∧ k < 2 ^ 63 ∧ xs.length * k.toNat ≤ sizeLine then some (.fresh (.lst (List.replicate k.toNat xs).flatten)) else none
  | _, _ => none
theorem op_pMulL : Op2 G rRep pMulL := by
  intro F H x y d e o Q s rx ry hf fin
  unfold pMulL at hf
  split at hf
  · rename_i xs k
    split at hf
    · rename_i hc
      cases hf
      obtain ⟨a, vs, rfl, h1, r1⟩ := rx.lst s
      exact ⟨a, k, vs, rfl, ry.int, h1, hc.1, hc.2.1, by rw [r1.length]; exact hc.2.2, fun p hp => fin.lst s (r1.rep _) hp⟩
    · cases hf
  · cases hf
def pMulT : D → D → Option Opd
  | .tup xs, .int k => if xs.isEmpty = false ∧ 2 ≤ k ∧ k ≤ 1000 ∧ xs.length ≤ 1000 then some (.val (.tup (List.replicate k.toNat xs).flatten)) else none
  | _, _ => none
theorem op_pMulT : Op2 G (rRepT G.K) pMulT := by
  intro F H x y d e o Q s rx ry hf fin
  unfold pMulT at hf
  split at hf
  · rename_i xs k
    split at hf
    · rename_i hc
      cases hf
      obtain ⟨a, vs, rfl, h1, r1⟩ := rx.tup
      refine ⟨a, k, vs, rfl, ry.int, sqt_mono s h1, ?_, hc.2.1, hc.2.2.1, by rw [r1.length]; exact hc.2.2.2, fun p hp => fin.tup s (r1.rep _) hp⟩
      rintro rfl
      have := r1.length
      cases xs <;> simp_all
    · cases hf
  · cases hf

/-! ### == -/
mutual
def toP : D → Option PyData
  | .non => some .none
  | .bl b => some (.bool b)
  | .int i => some (.int i)
  | .str x => some (.str x)
  | .tup xs => (toPs xs).map .tuple
  | .lst xs => (toPs xs).map .list
  | .scr xs => (toPs xs).map .list
  | .fn _ => none
  | .obj _ _ => none
  | .dct _ _ => none
def toPs : List D → Option (List PyData)
  | [] => some []
  | d :: ds => match toP d, toPs ds with
    | some p, some ps => some (p :: ps)
    | _, _ => none
end
mutual
theorem Rep.dp (s : Same F H) : ∀ {v : V} {d : D} {p : PyData}, Rep G F v d → toP d = some p → Dp G.K H v p
  | _, _, _, .non, e => by cases e; exact .non
  | _, _, _, .bl b, e => by cases e; exact .bl b
  | _, _, _, .int i, e => by cases e; exact .int i
  | _, _, _, .str x, e => by cases e; exact .str x
  | _, _, _, .fn j a h, e => by cases e
  | _, _, _, .tup a xs ds h r, e => by
    have e : (toPs ds).map PyData.tuple = some _ := e
    cases q : toPs ds with
    | none => rw [q] at e; cases e
    | some ps => rw [q] at e; cases e; exact .tup (sqt_mono s h) (Reps.dp s r q)
  | _, _, _, .lst a xs ds h r, e => by
    have e : (toPs ds).map PyData.list = some _ := e
    cases q : toPs ds with
    | none => rw [q] at e; cases e
    | some ps => rw [q] at e; cases e; exact .lst (SqL.of (s _ _ h)) (Reps.dp s r q)
  | _, _, _, .scr a xs ds h r, e => by
    have e : (toPs ds).map PyData.list = some _ := e
    cases q : toPs ds with
    | none => rw [q] at e; cases e
    | some ps => rw [q] at e; cases e; exact .lst (s.seq h) (Reps.dp s r q)
  | _, _, _, .dct a kvs ks vs h rk rv, e => by cases e
  | _, _, _, .obj a dx C c vs ds hc h r, e => by cases e
theorem Reps.dp (s : Same F H) : ∀ {vs : List V} {ds : List D} {ps : List PyData}, Reps G F vs ds → toPs ds = some ps → DpAll G.K H vs ps
  | _, _, _, .nil, e => by cases e; exact .nil
  | _, _, _, .cons v d vs ds h t, e => by
    unfold toPs at e
    cases q1 : toP d with
    | none => rw [q1] at e; cases e
    | some p =>
      cases q2 : toPs ds with
      | none => rw [q1, q2] at e; cases e
      | some ps => rw [q1, q2] at e; cases e; exact .cons (Rep.dp s h q1) (Reps.dp s t q2)
end
theorem RepO.dp (s : Same F H) {v : V} {d : D} {p : PyData} (r : RepO G F H v d) (e : toP d = some p) : Dp G.K H v p := by
  rcases r with r | ⟨a, xs, ds, rfl, rfl, h, rr⟩
  · exact r.dp s e
  · have e : (toPs ds).map PyData.list = some _ := e
    cases q : toPs ds with
    | none => rw [q] at e; cases e
    | some ps => rw [q] at e; cases e; exact .lst (SqL.of h) (Reps.dp s rr q)
def eqD (d e : D) : Option Bool := match toP d, toP e with
  | some p, some q => if SeqAt.shaped p && SeqAt.shaped q then some (PyData.eqv p q) else none
  | _, _ => none
def pEq (neg : Bool) : D → D → Option Opd := fun d e => (eqD d e).map fun b => .val (.bl (if neg then !b else b))
theorem eqD_sound {F H : Hp} {x y : V} {d e : D} {b : Bool} (s : Same F H) (rx : RepO G F H x d) (ry : RepO G F H y e) (h : eqD d e = some b) :
    ∃ p q, Dp G.K H x p ∧ Dp G.K H y q ∧ SeqAt.shaped p = true ∧ SeqAt.shaped q = true ∧ PyData.eqv p q = b := by
  unfold eqD at h
  split at h
  · rename_i p q h1 h2
    split at h
    · rename_i hc
      rw [Bool.and_eq_true] at hc
      cases h
      exact ⟨p, q, rx.dp s h1, ry.dp s h2, hc.1, hc.2, rfl⟩
    · cases h
  · cases h
theorem op_pEq : Op2 G (rEqD G.K) (pEq false) := by
  intro F H x y d e o Q s rx ry hf fin
  unfold pEq at hf
  cases h : eqD d e with
  | none => rw [h] at hf; cases hf
  | some b =>
    rw [h] at hf
    cases hf
    obtain ⟨p, q, h1, h2, h3, h4, h5⟩ := eqD_sound s rx ry h
    refine ⟨p, q, h1, h2, h3, h4, ?_⟩
    rw [h5]
    exact fin.val s (.bl _)
theorem op_pNe : Op2 G (rNeD G.K) (pEq true) := by
  intro F H x y d e o Q s rx ry hf fin
  unfold pEq at hf
  cases h : eqD d e with
  | none => rw [h] at hf; cases hf
  | some b =>
    rw [h] at hf
    cases hf
    obtain ⟨p, q, h1, h2, h3, h4, h5⟩ := eqD_sound s rx ry h
    refine ⟨p, q, h1, h2, h3, h4, ?_⟩
    rw [h5]
    exact fin.val s (.bl _)
/-- is None, is not None -/
def isNonD : D → Bool
  | .non => true
  | _ => false
def pIsN (neg : Bool) : D → D → Option Opd
  | d, .non => some (.val (.bl (if neg then !isNonD d else isNonD d)))
  | _, _ => none
theorem Rep.isNon {v : V} {d : D} (r : RepO G F H v d) : decide (v = V.non) = isNonD d := by
  rcases r with r | ⟨a, xs, ds, rfl, rfl, h, rr⟩
  · cases r <;> rfl
  · rfl
theorem op_pIsN : Op2 G (fun x y H Q => y = .non ∧ Q (.bl (decide (x = .non))) H) (pIsN false) := by
  intro F H x y d e o Q s rx ry hf fin
  unfold pIsN at hf
  split at hf
  · cases hf
    refine ⟨ry.non, ?_⟩
    rw [Rep.isNon rx]
    exact fin.val s (.bl _)
  · cases hf
theorem op_pNotN : Op2 G (fun x y H Q => y = .non ∧ Q (.bl (!decide (x = .non))) H) (pIsN true) := by
  intro F H x y d e o Q s rx ry hf fin
  unfold pIsN at hf
  split at hf
  · cases hf
    refine ⟨ry.non, ?_⟩
    rw [Rep.isNon rx]
    exact fin.val s (.bl _)
  · cases hf
/-- is, of bools -/
def pIsB (neg : Bool) : D → D → Option Opd
  | .bl a, .bl b => some (.val (.bl (if neg then !decide (a = b) else decide (a = b))))
  | _, _ => none
theorem op_pIsB : Op2 G rIsB (pIsB false) := by
  intro F H x y d e o Q s rx ry hf fin
  unfold pIsB at hf
  split at hf
  · cases hf
    exact ⟨_, _, rx.bl, ry.bl, fin.val s (.bl _)⟩
  · cases hf
theorem op_pNotB : Op2 G rNotB (pIsB true) := by
  intro F H x y d e o Q s rx ry hf fin
  unfold pIsB at hf
  split at hf
  · cases hf
    exact ⟨_, _, rx.bl, ry.bl, fin.val s (.bl _)⟩
  · cases hf
/-- in a list of data -/
def pInL (neg : Bool) : D → D → Option Opd
  | d, .lst ys => match toP d, toPs ys with
    | some p, some ps => if SeqAt.shaped p && SeqAt.shaped (.list ps) then some (.val (.bl (if neg then !ps.any (fun z => PyData.eqv z p) else ps.any (fun z => PyData.eqv z p)))) else none
    | _, _ => none
  | _, _ => none
theorem pInL_sound {neg : Bool} {F H : Hp} {x y : V} {d e : D} {o : Opd} (s : Same F H) (rx : RepO G F H x d) (ry : RepO G F H y e) (h : pInL neg d e = some o) :
    ∃ p ps, Dp G.K H x p ∧ Dp G.K H y (.list ps) ∧ SeqAt.shaped p = true ∧ SeqAt.shaped (.list ps) = true ∧ o = .val (.bl (if neg then !ps.any (fun z => PyData.eqv z p) else ps.any (fun z => PyData.eqv z p))) := by
  unfold pInL at h
  split at h
  · rename_i ys
    split at h
    · rename_i p ps h1 h2
      split at h
      · rename_i hc
        rw [Bool.and_eq_true] at hc
        cases h
        exact ⟨p, ps, rx.dp s h1, ry.dp s (by show (toPs ys).map PyData.list = _; rw [h2]; rfl), hc.1, hc.2, rfl⟩
      · cases h
    · cases h
  · cases h
theorem op_pInL : Op2 G (rInD G.K) (pInL false) := by
  intro F H x y d e o Q s rx ry hf fin
  obtain ⟨p, ps, h1, h2, h3, h4, rfl⟩ := pInL_sound s rx ry hf
  exact ⟨p, ps, h1, h2, h3, h4, fin.val s (.bl _)⟩
theorem op_pNotInL : Op2 G (rNotInD G.K) (pInL true) := by
  intro F H x y d e o Q s rx ry hf fin
  obtain ⟨p, ps, h1, h2, h3, h4, rfl⟩ := pInL_sound s rx ry hf
  exact ⟨p, ps, h1, h2, h3, h4, fin.val s (.bl _)⟩
/-- in a tuple of flat values -/
def flatP : D → Option V
  | .non => some .non
  | .bl b => some (.bl b)
  | .int i => some (.int i)
  | .str x => some (.str x)
  | _ => none
def flatPs : List D → Option (List V)
  | [] => some []
  | d :: ds => match flatP d, flatPs ds with
    | some v, some vs => some (v :: vs)
    | _, _ => none
theorem flatP_ok {v w : V} {d : D} (r : RepO G F H v d) (h : flatP d = some w) : v = w ∧ flatV v = true := by
  rcases r with r | ⟨a, xs, ds, rfl, rfl, hh, rr⟩
  · cases r <;> cases h <;> exact ⟨rfl, rfl⟩
  · cases h
theorem flatPs_ok : ∀ {vs ws : List V} {ds : List D}, Reps G F vs ds → flatPs ds = some ws → vs = ws ∧ vs.all flatV = true
  | _, _, _, .nil, h => by cases h; exact ⟨rfl, rfl⟩
  | _, _, _, .cons v d vs ds hr t, h => by
    unfold flatPs at h
    split at h
    · rename_i w ws h1 h2
      cases h
      obtain ⟨a1, a2⟩ := flatP_ok (H := F) (.inl hr) h1
      obtain ⟨b1, b2⟩ := flatPs_ok t h2
      subst a1 b1
      refine ⟨rfl, ?_⟩
      rw [List.all_cons, a2, b2]
      rfl
    · cases h
def pInT (neg : Bool) : D → D → Option Opd
  | d, .tup ys => match flatP d, flatPs ys with
    | some v, some vs => some (.val (.bl (if neg then !inV v vs else inV v vs)))
    | _, _ => none
  | _, _ => none
theorem op_pInT {neg : Bool} : Op2 G (rIn G.K neg) (pInT neg) := by
  intro F H x y d e o Q s rx ry hf fin
  unfold pInT at hf
  split at hf
  · rename_i ys
    split at hf
    · rename_i w ws h1 h2
      cases hf
      obtain ⟨a, vs, rfl, ht, r⟩ := ry.tup
      obtain ⟨a1, a2⟩ := flatP_ok rx h1
      obtain ⟨b1, b2⟩ := flatPs_ok r h2
      subst a1 b1
      exact ⟨a, vs, rfl, .inr (sqt_mono s ht), a2, b2, fin.val s (.bl _)⟩
    · cases hf
  · cases hf

/-! ### the operators -/
def oAdd : List D → Option Opd := two (orD2 (pInt (fun _ _ => true) fun i j => i + j) (orD2 pAddS (orD2 pAddT pAddL)))
def oSub : List D → Option Opd := two (pInt (fun _ _ => true) fun i j => i - j)
def cMul (i j : Int) : Bool := decide (i.natAbs.log2 + j.natAbs.log2 < 1000000)
def oMul : List D → Option Opd := two (orD2 (pInt cMul fun i j => i * j) (orD2 pMulL pMulT))
def cDiv (_ j : Int) : Bool := decide (0 < j) && decide (j.natAbs.log2 < 9000)
def oDiv : List D → Option Opd := two (pInt cDiv fun i j => i / j)
def oMod : List D → Option Opd := two (pInt (fun _ j => decide (0 < j)) fun i j => i % j)
def cPow (i j : Int) : Bool := decide (0 ≤ j) && decide ((Builtin.Int.intBits i : Int) * j ≤ 2 ^ 27)
def oPow : List D → Option Opd := two (pInt cPow fun i j => i ^ j.toNat)
def cShl (i j : Int) : Bool := decide (0 ≤ j) && decide ((Builtin.Int.intBits i : Int) + j ≤ 2 ^ 27)
def oShl : List D → Option Opd := two (pInt cShl fun i j => i * 2 ^ j.toNat)
def oShr : List D → Option Opd := two (pInt (fun _ j => decide (0 ≤ j)) fun i j => i / 2 ^ j.toNat)
def oAnd : List D → Option Opd := two (pInt (fun _ _ => true) fun i j => Builtin.bitAnd i j)
def oOr : List D → Option Opd := two (pInt (fun _ _ => true) fun i j => Builtin.bitOr i j)
def oXor : List D → Option Opd := two (pInt (fun _ _ => true) fun i j => Builtin.bitXor i j)
def oNeg : List D → Option Opd := one (pIntU fun i => -i)
def binF : Operator → Option (List D → Option Opd)
  | .Add => some oAdd
  | .Sub => some oSub
  | .Mult => some oMul
  | .FloorDiv => some oDiv
  | .Mod => some oMod
  | .Pow => some oPow
  | .LShift => some oShl
  | .RShift => some oShr
  | .BitAnd => some oAnd
  | .BitOr => some oOr
  | .BitXor => some oXor
  | _ => none
theorem ok_pow : OpR X (binaryOp .Pow) (rI (fun i j => 0 ≤ j ∧ (Builtin.Int.intBits i : Int) * j ≤ 2 ^ 27) fun i j => .int (i ^ j.toNat)) := opI fun _ _ _ _ _ _ _ hc q => pow_int hc.1 hc.2 q
theorem bin_ok {op : Operator} {f : List D → Option Opd} (h : binF op = some f) (hK : X.K = G.K) : ∃ r, OpR X (binaryOp op) (fun x y H Q => R2L r [x, y] H Q) ∧ OpS G (R2L r) f := by
  have T : ∀ i j : Int, true = true → True := fun _ _ _ => True.intro
  cases op with
  | Add => cases h; exact ⟨_, OpR.lst (OpR.or (opr_rI0 op_add) (OpR.or op_add_str (OpR.or op_catA op_cat))), Op2.ops (Op2.or (op_pInt T) (Op2.or op_pAddS (Op2.or (by rw [hK]; exact op_pAddT) op_pAddL)))⟩
  | Sub => cases h; exact ⟨_, OpR.lst (opr_rI0 op_sub), Op2.ops (op_pInt T)⟩
  | Mult => cases h; exact ⟨_, OpR.lst (OpR.or op_mulW (OpR.or op_rep op_repT)), Op2.ops (Op2.or (op_pInt fun i j h => (show i.natAbs.log2 + j.natAbs.log2 < 1000000 from of_decide_eq_true h)) (Op2.or op_pMulL (by rw [hK]; exact op_pMulT)))⟩
  | FloorDiv => cases h; exact ⟨_, OpR.lst op_fdivW, Op2.ops (op_pInt fun i j h => by unfold cDiv at h; rw [Bool.and_eq_true] at h; exact ⟨of_decide_eq_true h.1, of_decide_eq_true h.2⟩)⟩
  | Mod => cases h; exact ⟨_, OpR.lst op_mod, Op2.ops (op_pInt fun i j h => of_decide_eq_true h)⟩
  | Pow => cases h; exact ⟨_, OpR.lst ok_pow, Op2.ops (op_pInt fun i j h => by unfold cPow at h; rw [Bool.and_eq_true] at h; exact ⟨of_decide_eq_true h.1, of_decide_eq_true h.2⟩)⟩
  | LShift => cases h; exact ⟨_, OpR.lst op_shlW, Op2.ops (op_pInt fun i j h => by unfold cShl at h; rw [Bool.and_eq_true] at h; exact ⟨of_decide_eq_true h.1, of_decide_eq_true h.2⟩)⟩
  | RShift => cases h; exact ⟨_, OpR.lst op_shr, Op2.ops (op_pInt fun i j h => of_decide_eq_true h)⟩
  | BitAnd => cases h; exact ⟨_, OpR.lst (opr_rI0 op_and), Op2.ops (op_pInt T)⟩
  | BitOr => cases h; exact ⟨_, OpR.lst (opr_rI0 op_or), Op2.ops (op_pInt T)⟩
  | BitXor => cases h; exact ⟨_, OpR.lst (opr_rI0 op_xor), Op2.ops (op_pInt T)⟩
  | _ => cases h
/-- < of texts -/
def pLtS : D → D → Option Opd
  | .str x, .str y => some (.val (.bl (decide (x.cps.toList < y.cps.toList))))
  | _, _ => none
theorem op_pLtS : Op2 G (fun x y H Q => ∃ i j, x = .str i ∧ y = .str j ∧ Q (.bl (decide (i.cps.toList < j.cps.toList))) H) pLtS := by
  intro F H x y d e o Q s rx ry hf fin
  unfold pLtS at hf
  split at hf
  · cases hf
    exact ⟨_, _, rx.str, ry.str, fin.val s (.bl _)⟩
  · cases hf
/-- < of tuples of whole numbers -/
def intsD : List D → Option (List Int)
  | [] => some []
  | .int i :: ds => (intsD ds).map (i :: ·)
  | _ => none
theorem intsD_ok : ∀ {ds : List D} {ns : List Int}, intsD ds = some ns → ds = ns.map D.int
  | [], _, h => by cases h; rfl
  | .int i :: ds, _, h => by
    have h : (intsD ds).map (i :: ·) = some _ := h
    cases q : intsD ds with
    | none => rw [q] at h; cases h
    | some ms => rw [q] at h; cases h; rw [intsD_ok q]; rfl
  | .non :: _, _, h => by cases h
  | .bl _ :: _, _, h => by cases h
  | .str _ :: _, _, h => by cases h
  | .fn _ :: _, _, h => by cases h
  | .tup _ :: _, _, h => by cases h
  | .lst _ :: _, _, h => by cases h
  | .obj _ _ :: _, _, h => by cases h
  | .dct _ _ :: _, _, h => by cases h
  | .scr _ :: _, _, h => by cases h
def pLtT : D → D → Option Opd
  | .tup xs, .tup ys => match intsD xs, intsD ys with
    | some ns, some ms => some (.val (.bl (HT.lexLt ns ms)))
    | _, _ => none
  | _, _ => none
theorem op_pLtT : Op2 G (rLtT G.K) pLtT := by
  intro F H x y d e o Q s rx ry hf fin
  unfold pLtT at hf
  split at hf
  · rename_i xs ys
    split at hf
    · rename_i ns ms h1 h2
      cases hf
      obtain ⟨a, vs, rfl, t1, r1⟩ := rx.tup
      obtain ⟨b, ws, rfl, t2, r2⟩ := ry.tup
      rw [intsD_ok h1] at r1
      rw [intsD_ok h2] at r2
      have e1 := r1.ints
      have e2 := r2.ints
      subst e1 e2
      exact ⟨a, b, ns, ms, rfl, rfl, sqt_mono s t1, sqt_mono s t2, fin.val s (.bl _)⟩
    · cases hf
  · cases hf
def oEq : List D → Option Opd := two (pEq false)
def oNe : List D → Option Opd := two (pEq true)
def oLt : List D → Option Opd := two (orD2 (pIntB fun i j => decide (i < j)) (orD2 pLtS pLtT))
def oLe : List D → Option Opd := two (pIntB fun i j => decide (i ≤ j))
def oGt : List D → Option Opd := two (pIntB fun i j => decide (j < i))
def oGe : List D → Option Opd := two (pIntB fun i j => decide (j ≤ i))
def oIs : List D → Option Opd := two (orD2 (pIsN false) (pIsB false))
def oIsNot : List D → Option Opd := two (orD2 (pIsN true) (pIsB true))
def oIn : List D → Option Opd := two (orD2 (pInT false) (pInL false))
def oNotIn : List D → Option Opd := two (orD2 (pInT true) (pInL true))
def cmpF : CmpOp → List D → Option Opd
  | .Eq => oEq
  | .NotEq => oNe
  | .Lt => oLt
  | .LtE => oLe
  | .Gt => oGt
  | .GtE => oGe
  | .Is => oIs
  | .IsNot => oIsNot
  | .In => oIn
  | .NotIn => oNotIn
theorem cmp_ok {k : Nat} (op : CmpOp) (hr : Room k X.A) (hK : X.K = G.K) : ∃ r, OpR X (compareOp op) r ∧ ∃ f2, cmpF op = two f2 ∧ Op2 G r f2 := by
  have u1 : X.A.units + 64 < cLine := hr.units
  have u2 : X.A.units + 65 < cLine := by have := hr.un; omega
  cases op with
  | Eq => exact ⟨_, op_eqD u1, _, rfl, by rw [hK]; exact op_pEq⟩
  | NotEq => exact ⟨_, op_neD u1, _, rfl, by rw [hK]; exact op_pNe⟩
  | Lt => exact ⟨_, OpR.or op_lt (OpR.or op_lt_str (op_ltT hr.units0)), _, rfl, Op2.or op_pIntB (Op2.or op_pLtS (by rw [hK]; exact op_pLtT))⟩
  | LtE => exact ⟨_, op_le, _, rfl, op_pIntB⟩
  | Gt => exact ⟨_, op_gt, _, rfl, op_pIntB⟩
  | GtE => exact ⟨_, op_ge, _, rfl, op_pIntB⟩
  | Is => exact ⟨_, OpR.or op_isN op_isBl, _, rfl, Op2.or op_pIsN op_pIsB⟩
  | IsNot => exact ⟨_, OpR.or op_notN op_notBl, _, rfl, Op2.or op_pNotN op_pNotB⟩
  | In => exact ⟨_, OpR.or op_in_seq (op_inD u2), _, rfl, by rw [hK]; exact Op2.or op_pInT op_pInL⟩
  | NotIn => exact ⟨_, OpR.or op_notIn_seq (op_notInD u2), _, rfl, by rw [hK]; exact Op2.or op_pInT op_pNotInL⟩
theorem un_ok : UnR X (unaryOp .USub) (fun x H Q => R1L (rU fun i => .int (-i)) [x] H Q) ∧ OpS G (R1L (rU fun i => .int (-i))) oNeg := ⟨UnR.lst un_neg, Op1.ops op_pIntU⟩
end
end Ev
/-! Ev, part D: freezing, displays, subscripts, slices, calls of built-ins. -/
namespace Ev
open PySem PySem.Spec PyProof.Rows L2

/-! ### freezing -/
def frz (r : Rho) : Opd → Option (D × Rho)
  | .val d => some (d, r)
  | .fresh d => some (d, r)
  | .slot i => match r[i]? with
    | some (.val d) => some (d, r)
    | some (.own d) => some (d, r.set i (.val d))
    | _ => none
def frzs (r : Rho) : List Opd → Option (List D × Rho)
  | [] => some ([], r)
  | o :: os => match frz r o with
    | some (d, r1) => (match frzs r1 os with
      | some (ds, r2) => some (d :: ds, r2)
      | none => none)
    | none => none
/-- a display: its items are frozen -/
def mColl (f : List D → Option Opd) (ma : MA) : M := fun r => bindR (ma r) fun os r1 => match frzs r1 os with
  | some (ds, r2) => opt (f ds) r2
  | none => .stuck
def fTup (ds : List D) : Option Opd := if ds.length ≤ sizeLine then some (.val (.tup ds)) else none
def fLst (ds : List D) : Option Opd := if ds.length ≤ sizeLine then some (.fresh (.lst ds)) else none
def mTup (ma : MA) : M := mColl fTup ma
def mLst (ma : MA) : M := mColl fLst ma
/-- the items of a list, of a tuple -/
def itemsD : D → Option (List D)
  | .lst xs => some xs
  | .tup xs => some xs
  | .scr xs => some xs
  | _ => none
def mStar (m : M) (ms : MA) : MA := fun r => bindR (m r) fun o r1 => match (peek r1 o).bind itemsD with
  | some ds => bindR (ms r1) fun os r2 => .ok (ds.map Opd.val ++ os) r2
  | none => .stuck
def mCons (m : M) (ms : MA) : MA := fun r => bindR (m r) fun o r1 => bindR (ms r1) fun os r2 => .ok (noFresh o :: os) r2

section
variable {G : Gam} {pn : Option Addr} {W : WX} {B F F' H H' : Hp} {σ : L2.St} {r : Rho}
theorem set_self {r : Rho} {i : Nat} {x : Sl} (h : i < r.length) : (r.set i x)[i]? = some x := List.getElem?_set_self h
theorem set_ne {r : Rho} {i j : Nat} {x : Sl} (h : i ≠ j) : (r.set i x)[j]? = r[j]? := List.getElem?_set_ne h
theorem lt_of_get {α : Type} {r : List α} {i : Nat} {x : α} (h : r[i]? = some x) : i < r.length := (List.getElem?_eq_some_iff.mp h).1
theorem Sta.frz (s : Sta G pn B F H σ r) {v : V} {o : Opd} {d : D} {r' : Rho} (h : OpdR G B F H σ r v o) (e : Ev.frz r o = some (d, r')) :
    ∃ F', Same F F' ∧ NewO B F F' ∧ Sta G pn B F' H σ r' ∧ Rep G F' v d := by
  cases o with
  | val x => cases e; exact ⟨F, Same.refl F, NewO.refl B F, s, h⟩
  | fresh x =>
    cases e
    obtain ⟨F', e1, n1, s1, h1⟩ := s.settle h
    exact ⟨F', e1, n1, s1, h1⟩
  | slot i =>
    have e : (match r[i]? with
      | some (.val d) => some (d, r)
      | some (.own d) => some (d, r.set i (.val d))
      | _ => none) = some (d, r') := e
    have h : σ[i]? = some (some v) := h
    split at e
    · rename_i x q
      cases e
      obtain ⟨w, h1, h2⟩ := s.val i d q
      rw [h1] at h; cases h
      exact ⟨F, Same.refl F, NewO.refl B F, s, h2⟩
    · rename_i x q
      cases e
      obtain ⟨a, h1, o⟩ := s.own i d q
      rw [h1] at h; cases h
      cases o with
      | lst xs ds hb hf hh rr =>
        have e1 : Same F (upd F a (.lst xs)) := same_upd hf
        have hi := lt_of_get q
        refine ⟨upd F a (.lst xs), e1, NewO.upd hb, ⟨s.bH, fun b u e => ?_, s.kp.updF rfl, by rw [List.length_set]; exact s.len, fun j d h => ?_, fun j d h => ?_, fun j k d e c hjk h2 h3 h4 h5 => ?_, s.pin⟩, .lst a xs ds upd_same (rr.mono e1)⟩
        · by_cases hba : b = a
          · subst hba; rw [upd_same] at e; cases e; exact hh
          · rw [upd_ne hba] at e; exact s.fH b u e
        · by_cases hij : i = j
          · subst hij
            rw [set_self hi] at h
            cases h
            exact ⟨.ref a, h1, .lst a xs ds upd_same (rr.mono e1)⟩
          · rw [set_ne hij] at h
            obtain ⟨v, a1, a2⟩ := s.val j d h
            exact ⟨v, a1, a2.mono e1⟩
        · by_cases hij : i = j
          · subst hij
            rw [set_self hi] at h
            cases h
          · rw [set_ne hij] at h
            obtain ⟨c, a1, a2⟩ := s.own j d h
            have hca : c ≠ a := fun z => s.dis i j _ _ a hij q h h1 (by rw [← z]; exact a1)
            exact ⟨c, a1, a2.move a2.nb (by rw [upd_ne hca]; exact a2.nf) rfl e1⟩
        · by_cases hij : i = j
          · subst hij; rw [set_self hi] at h2; cases h2
          · by_cases hik : i = k
            · subst hik; rw [set_self hi] at h3; cases h3
            · rw [set_ne hij] at h2
              rw [set_ne hik] at h3
              exact s.dis j k d e c hjk h2 h3 h4 h5
    · cases e
theorem frz_other {r r' : Rho} {o : Opd} {d : D} (e : Ev.frz r o = some (d, r')) : r'.length = r.length := by
  cases o with
  | val x => cases e; rfl
  | fresh x => cases e; rfl
  | slot i =>
    have e : (match r[i]? with
      | some (.val d) => some (d, r)
      | some (.own d) => some (d, r.set i (.val d))
      | _ => none) = some (d, r') := e
    split at e
    · cases e; rfl
    · cases e; exact List.length_set
    · cases e
/-- no operand of a list of arguments is fresh -/
def plainO : Opd → Bool
  | .fresh _ => false
  | _ => true
theorem noFresh_plain (o : Opd) : plainO (noFresh o) = true := by cases o <;> rfl
theorem OpdR.keepP {v : V} {o : Opd} {r' : Rho} (p : plainO o = true) (h : OpdR G B F H σ r v o) (e : Same F F') : OpdR G B F' H' σ r' v o := by
  cases o with
  | val d => exact Rep.mono e h
  | slot i => exact h
  | fresh d => cases p
theorem OpdRs.keepP {r' : Rho} (e : Same F F') : ∀ {vs : List V} {os : List Opd}, OpdRs G B F H σ r vs os → os.all plainO = true → OpdRs G B F' H' σ r' vs os
  | _, _, .nil, _ => .nil
  | _, _, .cons v o vs os h t, p => by
    rw [List.all_cons, Bool.and_eq_true] at p
    exact .cons _ _ _ _ (h.keepP p.1 e) (OpdRs.keepP e t p.2)
theorem Sta.frzs : ∀ {os : List Opd} {vs : List V} {F : Hp} {r r' : Rho} {ds : List D}, Sta G pn B F H σ r → os.all plainO = true → OpdRs G B F H σ r vs os → Ev.frzs r os = some (ds, r') →
    ∃ F', Same F F' ∧ NewO B F F' ∧ Sta G pn B F' H σ r' ∧ Reps G F' vs ds
  | [], _, F, r, r', ds, s, _, .nil, e => by cases e; exact ⟨F, Same.refl F, NewO.refl B F, s, .nil⟩
  | o :: os, _, F, r, r', ds, s, p, .cons v _ vs _ h t, e => by
    rw [List.all_cons, Bool.and_eq_true] at p
    unfold Ev.frzs at e
    split at e
    · rename_i d r1 h1
      split at e
      · rename_i ds2 r2 h2
        cases e
        obtain ⟨F1, e1, n1, s1, q1⟩ := s.frz h h1
        obtain ⟨F2, e2, n2, s2, q2⟩ := Sta.frzs s1 p.2 (OpdRs.keepP e1 t p.2) h2
        exact ⟨F2, e1.trans e2, n1.trans n2, s2, .cons _ _ _ _ (q1.mono e2) q2⟩
      · cases e
    · cases e

/-- argument lists that hand on no fresh operand -/
def PlainA (ma : MA) : Prop := ∀ r os r', ma r = .ok os r' → os.all plainO = true
theorem PlainA.nil : PlainA (mArgs []) := fun r os r' h => by cases h; rfl
theorem PlainA.cons {m : M} {ms : MA} (h : PlainA ms) : PlainA (mCons m ms) := fun r os r' e => by
  unfold mCons at e
  cases q : m r with
  | stuck => rw [q] at e; cases e
  | exn x r1 => rw [q] at e; cases e
  | ok o r1 =>
    rw [q] at e
    have e : bindR (ms r1) (fun os r2 => .ok (noFresh o :: os) r2) = .ok os r' := e
    cases q2 : ms r1 with
    | stuck => rw [q2] at e; cases e
    | exn x r1 => rw [q2] at e; cases e
    | ok os2 r2 =>
      rw [q2] at e
      cases e
      rw [List.all_cons, noFresh_plain, h _ _ _ q2]
      rfl
theorem PlainA.args : ∀ ms : List M, PlainA (mArgs ms)
  | [] => PlainA.nil
  | m :: ms => PlainA.cons (PlainA.args ms)
theorem all_val (ds : List D) (os : List Opd) (h : os.all plainO = true) : (ds.map Opd.val ++ os).all plainO = true := by
  rw [List.all_append, h, Bool.and_true]
  induction ds with
  | nil => rfl
  | cons d ds ih => rw [List.map_cons, List.all_cons, ih]; rfl
theorem PlainA.star {m : M} {ms : MA} (h : PlainA ms) : PlainA (mStar m ms) := fun r os r' e => by
  unfold mStar at e
  cases q : m r with
  | stuck => rw [q] at e; cases e
  | exn x r1 => rw [q] at e; cases e
  | ok o r1 =>
    rw [q] at e
    have e : (match (peek r1 o).bind itemsD with
      | some ds => bindR (ms r1) fun os r2 => .ok (ds.map Opd.val ++ os) r2
      | none => .stuck) = .ok os r' := e
    split at e
    · rename_i ds hd
      cases q2 : ms r1 with
      | stuck => rw [q2] at e; cases e
      | exn x r1 => rw [q2] at e; cases e
      | ok os2 r2 =>
        rw [q2] at e
        cases e
        exact all_val ds os2 (h _ _ _ q2)
    · cases e

theorem tMA_consG {m : M} {ms : MA} {Q : List V → Hp → Prop} (h : tMA G pn W (mCons m ms) σ H Q) : tM G pn W m σ H fun x H1 => tMA G pn W ms σ H1 fun xs H2 => Q (x :: xs) H2 := by
  obtain ⟨B, F, r, s, p⟩ := h
  refine ⟨B, F, r, s, ?_⟩
  unfold mCons at p
  cases e : m r with
  | stuck => rw [e] at p; exact p
  | exn x r1 => rw [e] at p; exact p
  | ok o r1 =>
    rw [e] at p
    intro v F1 H1 e1 n1 s1 o1
    obtain ⟨F2, e2, n2, s2, o2⟩ := s1.settle o1
    refine ⟨B, F2, r1, s2, ?_⟩
    have p : PostA G pn W B F σ Q (bindR (ms r1) fun os r2 => .ok (noFresh o :: os) r2) := p
    cases q : ms r1 with
    | stuck => rw [q] at p; exact p
    | exn x r2 =>
      rw [q] at p
      intro cls d F3 H3 e3 n3 s3 x3
      exact p cls d F3 H3 ((e1.trans e2).trans e3) ((n1.trans n2).trans n3) s3 x3
    | ok os r2 =>
      rw [q] at p
      intro vs F3 H3 e3 n3 s3 os3
      exact p (v :: vs) F3 H3 ((e1.trans e2).trans e3) ((n1.trans n2).trans n3) s3 (.cons _ _ _ _ (o2.keep e3) os3)
theorem RepO.items {v : V} {d : D} {ds : List D} (s : Same F H) (h : RepO G F H v d) (e : itemsD d = some ds) : ∃ a xs, v = .ref a ∧ (SqT G.K H a xs ∨ SqL G.K H a xs) ∧ Reps G F xs ds := by
  cases d <;> cases e
  · obtain ⟨a, xs, rfl, h1, h2⟩ := h.tup
    exact ⟨a, xs, rfl, .inl (sqt_mono s h1), h2⟩
  · obtain ⟨a, xs, rfl, h1, h2⟩ := h.lst s
    exact ⟨a, xs, rfl, .inr (SqL.of h1), h2⟩
  · obtain ⟨a, xs, rfl, h1, h2⟩ := h.scr
    exact ⟨a, xs, rfl, .inr (s.seq h1), h2⟩
theorem OpdRs.vals {vs : List V} {ds : List D} : Reps G F vs ds → OpdRs G B F H σ r vs (ds.map Opd.val)
  | .nil => .nil
  | .cons v d vs ds h t => .cons _ _ _ _ h (OpdRs.vals t)
theorem OpdRs.append {vs ws : List V} {os ps : List Opd} : OpdRs G B F H σ r vs os → OpdRs G B F H σ r ws ps → OpdRs G B F H σ r (vs ++ ws) (os ++ ps)
  | .nil, t => t
  | .cons v o vs os h t, t2 => .cons _ _ _ _ h (OpdRs.append t t2)
theorem tMA_star {m : M} {ms : MA} {Q : List V → Hp → Prop} (h : tMA G pn W (mStar m ms) σ H Q) : tM G pn W m σ H fun y H1 => ∃ a xs, y = V.ref a ∧ (SqT G.K H1 a xs ∨ SqL G.K H1 a xs) ∧ tMA G pn W ms σ H1 fun ws H2 => Q (xs ++ ws) H2 := by
  obtain ⟨B, F, r, s, p⟩ := h
  refine ⟨B, F, r, s, ?_⟩
  unfold mStar at p
  cases e : m r with
  | stuck => rw [e] at p; exact p
  | exn x r1 => rw [e] at p; exact p
  | ok o r1 =>
    rw [e] at p
    intro v F1 H1 e1 n1 s1 o1
    have p : PostA G pn W B F σ Q (match (Ev.peek r1 o).bind itemsD with
      | some ds => bindR (ms r1) fun os r2 => .ok (ds.map Opd.val ++ os) r2
      | none => .stuck) := p
    cases q : Ev.peek r1 o with
    | none => rw [q] at p; exact p.elim
    | some d =>
      rw [q] at p
      have p : PostA G pn W B F σ Q (match itemsD d with
        | some ds => bindR (ms r1) fun os r2 => .ok (ds.map Opd.val ++ os) r2
        | none => .stuck) := p
      cases q2 : itemsD d with
      | none => rw [q2] at p; exact p.elim
      | some ds =>
        rw [q2] at p
        obtain ⟨a, xs, rfl, h1, h2⟩ := (s1.peek o1 q).items s1.fH q2
        refine ⟨a, xs, rfl, h1, ?_⟩
        obtain ⟨F2, e2, n2, s2, o2⟩ := s1.settle o1
        refine ⟨B, F2, r1, s2, ?_⟩
        have p : PostA G pn W B F σ Q (bindR (ms r1) fun os r2 => .ok (ds.map Opd.val ++ os) r2) := p
        cases q3 : ms r1 with
        | stuck => rw [q3] at p; exact p
        | exn x r2 =>
          rw [q3] at p
          intro cls d F3 H3 e3 n3 s3 x3
          exact p cls d F3 H3 ((e1.trans e2).trans e3) ((n1.trans n2).trans n3) s3 x3
        | ok os r2 =>
          rw [q3] at p
          intro vs F3 H3 e3 n3 s3 os3
          exact p (xs ++ vs) F3 H3 ((e1.trans e2).trans e3) ((n1.trans n2).trans n3) s3 (.append (.vals (h2.mono (e2.trans e3))) os3)

/-- what a display makes -/
def CollS (G : Gam) (R : List V → Hp → VK → Prop) (f : List D → Option Opd) : Prop := ∀ (F H : Hp) (vs : List V) (ds : List D) (o : Opd) (Q : VK), Same F H → Reps G F vs ds → f ds = some o → Fin G F H o Q → R vs H Q
theorem tM_coll {f : List D → Option Opd} {ma : MA} {R : List V → Hp → VK → Prop} {Q : VK} (hp : PlainA ma) (hf : CollS G R f) (h : tM G pn W (mColl f ma) σ H Q) : tMA G pn W ma σ H fun vs H2 => R vs H2 Q := by
  obtain ⟨B, F, r, s, p⟩ := h
  refine ⟨B, F, r, s, ?_⟩
  unfold mColl at p
  cases e : ma r with
  | stuck => rw [e] at p; exact p
  | exn x r1 => rw [e] at p; exact p
  | ok os r1 =>
    rw [e] at p
    intro vs F1 H1 e1 n1 s1 o1
    have p : PostE G pn W B F σ Q (match Ev.frzs r1 os with
      | some (ds, r2) => opt (f ds) r2
      | none => .stuck) := p
    cases q : Ev.frzs r1 os with
    | none => rw [q] at p; exact p.elim
    | some dr =>
      obtain ⟨ds, r2⟩ := dr
      rw [q] at p
      have p : PostE G pn W B F σ Q (opt (f ds) r2) := p
      obtain ⟨F2, e2, n2, s2, h2⟩ := s1.frzs (hp _ _ _ e) o1 q
      cases q2 : f ds with
      | none => rw [q2] at p; exact p.elim
      | some o =>
        rw [q2] at p
        exact hf F2 H1 vs ds o Q s2.fH h2 q2 (s2.fin fun v F' H' e n st oo => p v F' H' ((e1.trans e2).trans e) ((n1.trans n2).trans n) st oo)
theorem coll_tup : CollS G (fun xs H Q => xs.length ≤ sizeLine ∧ ∀ p, H p = none → Q (.ref p) (upd H p (.tup xs))) fTup := by
  intro F H vs ds o Q s rs hf fin
  unfold fTup at hf
  split at hf
  · rename_i h
    cases hf
    exact ⟨by rw [rs.length]; exact h, fun p hp => fin.tup s rs hp⟩
  · cases hf
theorem coll_lst : CollS G (fun xs H Q => xs.length ≤ sizeLine ∧ ∀ p, H p = none → Q (.ref p) (upd H p (.lst xs))) fLst := by
  intro F H vs ds o Q s rs hf fin
  unfold fLst at hf
  split at hf
  · rename_i h
    cases hf
    exact ⟨by rw [rs.length]; exact h, fun p hp => fin.lst s rs hp⟩
  · cases hf
end
section
variable {G : Gam} {pn : Option Addr} {W : WX} {X : Cx} {a b c : Expr} {es : List Expr} {pos : Pos} {m ma mb : M} {ms : MA}
theorem PA_consG (ha : PE X a (tM G pn W m)) (hr : PA X es (tMA G pn W ms)) (hs : starEach (a :: es) X.env = (false, eval a X.env) :: starEach es X.env) : PA X (a :: es) (tMA G pn W (mCons m ms)) :=
  PA.imp (pa_cons ha hr hs) fun σ H Q h => tMA_consG h
theorem PA_star {p : Pos} (hK : X.K = G.K) (ha : PE X a (tM G pn W m)) (hr : PA X es (tMA G pn W ms)) (hs : starEach (.Starred a p :: es) X.env = (true, eval a X.env) :: starEach es X.env) : PA X (.Starred a p :: es) (tMA G pn W (mStar m ms)) :=
  PA.imp (StX.pa_star ha hr hs) fun σ H Q h => by
    have := tMA_star h
    rw [← hK] at this
    exact this
theorem PE_tup {x1 : Option Nat} (hp : PlainA ms) (h : PA X es (tMA G pn W ms)) : True := True.intro
end
end Ev
/-! Ev, part E: defs and calls, statements, loops. -/
namespace Ev
open PySem PySem.Spec PyProof.Rows L2

/-! ### defs -/
inductive FRes where
  | ok (o : Opd) (out : D) | exn (x : Xn) (out : D) | stuck
/-- a def: whether it writes into its first argument (a list of the caller's own) -/
structure Fn where
  wr : Bool
  run : List D → FRes
/-- a call -/
def endN (r2 : Rho) : FRes → Res Opd
  | .ok o _ => .ok o r2
  | .exn x _ => .exn x r2
  | .stuck => .stuck
def endW (i : Nat) (r2 : Rho) : FRes → Res Opd
  | .ok o out => .ok o (r2.set i (.own out))
  | .exn x out => .exn x (r2.set i (.own out))
  | .stuck => .stuck
def callN (f : Fn) (os : List Opd) (r1 : Rho) : Res Opd := match frzs r1 os with
  | some (ds, r2) => endN r2 (f.run ds)
  | none => .stuck
def callW2 (f : Fn) (i : Nat) (ds : List D) (r2 : Rho) : Res Opd := match r2[i]? with
  | some (.own d) => endW i r2 (f.run (d :: ds))
  | _ => .stuck
def callW (f : Fn) (os : List Opd) (r1 : Rho) : Res Opd := match os with
  | .slot i :: os' => (match frzs r1 os' with
    | some (ds, r2) => callW2 f i ds r2
    | none => .stuck)
  | _ => .stuck
def mCall (f : Fn) (ma : MA) : M := fun r => bindR (ma r) fun os r1 => if f.wr = true then callW f os r1 else callN f os r1
/-- what comes of the argument that is written into -/
def OutR (G : Gam) (B F H : Hp) (out : D) : Option Addr → Prop
  | none => True
  | some a => Own G B F H a out
def ResF (G : Gam) (B F H : Hp) (ma : Option Addr) (v : V) : Opd → Prop
  | .val d => Rep G F v d
  | .fresh d => ∃ p, v = .ref p ∧ Own G B F H p d ∧ ma ≠ some p
  | .slot _ => False
def PostF (G : Gam) (B F : Hp) (ma : Option Addr) (Q : VK) (E : XK) : FRes → Prop
  | .ok o out => ∀ (v : V) (F' H' : Hp), Same F F' → NewO B F F' → Same B H' → Same F' H' → Kp G B F' H' → OutR G B F' H' out ma → ResF G B F' H' ma v o → Q v H'
  | .exn x out => ∀ (cls : Value) (d : Option Addr) (F' H' : Hp), Same F F' → NewO B F F' → Same B H' → Same F' H' → Kp G B F' H' → OutR G B F' H' out ma → ExnR G F' H' x cls d → E cls d H'
  | .stuck => False
def ArgR (G : Gam) (B F H : Hp) (vs : List V) (ds : List D) : Bool → Option Addr → Prop
  | false, ma => ma = none ∧ Reps G F vs ds
  | true, ma => ∃ a ws d es, ma = some a ∧ vs = .ref a :: ws ∧ ds = d :: es ∧ Own G B F H a d ∧ Reps G F ws es
/-- a def's promise -/
def spF (G : Gam) (f : Fn) : Sp := fun vs H Q E => ∃ B F ds ma, Same B H ∧ Same F H ∧ Kp G B F H ∧ ArgR G B F H vs ds f.wr ma ∧ PostF G B F ma Q E (f.run ds)

section
variable {G : Gam} {pn : Option Addr} {W : WX} {B F F' H H' : Hp} {σ : L2.St} {r : Rho}
def hide (H : Hp) (a : Addr) : Hp := fun b => if b = a then none else H b
theorem hide_at {H : Hp} {a : Addr} : hide H a a = none := if_pos rfl
theorem hide_ne {H : Hp} {a b : Addr} (h : b ≠ a) : hide H a b = H b := if_neg h
theorem hide_same {H : Hp} {a : Addr} : Same (hide H a) H := fun b o e => by
  by_cases h : b = a
  · subst h; rw [hide_at] at e; cases e
  · rw [hide_ne h] at e; exact e
theorem same_hide {a : Addr} (s : Same B H) (h : B a = none) : Same B (hide H a) := fun b o e => by
  rw [hide_ne (ne_of_none e h)]
  exact s b o e
/-- behind a call that wrote into slot i's list -/
theorem Sta.wrote (s : Sta G pn B F H σ r) {i : Nat} {a : Addr} {d out : D} (hi : r[i]? = some (.own d)) (ha : σ[i]? = some (some (.ref a))) (e1 : Same F F') (n : NewO (noT (hide H a)) F F') (e2 : Same (noT (hide H a)) H') (e3 : Same F' H') (kp : Kp G (noT (hide H a)) F' H') (o : Own G (noT (hide H a)) F' H' a out) :
    Sta G pn B F' H' σ (r.set i (.own out)) ∧ NewO B F F' := by
  obtain ⟨a', ha', oa⟩ := s.own i d hi
  rw [ha] at ha'
  cases ha'
  have hl := lt_of_get hi
  have hB : Same B (noT (hide H a)) := same_noT (same_hide s.bH oa.nb) s.kp.nB
  refine ⟨⟨hB.trans e2, e3, ⟨s.kp.nB, kp.nF, kp.iv⟩, by rw [List.length_set]; exact s.len, fun j e h => ?_, fun j e h => ?_, fun j k e1' e2' c hjk h2 h3 h4 h5 => ?_, s.pin⟩, NewO.of hB n⟩
  · by_cases hij : i = j
    · subst hij; rw [set_self hl] at h; cases h
    · rw [set_ne hij] at h
      obtain ⟨v, a1, a2⟩ := s.val j e h
      exact ⟨v, a1, a2.mono e1⟩
  · by_cases hij : i = j
    · subst hij
      rw [set_self hl] at h
      cases h
      exact ⟨a, ha, o.move oa.nb o.nf rfl (Same.refl _)⟩
    · rw [set_ne hij] at h
      obtain ⟨c, a1, a2⟩ := s.own j e h
      have hca : c ≠ a := fun z => s.dis i j _ _ a hij hi h ha (by rw [← z]; exact a1)
      have hnb := a2.nb
      have hnf := a2.nf
      cases a2 with
      | lst xs ds hb hf hu rr =>
        have hc : noT (hide H a) c = some (.lst xs) := noT_at (by rw [hide_ne hca]; exact hu) rfl
        exact ⟨c, a1, .lst xs ds hnb (n c (by rw [hc]; exact fun z => nomatch z) hnf) (e2 _ _ hc) (rr.mono e1)⟩
  · have w : ∀ {j : Nat} {e : D}, (r.set i (.own out))[j]? = some (.own e) → ∃ e', r[j]? = some (.own e') := fun {j e} h => by
      by_cases hij : i = j
      · subst hij; exact ⟨d, hi⟩
      · rw [set_ne hij] at h; exact ⟨e, h⟩
    obtain ⟨x1, y1⟩ := w h2
    obtain ⟨x2, y2⟩ := w h3
    exact s.dis j k _ _ c hjk y1 y2 h4 h5
theorem OpdRs.inv_cons {vs : List V} {o : Opd} {os : List Opd} (h : OpdRs G B F H σ r vs (o :: os)) : ∃ v ws, vs = v :: ws ∧ OpdR G B F H σ r v o ∧ OpdRs G B F H σ r ws os := by
  cases h with
  | cons v o vs os h t => exact ⟨v, vs, rfl, h, t⟩
theorem frz_own {r r' : Rho} {o : Opd} {e : D} (h : frz r o = some (e, r')) : ∀ {j : Nat} {d : D}, r'[j]? = some (.own d) → r[j]? = some (.own d) := by
  intro j d hj
  cases o with
  | val x => cases h; exact hj
  | fresh x => cases h; exact hj
  | slot i =>
    have h : (match r[i]? with
      | some (.val d) => some (d, r)
      | some (.own d) => some (d, r.set i (.val d))
      | _ => none) = some (e, r') := h
    split at h
    · cases h; exact hj
    · rename_i x q
      cases h
      by_cases hij : i = j
      · subst hij; rw [set_self (lt_of_get q)] at hj; cases hj
      · rw [set_ne hij] at hj; exact hj
    · cases h
theorem tM_call {f : Fn} {ma : MA} {Q : VK} (hp : PlainA ma) (h : tM G pn W (mCall f ma) σ H Q) : tMA G pn W ma σ H fun vs H1 => spF G f vs H1 Q (WE W σ) := by
  obtain ⟨B, F, r, s, p⟩ := h
  refine ⟨B, F, r, s, ?_⟩
  unfold mCall at p
  cases e : ma r with
  | stuck => rw [e] at p; exact p
  | exn x r1 => rw [e] at p; exact p
  | ok os r1 =>
    rw [e] at p
    intro vs F1 H1 e1 n1 s1 o1
    have p : PostE G pn W B F σ Q (if f.wr = true then callW f os r1 else callN f os r1) := p
    have hpl := hp _ _ _ e
    cases hm : f.wr with
    | false =>
      rw [hm, if_neg Bool.false_ne_true] at p
      unfold callN at p
      cases q : frzs r1 os with
      | none => rw [q] at p; exact p.elim
      | some dr =>
        obtain ⟨ds, r2⟩ := dr
        rw [q] at p
        simp only at p
        obtain ⟨F2, e2, n2, s2, h2⟩ := s1.frzs hpl o1 q
        refine ⟨noT H1, F2, ds, none, noT_same _, s2.fH, ⟨noT_NoT _, s2.kp.nF, s2.kp.iv⟩, by rw [hm]; exact ⟨rfl, h2⟩, ?_⟩
        cases q2 : f.run ds with
        | stuck => rw [q2] at p; exact p
        | exn x out =>
          rw [q2] at p
          intro cls d F3 H3 e3 n3 b3 f3 k3 _ x3
          exact p cls d F3 H3 ((e1.trans e2).trans e3) ((n1.trans n2).trans (s2.newT n3)) (s2.growT e3 b3 f3 n3 k3.nF k3.iv) x3
        | ok o out =>
          rw [q2] at p
          intro v F3 H3 e3 n3 b3 f3 k3 _ r3
          refine p v F3 H3 ((e1.trans e2).trans e3) ((n1.trans n2).trans (s2.newT n3)) (s2.growT e3 b3 f3 n3 k3.nF k3.iv) ?_
          cases o with
          | val d => exact r3
          | slot i => exact r3.elim
          | fresh d =>
            obtain ⟨a, rfl, oa, _⟩ := r3
            refine ⟨a, rfl, oa.move (s2.bT.free oa.nb) oa.nf rfl (Same.refl _), fun j e hj hs => ?_⟩
            obtain ⟨b, hb, ob⟩ := s2.own j e hj
            rw [hb] at hs
            cases hs
            cases ob with
            | lst xs ds _ _ hu _ =>
              have hz := oa.nb
              rw [noT_at hu rfl] at hz
              cases hz
    | true =>
      rw [hm, if_pos rfl] at p
      cases os with
      | nil => exact p.elim
      | cons o0 os' =>
        cases o0 with
        | val d => exact p.elim
        | fresh d => exact p.elim
        | slot i =>
          have p : PostE G pn W B F σ Q (match frzs r1 os' with
            | some (ds, r2) => callW2 f i ds r2
            | none => .stuck) := p
          rw [List.all_cons, Bool.and_eq_true] at hpl
          obtain ⟨v0, ws, rfl, o0, o2⟩ := o1.inv_cons
          cases q : frzs r1 os' with
          | none => rw [q] at p; exact p.elim
          | some dr =>
            obtain ⟨ds, r2⟩ := dr
            rw [q] at p
            have p : PostE G pn W B F σ Q (callW2 f i ds r2) := p
            obtain ⟨F2, e2, n2, s2, h2⟩ := s1.frzs hpl.2 o2 q
            unfold callW2 at p
            split at p
            · rename_i d hi
              obtain ⟨a, ha, oa⟩ := s2.own i d hi
              have o0 : σ[i]? = some (some v0) := o0
              rw [ha] at o0
              cases o0
              refine ⟨noT (hide H1 a), F2, d :: ds, some a, (noT_same _).trans hide_same, s2.fH, ⟨noT_NoT _, s2.kp.nF, s2.kp.iv⟩, by rw [hm]; exact ⟨a, ws, d, ds, rfl, rfl, rfl, oa.move (noT_none hide_at) oa.nf rfl (Same.refl _), h2⟩, ?_⟩
              cases q2 : f.run (d :: ds) with
              | stuck => rw [q2] at p; exact p
              | exn x out =>
                rw [q2] at p
                intro cls d3 F3 H3 e3 n3 b3 f3 k3 out3 x3
                obtain ⟨s4, n4⟩ := s2.wrote hi ha e3 n3 b3 f3 k3 out3
                exact p cls d3 F3 H3 ((e1.trans e2).trans e3) ((n1.trans n2).trans n4) s4 x3
              | ok o out =>
                rw [q2] at p
                intro v F3 H3 e3 n3 b3 f3 k3 out3 r3
                obtain ⟨s4, n4⟩ := s2.wrote hi ha e3 n3 b3 f3 k3 out3
                refine p v F3 H3 ((e1.trans e2).trans e3) ((n1.trans n2).trans n4) s4 ?_
                cases o with
                | val d => exact r3
                | slot i => exact r3.elim
                | fresh d' =>
                  obtain ⟨p', rfl, op, np⟩ := r3
                  have hpa : p' ≠ a := fun z => np (by rw [z])
                  have hp1 : noT (hide H1 a) p' = none := op.nb
                  refine ⟨p', rfl, op.move ((same_noT (same_hide s2.bH oa.nb) s2.kp.nB).free hp1) op.nf rfl (Same.refl _), fun j e hj hs => ?_⟩
                  by_cases hij : i = j
                  · subst hij
                    rw [ha] at hs
                    cases hs
                    exact hpa rfl
                  · rw [set_ne hij] at hj
                    obtain ⟨c, hc, oc⟩ := s2.own j e hj
                    rw [hc] at hs
                    cases hs
                    cases oc with
                    | lst xs ds _ _ hu _ =>
                      rw [noT_at (show hide H1 a p' = some (.lst xs) by rw [hide_ne hpa]; exact hu) rfl] at hp1
                      cases hp1
            · exact p.elim
end
section
variable {X : Cx} {CX : CXT} {k : Nat} {f : Addr} {sp : Sp} {E : L2.St → XK} {x : Str} {p pos : Pos} {e : Expr} {es : List Expr} {t : TA}
theorem run_fnRS {pins : List (Addr × Obj)} {σ : L2.St} {H : Hp} {s : Shared} {Q : VK} {us : List Value} {vs : List V} (F : FnR X.prog X.w X.K X.mg X.base CX k f sp) (hr : Room k X.A) (hx : PassesAt CX X σ (E σ))
    (I : Inv X pins σ H s) (r : Vals vs us) (h : sp vs H Q (E σ)) : wpAny (model X.prog X.w) X.A (call (.ref f) us) (EP X pins σ Q) X.xe s := by
  refine wpAny_call (codeAny_mono (F X.A X.stack s H us vs Q (E σ) hr I.env0 r h) fun r s' hq => ?_)
  cases r with
  | error e => exact hx pins H s e s' I hq
  | ok fl =>
    cases fl with
    | ret u => exact I.after hq
    | next => exact False.elim hq
    | brk => exact False.elim hq
    | cont => exact False.elim hq
theorem pe_callRS (F : FnR X.prog X.w X.K X.mg X.base CX k f sp) (hr : Room k X.A) (hg : Gl X x) (hm : X.mg x = some (.ref f)) (hk : PySem.W.keepIn X.K (.ref f) = true) (hx : ∀ σ, PassesAt CX X σ (E σ))
    (ha : PA X (e :: es) t) (hdb : (x == ("__debug__" : Str)) = false) (he : starEach (e :: es) X.env = (false, eval e X.env) :: starEach es X.env) (hpl : (backTo pos (starEach es X.env)).any (·.1) = false) :
    PE X (.Call (.Name x p) (e :: es) [] pos) (tCallS sp E t) := by
  refine ⟨fun pins s σ H Q I h => ?_⟩
  refine wpAny_Call_Name_kw (ld_glob I hg hm ?_ hdb)
  refine PySem.W.callWith_K (h₀ := X.base) I.ok.mod.kin hk (thn (ha.run pos pins s σ H _ I h) fun us s1 ⟨vs, H1, I1, r, q⟩ => ⟨I1.kIn, ?_⟩) he hpl
  exact run_fnRS F hr (hx σ) I1 r q
theorem pe_callRS0 (F : FnR X.prog X.w X.K X.mg X.base CX k f sp) (hr : Room k X.A) (hg : Gl X x) (hm : X.mg x = some (.ref f)) (hk : PySem.W.keepIn X.K (.ref f) = true) (hx : ∀ σ, PassesAt CX X σ (E σ))
    (hdb : (x == ("__debug__" : Str)) = false) : PE X (.Call (.Name x p) [] [] pos) (tCallS sp E tNil) := by
  refine ⟨fun pins s σ H Q I h => ?_⟩
  refine wpAny_Call_Name_kw (ld_glob I hg hm ?_ hdb)
  exact PySem.W.callWith_K0 I.kIn hk (run_fnRS (us := []) F hr (hx σ) I .nil h)
end

/-! ### statements -/
inductive Out where
  | next (r : Rho) | ret (o : Opd) (r : Rho) | brk (r : Rho) | cont (r : Rho) | exn (x : Xn) (r : Rho) | stuck
abbrev MS := Rho → Out
def PostS (G : Gam) (pn : Option Addr) (W : WX) (B F : Hp) (D : Ends) : Out → Prop
  | .next r => ∀ (σ' : L2.St) (F' H' : Hp), Same F F' → NewO B F F' → Sta G pn B F' H' σ' r → D.nx σ' H'
  | .brk r => ∀ (σ' : L2.St) (F' H' : Hp), Same F F' → NewO B F F' → Sta G pn B F' H' σ' r → D.bk σ' H'
  | .cont r => ∀ (σ' : L2.St) (F' H' : Hp), Same F F' → NewO B F F' → Sta G pn B F' H' σ' r → D.ct σ' H'
  | .ret o r => ∀ (v : V) (σ' : L2.St) (F' H' : Hp), Same F F' → NewO B F F' → Sta G pn B F' H' σ' r → OpdR G B F' H' σ' r v o → D.rt v H'
  | .exn x r => ∀ (cls : Value) (d : Option Addr) (σ' : L2.St) (F' H' : Hp), Same F F' → NewO B F F' → Sta G pn B F' H' σ' r → ExnR G F' H' x cls d → W cls d σ' H'
  | .stuck => False
def tS (G : Gam) (pn : Option Addr) (W : WX) (m : MS) : TS := fun D σ H => ∃ B F r, Sta G pn B F H σ r ∧ PostS G pn W B F D (m r)
def bindS {α : Type} (x : Res α) (f : α → Rho → Out) : Out := match x with
  | .ok a r => f a r
  | .exn x r => .exn x r
  | .stuck => .stuck
def sSeq (s t : MS) : MS := fun r => match s r with
  | .next r1 => t r1
  | o => o
def sPass : MS := fun r => .next r
def sBreak : MS := fun r => .brk r
def sCont : MS := fun r => .cont r
def sExpr (m : M) : MS := fun r => bindS (m r) fun _ r1 => .next r1
def sRet (m : M) : MS := fun r => bindS (m r) fun o r1 => .ret o r1
def sRetN : MS := fun r => .ret (.val .non) r
def sIf (t : MT) (a b : MS) : MS := fun r => bindS (t r) fun c r1 => if c = true then a r1 else b r1
/-- a value is put into a slot -/
def putSl (i : Nat) (o : Opd) (r : Rho) : Option Rho := match o with
  | .fresh d => some (r.set i (.own d))
  | .val d => some (r.set i (.val d))
  | .slot j => (frz r (.slot j)).map fun p => p.2.set i (.val p.1)
def sSet (i : Nat) (m : M) : MS := fun r => bindS (m r) fun o r1 => match putSl i o r1 with
  | some r2 => .next r2
  | none => .stuck

section
variable {G : Gam} {pn : Option Addr} {W : WX} {B F F' H H' : Hp} {σ : L2.St} {r : Rho} {D₀ : Ends}
theorem PostS.mono {o : Out} (e : Same F F') (n : NewO B F F') (p : PostS G pn W B F D₀ o) : PostS G pn W B F' D₀ o := by
  cases o with
  | next r => exact fun σ' F2 H2 e2 n2 => p σ' F2 H2 (e.trans e2) (n.trans n2)
  | brk r => exact fun σ' F2 H2 e2 n2 => p σ' F2 H2 (e.trans e2) (n.trans n2)
  | cont r => exact fun σ' F2 H2 e2 n2 => p σ' F2 H2 (e.trans e2) (n.trans n2)
  | ret o r => exact fun v σ' F2 H2 e2 n2 => p v σ' F2 H2 (e.trans e2) (n.trans n2)
  | exn x r => exact fun cls d σ' F2 H2 e2 n2 => p cls d σ' F2 H2 (e.trans e2) (n.trans n2)
  | stuck => exact p
theorem tS_bindM {m : M} {f : Opd → Rho → Out} (h : tS G pn W (fun r => bindS (m r) f) D₀ σ H) :
    tM G pn W m σ H fun v H1 => ∃ B F F1 o r1, Same F F1 ∧ NewO B F F1 ∧ Sta G pn B F1 H1 σ r1 ∧ OpdR G B F1 H1 σ r1 v o ∧ PostS G pn W B F D₀ (f o r1) := by
  obtain ⟨B, F, r, s, p⟩ := h
  refine ⟨B, F, r, s, ?_⟩
  revert p
  show PostS G pn W B F D₀ (bindS (m r) f) → _
  cases m r with
  | stuck => exact id
  | exn x r1 => exact fun p cls d F1 H1 e n st x => p cls d σ F1 H1 e n st x
  | ok o r1 => exact fun p v F1 H1 e n st oo => ⟨B, F, F1, o, r1, e, n, st, oo, p⟩
theorem tS_bindT {m : MT} {f : Bool → MS} (h : tS G pn W (fun r => bindS (m r) f) D₀ σ H) : tMT G pn W m σ H fun b H1 => tS G pn W (f b) D₀ σ H1 := by
  obtain ⟨B, F, r, s, p⟩ := h
  refine ⟨B, F, r, s, ?_⟩
  revert p
  show PostS G pn W B F D₀ (bindS (m r) f) → _
  cases m r with
  | stuck => exact id
  | exn x r1 => exact fun p cls d F1 H1 e n st x => p cls d σ F1 H1 e n st x
  | ok b r1 => exact fun p F1 H1 e n st => ⟨B, F1, r1, st, PostS.mono e n p⟩
theorem tS_seq {s t : MS} (h : tS G pn W (sSeq s t) D₀ σ H) : tS G pn W s { D₀ with nx := tS G pn W t D₀ } σ H := by
  obtain ⟨B, F, r, st, p⟩ := h
  refine ⟨B, F, r, st, ?_⟩
  unfold sSeq at p
  revert p
  cases s r with
  | next r1 => exact fun p σ' F' H' e n st' => ⟨B, F', r1, st', PostS.mono e n p⟩
  | ret o r1 => exact id
  | brk r1 => exact id
  | cont r1 => exact id
  | exn x r1 => exact id
  | stuck => exact id
theorem pin_set {i : Nat} {v : Option V} (s : Sta G pn B F H σ r) (h0 : i ≠ 0 ∨ pn = none) : ∀ a, pn = some a → (σ.set i v)[0]? = some (some (.ref a)) := fun a e => by
  rcases h0 with h0 | h0
  · rw [List.getElem?_set_ne h0]; exact s.pin a e
  · rw [h0] at e; cases e
theorem Sta.setVal (s : Sta G pn B F H σ r) {i : Nat} {v : V} {d : D} (h0 : i ≠ 0 ∨ pn = none) (h : Rep G F v d) : Sta G pn B F H (σ.set i (some v)) (r.set i (.val d)) := by
  have key : ∀ {j : Nat} {x : Sl}, (r.set i (.val d))[j]? = some x → (i = j ∧ i < r.length ∧ x = .val d) ∨ (i ≠ j ∧ r[j]? = some x) := fun {j x} hj => by
    by_cases hij : i = j
    · subst hij
      have hl : i < r.length := by have := lt_of_get hj; rw [List.length_set] at this; exact this
      rw [set_self hl] at hj
      cases hj
      exact .inl ⟨rfl, hl, rfl⟩
    · rw [set_ne hij] at hj
      exact .inr ⟨hij, hj⟩
  refine ⟨s.bH, s.fH, s.kp, by rw [List.length_set, List.length_set]; exact s.len, fun j e hj => ?_, fun j e hj => ?_, fun j k e1 e2 c hjk h2 h3 h4 h5 => ?_, pin_set s h0⟩
  · rcases key hj with ⟨rfl, hl, q⟩ | ⟨hij, q⟩
    · cases q
      exact ⟨v, List.getElem?_set_self (by rw [← s.len]; exact hl), h⟩
    · obtain ⟨w, a1, a2⟩ := s.val j e q
      exact ⟨w, by rw [List.getElem?_set_ne hij]; exact a1, a2⟩
  · rcases key hj with ⟨_, _, q⟩ | ⟨hij, q⟩
    · cases q
    · obtain ⟨c, a1, a2⟩ := s.own j e q
      exact ⟨c, by rw [List.getElem?_set_ne hij]; exact a1, a2⟩
  · rcases key h2 with ⟨_, _, q⟩ | ⟨hij, q⟩
    · cases q
    · rcases key h3 with ⟨_, _, q'⟩ | ⟨hik, q'⟩
      · cases q'
      · rw [List.getElem?_set_ne hij] at h4
        rw [List.getElem?_set_ne hik] at h5
        exact s.dis j k e1 e2 c hjk q q' h4 h5
theorem Sta.setOwn (s : Sta G pn B F H σ r) {i : Nat} {a : Addr} {d : D} (h0 : i ≠ 0 ∨ pn = none) (h : Own G B F H a d) (ne : ∀ (j : Nat) (e : D), r[j]? = some (.own e) → σ[j]? ≠ some (some (.ref a))) : Sta G pn B F H (σ.set i (some (.ref a))) (r.set i (.own d)) := by
  have key : ∀ {j : Nat} {x : Sl}, (r.set i (.own d))[j]? = some x → (i = j ∧ i < r.length ∧ x = .own d) ∨ (i ≠ j ∧ r[j]? = some x) := fun {j x} hj => by
    by_cases hij : i = j
    · subst hij
      have hl : i < r.length := by have := lt_of_get hj; rw [List.length_set] at this; exact this
      rw [set_self hl] at hj
      cases hj
      exact .inl ⟨rfl, hl, rfl⟩
    · rw [set_ne hij] at hj
      exact .inr ⟨hij, hj⟩
  refine ⟨s.bH, s.fH, s.kp, by rw [List.length_set, List.length_set]; exact s.len, fun j e hj => ?_, fun j e hj => ?_, fun j k e1 e2 c hjk h2 h3 h4 h5 => ?_, pin_set s h0⟩
  · rcases key hj with ⟨_, _, q⟩ | ⟨hij, q⟩
    · cases q
    · obtain ⟨w, a1, a2⟩ := s.val j e q
      exact ⟨w, by rw [List.getElem?_set_ne hij]; exact a1, a2⟩
  · rcases key hj with ⟨rfl, hl, q⟩ | ⟨hij, q⟩
    · cases q
      exact ⟨a, List.getElem?_set_self (by rw [← s.len]; exact hl), h⟩
    · obtain ⟨c, a1, a2⟩ := s.own j e q
      exact ⟨c, by rw [List.getElem?_set_ne hij]; exact a1, a2⟩
  · rcases key h2 with ⟨rfl, hl, q⟩ | ⟨hij, q⟩
    · rw [List.getElem?_set_self (by rw [← s.len]; exact hl)] at h4
      cases h4
      rcases key h3 with ⟨z, _⟩ | ⟨hik, q'⟩
      · exact hjk z
      · rw [List.getElem?_set_ne hik] at h5
        exact ne k e2 q' h5
    · rw [List.getElem?_set_ne hij] at h4
      rcases key h3 with ⟨rfl, hl, q'⟩ | ⟨hik, q'⟩
      · rw [List.getElem?_set_self (by rw [← s.len]; exact hl)] at h5
        cases h5
        exact ne j e1 q h4
      · rw [List.getElem?_set_ne hik] at h5
        exact s.dis j k e1 e2 c hjk q q' h4 h5
theorem Sta.put (s : Sta G pn B F H σ r) {i : Nat} {v : V} {o : Opd} {r' : Rho} (h0 : i ≠ 0 ∨ pn = none) (h : OpdR G B F H σ r v o) (e : putSl i o r = some r') : ∃ F', Same F F' ∧ NewO B F F' ∧ Sta G pn B F' H (σ.set i (some v)) r' := by
  cases o with
  | val d => cases e; exact ⟨F, Same.refl F, NewO.refl B F, s.setVal h0 h⟩
  | fresh d =>
    cases e
    obtain ⟨a, rfl, o, ne⟩ := h
    exact ⟨F, Same.refl F, NewO.refl B F, s.setOwn h0 o ne⟩
  | slot j =>
    have e : (Ev.frz r (.slot j)).map (fun p => p.2.set i (.val p.1)) = some r' := e
    cases q : Ev.frz r (.slot j) with
    | none => rw [q] at e; cases e
    | some p =>
      obtain ⟨d, r1⟩ := p
      rw [q] at e
      cases e
      obtain ⟨F', e1, n1, s1, h1⟩ := s.frz h q
      exact ⟨F', e1, n1, s1.setVal h0 h1⟩
end
section
variable {G : Gam} {pn : Option Addr} {W : WX} {X : Cx} {e c : Expr} {pos : Pos} {m : M} {tc : MT} {s t : MS} {st : Stmt} {rest a b : List Stmt}
theorem PSs_nil : PSs X [] (tS G pn W sPass) := PSs.imp pss_nil fun D σ H ⟨B, F, r, st, p⟩ => p σ F H (Same.refl F) (NewO.refl B F) st
theorem PSs_cons (h1 : PS X st (tS G pn W s)) (h2 : PSs X rest (tS G pn W t)) : PSs X (st :: rest) (tS G pn W (sSeq s t)) := PSs.imp (pss_cons h1 h2) fun D σ H h => tS_seq h
theorem PS_pass : PS X (.Pass pos) (tS G pn W sPass) := PS.imp ps_pass fun D σ H ⟨B, F, r, st, p⟩ => p σ F H (Same.refl F) (NewO.refl B F) st
theorem PS_break : PS X (.Break pos) (tS G pn W sBreak) := PS.imp ps_break fun D σ H ⟨B, F, r, st, p⟩ => p σ F H (Same.refl F) (NewO.refl B F) st
theorem PS_cont : PS X (.Continue pos) (tS G pn W sCont) := PS.imp ps_continue fun D σ H ⟨B, F, r, st, p⟩ => p σ F H (Same.refl F) (NewO.refl B F) st
theorem PS_expr (he : PE X e (tM G pn W m)) (hs : swapsWith e none pos.line X.env = pure false) : PS X (.Expr e pos) (tS G pn W (sExpr m)) := PS.imp (ps_expr he hs) fun D σ H h =>
  tM_mono (tS_bindM h) fun v H1 ⟨B, F, F1, o, r1, e, n, st, oo, p⟩ => p σ F1 H1 e n st
theorem PS_ret (he : PE X e (tM G pn W m)) : PS X (.Return (some e) pos) (tS G pn W (sRet m)) := PS.imp (ps_ret he) fun D σ H h =>
  tM_mono (tS_bindM h) fun v H1 ⟨B, F, F1, o, r1, e, n, st, oo, p⟩ => p v σ F1 H1 e n st oo
theorem PS_retN : PS X (.Return none pos) (tS G pn W sRetN) := PS.imp ps_retN fun D σ H ⟨B, F, r, st, p⟩ => p .non σ F H (Same.refl F) (NewO.refl B F) st Rep.non
theorem PS_if (hc : PT X c (tMT G pn W tc)) (ha : PSs X a (tS G pn W s)) (hb : PSs X b (tS G pn W t)) : PS X (.If c a b pos) (tS G pn W (sIf tc s t)) := PS.imp (ps_if hc ha hb) fun D σ H h =>
  tMT_mono (tS_bindT (f := fun c r1 => if c = true then s r1 else t r1) h) fun k H1 q => by cases k <;> exact q
theorem PS_set {i : Nat} {x : Str} {pos' : Pos} (h0 : i ≠ 0 ∨ pn = none) (hN : X.N.Nodup) (hi : X.N[i]? = some x) (hx : Loc X.env.scope x) (he : PE X e (tM G pn W m)) (hs : swapsWith e (some (.Name x pos')) pos.line X.env = pure false) (hf : X.fn x = true ∨ X.env.scope.names.lookup x = some .local) :
    PS X (.Assign [.Name x pos'] e pos) (tS G pn W (sSet i m)) := PS.imp (ps_set hN hi hx he hs hf) fun D σ H h =>
  tM_mono (tS_bindM h) fun v H1 ⟨B, F, F1, o, r1, e, n, st, oo, p⟩ => by
    revert p
    cases q : putSl i o r1 with
    | none => exact fun p => p.elim
    | some r2 =>
      intro p
      obtain ⟨F2, e2, n2, st2⟩ := st.put h0 oo q
      exact p _ F2 H1 (e.trans e2) (n.trans n2) st2
end
end Ev
/-! Ev, part F: targets, what is walked, for, while, comprehensions. -/
namespace Ev
open PySem PySem.Spec PyProof.Rows L2

/-! ### targets -/
def Upto (T : List Nat) (σ σ' : L2.St) : Prop := σ'.length = σ.length ∧ ∀ j, j ∉ T → σ'[j]? = σ[j]?
theorem Upto.refl (σ : L2.St) : Upto [] σ σ := ⟨rfl, fun _ _ => rfl⟩
theorem Upto.trans {T U : List Nat} {σ σ' σ'' : L2.St} (a : Upto T σ σ') (b : Upto U σ' σ'') : Upto (T ++ U) σ σ'' := ⟨b.1.trans a.1, fun j hj => by
  rw [List.mem_append, not_or] at hj
  rw [b.2 j hj.2, a.2 j hj.1]⟩
theorem Upto.set (i : Nat) (v : Option V) (σ : L2.St) : Upto [i] σ (σ.set i v) := ⟨List.length_set, fun j hj => List.getElem?_set_ne (fun z => hj (by rw [z]; exact List.mem_singleton.mpr rfl))⟩
abbrev TF := D → Rho → Option Rho
abbrev TFs := List D → Rho → Option Rho
def TgOK (G : Gam) (pn : Option Addr) (T : List Nat) (tf : TF) (g : TG) : Prop := ∀ (B F H : Hp) (σ : L2.St) (r : Rho) (x : V) (d : D) (r' : Rho) (Q : L2.St → Hp → Prop), Sta G pn B F H σ r → Rep G F x d → tf d r = some r' → (∀ σ', Upto T σ σ' → Sta G pn B F H σ' r' → Q σ' H) → g x σ H Q
def TgsOK (G : Gam) (pn : Option Addr) (T : List Nat) (tf : TFs) (g : TGs) : Prop := ∀ (B F H : Hp) (σ : L2.St) (r : Rho) (xs : List V) (ds : List D) (r' : Rho) (Q : L2.St → Hp → Prop), Sta G pn B F H σ r → Reps G F xs ds → tf ds r = some r' → (∀ σ', Upto T σ σ' → Sta G pn B F H σ' r' → Q σ' H) → g xs σ H Q
def tfName (i : Nat) : TF := fun d r => some (r.set i (.val d))
def tfNil : TFs := fun ds r => match ds with
  | [] => some r
  | _ => none
def tfCons (t : TF) (u : TFs) : TFs := fun ds r => match ds with
  | [] => none
  | d :: ds => (t d r).bind fun r1 => u ds r1
def tfTup (n : Nat) (u : TFs) : TF := fun d r => match d with
  | .tup ds => if ds.length = n then u ds r else none
  | .lst ds => if ds.length = n then u ds r else none
  | _ => none
section
variable {G : Gam} {pn : Option Addr} {X : Cx}
theorem tg_name {i : Nat} (h0 : i ≠ 0 ∨ pn = none) : TgOK G pn [i] (tfName i) (gName i) := fun B F H σ r x d r' Q s h e k => by
  cases e
  exact k _ (Upto.set i _ σ) (s.setVal h0 h)
theorem tgs_nil : TgsOK G pn [] tfNil gNil := fun B F H σ r xs ds r' Q s h e k => by
  cases ds with
  | nil => cases e; exact ⟨h.inv_nil, k σ (Upto.refl σ) s⟩
  | cons => cases e
theorem tgs_cons {T U : List Nat} {t : TF} {u : TFs} {g : TG} {gs : TGs} (h1 : TgOK G pn T t g) (h2 : TgsOK G pn U u gs) : TgsOK G pn (T ++ U) (tfCons t u) (gCons g gs) := fun B F H σ r xs ds r' Q s h e k => by
  cases ds with
  | nil => cases e
  | cons d ds =>
    obtain ⟨v, ws, rfl, a1, a2⟩ := Reps.inv_cons h
    have e : (t d r).bind (fun r1 => u ds r1) = some r' := e
    cases q : t d r with
    | none => rw [q] at e; cases e
    | some r1 =>
      rw [q] at e
      exact ⟨v, ws, rfl, h1 B F H σ r v d r1 _ s a1 q fun σ1 u1 s1 => h2 B F H σ1 r1 ws ds r' Q s1 a2 e fun σ2 u2 s2 => k σ2 (u1.trans u2) s2⟩
/-- a tuple's target that takes a tuple or a list -/
def gAny (K : PySem.W.Frag) (n : Nat) (t : TGs) : TG := fun v σ H Q => gTup K n t v σ H Q ∨ gUnl K n t v σ H Q
theorem PG_or {tg : Expr} {g g' : TG} (h : PG X tg g) (h' : PG X tg g') : PG X tg fun v σ H Q => g v σ H Q ∨ g' v σ H Q := ⟨fun pins s σ H v u Q I r q => by
  rcases q with q | q
  · exact h.run pins s σ H v u Q I r q
  · exact h'.run pins s σ H v u Q I r q⟩
theorem tg_tup {T : List Nat} {n : Nat} {u : TFs} {gs : TGs} (h : TgsOK G pn T u gs) : TgOK G pn T (tfTup n u) (gAny G.K n gs) := fun B F H σ r x d r' Q s hr e k => by
  unfold tfTup at e
  split at e
  · rename_i ds
    split at e
    · rename_i hl
      obtain ⟨a, xs, rfl, h1, h2⟩ := RepO.tup (H := H) (.inl hr)
      exact .inl ⟨a, xs, rfl, sqt_mono s.fH h1, by rw [h2.length]; exact hl, h B F H σ r xs ds r' Q s h2 e k⟩
    · cases e
  · rename_i ds
    split at e
    · rename_i hl
      obtain ⟨a, xs, rfl, h1, h2⟩ := RepO.lst s.fH (.inl hr)
      exact .inr ⟨a, xs, rfl, SqL.of h1, by rw [h2.length]; exact hl, h B F H σ r xs ds r' Q s h2 e k⟩
    · cases e
  · cases e
end

/-! ### what is walked -/
def Drv (G : Gam) (J : It) (F : Hp) (ds : List D) : Prop := ∃ (Gd : Hp → Prop) (Y : Nat → Hp → V → Hp → Prop), Walk J ds.length Gd Y ∧ (∀ H', Same F H' → Gd H') ∧
  ∀ (F' H' : Hp) (k : Nat) (x : V) (H'' : Hp) (d : D), Same F F' → Same F' H' → Y k H' x H'' → ds[k]? = some d → ∃ F'', Same F' F'' ∧ Same H' H'' ∧ Same F'' H'' ∧ NewO H' F' F'' ∧ Rep G F'' x d
theorem Drv.same {G : Gam} {J : It} {F : Hp} {ds : List D} {Gd : Hp → Prop} {Y : Nat → Hp → V → Hp → Prop} (w : Walk J ds.length Gd Y) (hg : ∀ H', Same F H' → Gd H')
    (hy : ∀ (k : Nat) (H' : Hp) (x : V) (H'' : Hp) (d : D), Y k H' x H'' → ds[k]? = some d → H'' = H' ∧ Rep G F x d) : Drv G J F ds := ⟨Gd, Y, w, hg, fun F' H' k x H'' d e1 e2 y e => by
  obtain ⟨rfl, h⟩ := hy k H' x H'' d y e
  exact ⟨F', Same.refl _, Same.refl _, e2, NewO.refl _ _, h.mono e1⟩⟩
abbrev MI := Rho → Res (List D)
def PostI (G : Gam) (pn : Option Addr) (W : WX) (B F : Hp) (σ : L2.St) (R : It → Hp → Prop) : Res (List D) → Prop
  | .ok ds r => ∀ (J : It) (F' H' : Hp), Same F F' → NewO B F F' → Sta G pn B F' H' σ r → Drv G J F' ds → R J H'
  | .exn x r => ∀ (cls : Value) (d : Option Addr) (F' H' : Hp), Same F F' → NewO B F F' → Sta G pn B F' H' σ r → ExnR G F' H' x cls d → W cls d σ H'
  | .stuck => False
def tI (G : Gam) (pn : Option Addr) (W : WX) (m : MI) : TI := fun σ H R => ∃ B F r, Sta G pn B F H σ r ∧ PostI G pn W B F σ R (m r)
theorem PI.imp {X : Cx} {tg e : Expr} {t t' : TI} (h : PI X tg e t) (i : ∀ σ H R, t' σ H R → t σ H R) : PI X tg e t' := ⟨fun pins s σ H R I q => h.run pins s σ H R I (i σ H R q)⟩
theorem PI.or {X : Cx} {tg e : Expr} {t t' : TI} (h : PI X tg e t) (h' : PI X tg e t') : PI X tg e fun σ H R => t σ H R ∨ t' σ H R := ⟨fun pins s σ H R I q => by
  rcases q with q | q
  · exact h.run pins s σ H R I q
  · exact h'.run pins s σ H R I q⟩
def isTup : D → Bool
  | .tup _ => true
  | _ => false
/-- a list or a tuple -/
def mIter (m : M) : MI := fun r => bindR (m r) fun o r1 => match frz r1 o with
  | some (d, r2) => opt (itemsD d) r2
  | none => .stuck
section
variable {G : Gam} {pn : Option Addr} {W : WX} {X : Cx} {F F' H H' : Hp} {σ : L2.St}
theorem drv_list {a : Addr} {xs : List V} {ds : List D} (h : SqL G.K F a xs) (r : Reps G F xs ds) : Drv G (Itl G.K a) F ds := by
  refine Drv.same (Gd := fun H => SqL G.K H a xs) (Y := YAt xs) (by rw [← r.length]; exact walk_list) (fun H' e => e.seq h) fun k H' x H'' d ⟨e1, e2⟩ e => ⟨e1, ?_⟩
  obtain ⟨d', h1, h2⟩ := r.getV e2
  rw [h1] at e; cases e
  exact h2
theorem drv_tup {a : Addr} {xs : List V} {ds : List D} (h : SqT G.K F a xs) (r : Reps G F xs ds) : Drv G (Itt G.K a) F ds := by
  refine Drv.same (Gd := fun H => SqT G.K H a xs) (Y := YAt xs) (by rw [← r.length]; exact walk_tup) (fun H' e => sqt_mono e h) fun k H' x H'' d ⟨e1, e2⟩ e => ⟨e1, ?_⟩
  obtain ⟨d', h1, h2⟩ := r.getV e2
  rw [h1] at e; cases e
  exact h2
theorem drv_range {lo c : Int} {n : Nat} : Drv G (Itc lo c n) F ((List.range n).map fun i => .int (lo + (i : Nat) * c)) := by
  refine Drv.same (Gd := fun _ => True) (Y := YFn fun i => .int (lo + (i : Nat) * c)) (by rw [List.length_map, List.length_range]; exact walk_rangeC) (fun _ _ => True.intro) fun k H' x H'' d ⟨e1, e2⟩ e => ⟨e1, ?_⟩
  rw [List.getElem?_map] at e
  cases q : (List.range n)[k]? with
  | none => rw [q] at e; cases e
  | some j =>
    rw [q] at e
    cases e
    have : j = k := by
      rw [List.getElem?_eq_some_iff] at q
      obtain ⟨hl, q⟩ := q
      rw [List.getElem_range] at q
      exact q.symm
    subst this e2
    exact .int _
theorem drv_range1 {lo : Int} {n : Nat} : Drv G (Itr lo n) F ((List.range n).map fun i => .int (lo + (i : Nat))) := by
  refine Drv.same (Gd := fun _ => True) (Y := YFn fun i => .int (lo + (i : Nat))) (by rw [List.length_map, List.length_range]; exact walk_range) (fun _ _ => True.intro) fun k H' x H'' d ⟨e1, e2⟩ e => ⟨e1, ?_⟩
  rw [List.getElem?_map] at e
  cases q : (List.range n)[k]? with
  | none => rw [q] at e; cases e
  | some j =>
    rw [q] at e
    cases e
    have : j = k := by
      rw [List.getElem?_eq_some_iff] at q
      obtain ⟨hl, q⟩ := q
      rw [List.getElem_range] at q
      exact q.symm
    subst this e2
    exact .int _
/-- pairs: new tuples -/
theorem drv_pair {J : It} {ds : List D} {Gd : Hp → Prop} {f g : Nat → Option V} (w : Walk J ds.length Gd (YPair f g)) (hg : ∀ H', Same F H' → Gd H')
    (hy : ∀ (k : Nat) (x y : V) (d : D), f k = some x → g k = some y → ds[k]? = some d → ∃ d1 d2, d = .tup [d1, d2] ∧ Rep G F x d1 ∧ Rep G F y d2) : Drv G J F ds := by
  refine ⟨Gd, YPair f g, w, hg, fun F' H' k x H'' d e1 e2 ⟨T, x1, x2, ex, hT, eH, f1, f2⟩ e => ?_⟩
  subst ex eH
  obtain ⟨d1, d2, rfl, h1, h2⟩ := hy k x1 x2 d f1 f2 e
  have q : Same F' (upd F' T (.tup [x1, x2])) := same_upd (e2.free hT)
  exact ⟨upd F' T (.tup [x1, x2]), q, same_upd hT, same_both e2, NewO.upd hT, .tup T [x1, x2] _ (SqT.of upd_same) (.two ((h1.mono e1).mono q) ((h2.mono e1).mono q))⟩
theorem tI_iter {m : M} {σ : L2.St} {H : Hp} {R : It → Hp → Prop} (h : tI G pn W (mIter m) σ H R) : iList G.K (tM G pn W m) σ H R ∨ iTup G.K (tM G pn W m) σ H R := by
  obtain ⟨B, F, r, s, p⟩ := h
  unfold mIter at p
  cases e : m r with
  | stuck => rw [e] at p; exact p.elim
  | exn x r1 =>
    rw [e] at p
    refine .inl ⟨B, F, r, s, ?_⟩
    rw [e]
    exact p
  | ok o r1 =>
    rw [e] at p
    have p : PostI G pn W B F σ R (match frz r1 o with
      | some (d, r2) => opt (itemsD d) r2
      | none => .stuck) := p
    cases q : frz r1 o with
    | none => rw [q] at p; exact p.elim
    | some dr =>
      obtain ⟨d, r2⟩ := dr
      rw [q] at p
      have p : PostI G pn W B F σ R (opt (itemsD d) r2) := p
      cases q2 : itemsD d with
      | none => rw [q2] at p; exact p.elim
      | some ds =>
        rw [q2] at p
        have key : ∀ (v : V) (F1 H1 : Hp), Same F F1 → NewO B F F1 → Sta G pn B F1 H1 σ r1 → OpdR G B F1 H1 σ r1 v o →
            ∃ F2, Same F1 F2 ∧ Sta G pn B F2 H1 σ r2 ∧ Rep G F2 v d ∧ ∀ J, Drv G J F2 ds → R J H1 := fun v F1 H1 e1 n1 s1 o1 => by
          obtain ⟨F2, e2, n2, s2, h2⟩ := s1.frz o1 q
          exact ⟨F2, e2, s2, h2, fun J dj => p J F2 H1 (e1.trans e2) (n1.trans n2) s2 dj⟩
        by_cases hT : isTup d = true
        · refine .inr ⟨B, F, r, s, ?_⟩
          rw [e]
          intro v F1 H1 e1 n1 s1 o1
          obtain ⟨F2, e2, s2, h2, k⟩ := key v F1 H1 e1 n1 s1 o1
          cases d <;> cases hT
          cases q2
          obtain ⟨a, xs, rfl, h3, h4⟩ := RepO.tup (H := H1) (.inl h2)
          exact ⟨a, rfl, ⟨xs, sqt_mono s2.fH h3⟩, k _ (drv_tup h3 h4)⟩
        · refine .inl ⟨B, F, r, s, ?_⟩
          rw [e]
          intro v F1 H1 e1 n1 s1 o1
          obtain ⟨F2, e2, s2, h2, k⟩ := key v F1 H1 e1 n1 s1 o1
          cases d <;> cases q2
          · exact absurd rfl hT
          · cases h2 with
            | lst a xs ds h3 h4 => exact ⟨a, rfl, ⟨xs, SqL.of (s2.fH _ _ h3)⟩, k _ (drv_list (SqL.of h3) h4)⟩
          · cases h2 with
            | scr a xs ds h3 h4 => exact ⟨a, rfl, ⟨xs, s2.fH.seq h3⟩, k _ (drv_list h3 h4)⟩
theorem PI_iter {tg e : Expr} {m : M} (hK : X.K = G.K) (h : PE X e (tM G pn W m)) : PI X tg e (tI G pn W (mIter m)) := PI.imp (PI.or (pi_list h) (pi_tup h)) fun σ H R q => by
  rw [hK]
  exact tI_iter q

/-- range(a), range(a, b), range(a, b, c) -/
def rgD : List D → Option (List D)
  | [.int j] => if -(2 ^ 62) ≤ j ∧ j < 2 ^ 62 then some ((List.range j.toNat).map fun i => .int (0 + (i : Nat))) else none
  | [.int i, .int j] => if -(2 ^ 62) ≤ i ∧ i < 2 ^ 62 ∧ -(2 ^ 62) ≤ j ∧ j < 2 ^ 62 then some ((List.range (j - i).toNat).map fun k => .int (i + (k : Nat))) else none
  | _ => none
def mRange (ma : MA) : MI := fun r => bindR (ma r) fun os r1 => opt ((peeks r1 os).bind rgD) r1
theorem tI_rangeA {ma : MA} {R : It → Hp → Prop} (h : tI G pn W (mRange ma) σ H R) : tMA G pn W ma σ H fun vs H1 => (∃ j : Int, vs = [.int j] ∧ (-(2 ^ 62) ≤ j ∧ j < 2 ^ 62) ∧ R (Itr 0 j.toNat) H1) ∨
    ∃ i j : Int, vs = [.int i, .int j] ∧ (-(2 ^ 62) ≤ i ∧ i < 2 ^ 62 ∧ -(2 ^ 62) ≤ j ∧ j < 2 ^ 62) ∧ R (Itr i (j - i).toNat) H1 := by
  obtain ⟨B, F, r, s, p⟩ := h
  refine ⟨B, F, r, s, ?_⟩
  unfold mRange at p
  revert p
  cases ma r with
  | stuck => exact id
  | exn x r1 => exact id
  | ok os r1 =>
    intro p vs F1 H1 e1 n1 s1 o1
    replace p : PostI G pn W B F σ R (opt ((peeks r1 os).bind rgD) r1) := p
    cases q : peeks r1 os with
    | none => rw [q] at p; exact p.elim
    | some ds =>
      rw [q] at p
      replace p : PostI G pn W B F σ R (opt (rgD ds) r1) := p
      have rs := s1.peeks o1 q
      unfold rgD at p
      split at p
      · rename_i j
        split at p
        · rename_i hc
          cases rs with
          | cons v d vs ds h t =>
            cases t
            exact .inl ⟨j, by rw [h.int], hc, p _ F1 H1 e1 n1 s1 drv_range1⟩
        · exact p.elim
      · rename_i i j
        split at p
        · rename_i hc
          cases rs with
          | cons v d vs ds h t =>
            cases t with
            | cons v2 d2 vs2 ds2 h2 t2 =>
              cases t2
              exact .inr ⟨i, j, by rw [h.int, h2.int], hc, p _ F1 H1 e1 n1 s1 drv_range1⟩
        · exact p.elim
      · exact p.elim
end

/-! ### loops -/
def forL (tf : TF) (body : MS) : List D → Rho → Out
  | [], r => .next r
  | d :: ds, r => match tf d r with
    | none => .stuck
    | some r1 => (match body r1 with
      | .next r2 => forL tf body ds r2
      | .cont r2 => forL tf body ds r2
      | .brk r2 => .next r2
      | .ret o r2 => .ret o r2
      | .exn x r2 => .exn x r2
      | .stuck => .stuck)
def sFor (mi : MI) (tf : TF) (body : MS) : MS := fun r => bindS (mi r) fun ds r1 => forL tf body ds r1
def whL (t : MT) (body : MS) : Nat → Rho → Out
  | 0, _ => .stuck
  | n + 1, r => bindS (t r) fun c r1 => if c = true then (match body r1 with
      | .next r2 => whL t body n r2
      | .cont r2 => whL t body n r2
      | .brk r2 => .next r2
      | .ret o r2 => .ret o r2
      | .exn x r2 => .exn x r2
      | .stuck => .stuck) else .next r1
/-- turns enough -/
def fuel : Nat := 2 ^ 64
def sWhile (t : MT) (body : MS) : MS := fun r => whL t body fuel r

section
variable {G : Gam} {pn : Option Addr} {W : WX} {X : Cx} {B F F' H H' : Hp} {σ : L2.St} {r : Rho} {D₀ : Ends}
theorem tS_for {mi : MI} {tf : TF} {g : TG} {body : MS} {T : List Nat} (hg : TgOK G pn T tf g) (h : tS G pn W (sFor mi tf body) D₀ σ H) : tFor (tI G pn W mi) g (tS G pn W body) D₀ σ H := by
  obtain ⟨B, F, r, s, p⟩ := h
  refine ⟨B, F, r, s, ?_⟩
  unfold sFor at p
  revert p
  cases mi r with
  | stuck => exact id
  | exn x r1 => exact fun p cls d F1 H1 e n st x => p cls d σ F1 H1 e n st x
  | ok ds r1 =>
    intro p J F1 H1 e1 n1 s1 ⟨Gd, Y, w, hG, hY⟩
    have p : PostS G pn W B F D₀ (forL tf body ds r1) := p
    refine for_it w (fun i σ H => ∃ F2 r2, Same F1 F2 ∧ NewO B F1 F2 ∧ Sta G pn B F2 H σ r2 ∧ PostS G pn W B F2 D₀ (forL tf body (ds.drop i) r2))
      ⟨F1, r1, Same.refl _, NewO.refl _ _, s1, by rw [List.drop_zero]; exact PostS.mono e1 n1 p⟩ (fun i σ H _ ⟨F2, r2, e2, _, s2, _⟩ => hG H (e2.trans s2.fH)) ?_ ?_
    · intro i x σ2 H2 H2' hi ⟨F2, r2, e2, n2, s2, p2⟩ y
      obtain ⟨d, hd⟩ : ∃ d, ds[i]? = some d := ⟨ds[i], List.getElem?_eq_getElem hi⟩
      obtain ⟨F3, e3, e4, e5, n3, h3⟩ := hY F2 H2 i x H2' d e2 s2.fH y hd
      have s3 := s2.growS e3 e4 e5 n3
      replace e3 : Same F2 (noT F3) := same_noT e3 s2.kp.nF
      replace h3 : Rep G (noT F3) x d := h3.noT
      have nB : NewO B F2 (noT F3) := (s2.newO n3).noT
      have ed : ds.drop i = d :: ds.drop (i + 1) := by
        rw [List.drop_eq_getElem_cons hi]
        rw [List.getElem?_eq_getElem hi] at hd
        cases hd
        rfl
      rw [ed] at p2
      unfold forL at p2
      cases q : tf d r2 with
      | none => rw [q] at p2; exact p2.elim
      | some r3 =>
        rw [q] at p2
        simp only at p2
        refine hg B (noT F3) H2' σ2 r2 x d r3 _ s3 h3 q fun σ3 u3 s4 => ?_
        refine ⟨B, noT F3, r3, s4, ?_⟩
        have p3 := PostS.mono e3 nB p2
        revert p3
        cases body r3 with
        | stuck => exact id
        | next r4 => exact fun p3 σ' F' H' e n st => ⟨F', r4, (e2.trans e3).trans e, (n2.trans nB).trans n, st, PostS.mono e n p3⟩
        | cont r4 => exact fun p3 σ' F' H' e n st => ⟨F', r4, (e2.trans e3).trans e, (n2.trans nB).trans n, st, PostS.mono e n p3⟩
        | brk r4 => exact id
        | ret o r4 => exact id
        | exn x r4 => exact id
    · intro σ2 H2 ⟨F2, r2, e2, n2, s2, p2⟩
      rw [List.drop_length] at p2
      exact p2 σ2 F2 H2 (Same.refl _) (NewO.refl _ _) s2
theorem tS_while {t : MT} {body : MS} (h : tS G pn W (sWhile t body) D₀ σ H) : tWhile (tMT G pn W t) (tS G pn W body) D₀ σ H := by
  obtain ⟨B, F, r, s, p⟩ := h
  refine ⟨fun n σ H => ∃ F2 r2, Sta G pn B F2 H σ r2 ∧ PostS G pn W B F2 D₀ (whL t body n r2), ⟨fuel, F, r, s, p⟩, ?_⟩
  rintro n σ2 H2 ⟨F2, r2, s2, p2⟩
  cases n with
  | zero => exact p2.elim
  | succ n =>
    refine ⟨B, F2, r2, s2, ?_⟩
    unfold whL at p2
    revert p2
    cases t r2 with
    | stuck => exact id
    | exn x r3 => exact fun p2 cls d F3 H3 e3 n3 s3 x3 => p2 cls d σ2 F3 H3 e3 n3 s3 x3
    | ok c r3 =>
      intro p2 F3 H3 e3 n3 s3
      have p3 := PostS.mono e3 n3 p2
      cases c with
      | false => exact p3 σ2 F3 H3 (Same.refl _) (NewO.refl _ _) s3
      | true =>
        refine ⟨fun σ' H' => ∃ F4 r4, Sta G pn B F4 H' σ' r4 ∧ PostS G pn W B F4 D₀ (whL t body n r4), fun σ' H' q => ⟨n, Nat.lt_succ_self n, q⟩, ?_⟩
        refine ⟨B, F3, r3, s3, ?_⟩
        have p3 : PostS G pn W B F3 D₀ (match body r3 with
          | .next r2 => whL t body n r2
          | .cont r2 => whL t body n r2
          | .brk r2 => .next r2
          | .ret o r2 => .ret o r2
          | .exn x r2 => .exn x r2
          | .stuck => .stuck) := p3
        revert p3
        cases body r3 with
        | stuck => exact id
        | next r4 => exact fun p3 σ' F' H' e n st => ⟨F', r4, st, PostS.mono e n p3⟩
        | cont r4 => exact fun p3 σ' F' H' e n st => ⟨F', r4, st, PostS.mono e n p3⟩
        | brk r4 => exact id
        | ret o r4 => exact id
        | exn x r4 => exact id
end
section
variable {G : Gam} {pn : Option Addr} {W : WX} {X : Cx} {tg iter c : Expr} {body : List Stmt} {pos : Pos} {mi : MI} {tf : TF} {g : TG} {b : MS} {T : List Nat} {t : MT}
theorem PS_for (hp : PassesOwn (model X.prog X.w) X.A X.env X.xe) (hc : X.calm = true) (hi : PI X tg iter (tI G pn W mi)) (hg : PG X tg g) (ht : TgOK G pn T tf g) (hb : PSs X body (tS G pn W b)) (hs : ∀ x, foldedSetIterable iter X.env x = pure x) :
    PS X (.For tg iter body [] pos) (tS G pn W (sFor mi tf b)) := PS.imp (ps_for hp hc hi hg hb hs) fun D σ H h => tS_for ht h
theorem PS_while (hp : PassesOwn (model X.prog X.w) X.A X.env X.xe) (hc : PT X c (tMT G pn W t)) (hb : PSs X body (tS G pn W b)) : PS X (.While c body [] pos) (tS G pn W (sWhile t b)) := PS.imp (ps_while hp hc hb) fun D σ H h => tS_while h
end
end Ev
/-! Ev, part G: comprehensions; lists of one's own, written into. -/
namespace Ev
open PySem PySem.Spec PyProof.Rows L2

/-! ### comprehensions -/
def noX {α : Type} : Res α → Res α
  | .exn _ _ => .stuck
  | x => x
def wipeR (r : Rho) : List Nat → Rho
  | [] => r
  | v :: vs => (wipeR r vs).set v .no
def isOwn : Option Sl → Bool
  | some (.own _) => true
  | _ => false
def restoreR (r1 r2 : Rho) : List Nat → Rho
  | [] => r2
  | v :: vs => (restoreR r1 r2 vs).set v (r1.getD v .no)
def lcL (own : List Nat) (tf : TF) (tt : MT) (el : M) : List D → Rho → Res (List D)
  | [], r => .ok [] r
  | d :: ds, r => match tf d r with
    | none => .stuck
    | some r1 => bindR (noX (tt r1)) fun b r2 => if b = true then bindR (noX (el r2)) fun o r3 => (match frz r3 o with
        | some (x, r4) => bindR (lcL own tf tt el ds (wipeR r4 own)) fun xs r5 => .ok (x :: xs) r5
        | none => .stuck) else lcL own tf tt el ds (wipeR r2 own)
def mLc (own : List Nat) (mi : MI) (tf : TF) (tt : MT) (el : M) : M := fun r => bindR (mi r) fun ds r1 =>
  if (own.any fun i => isOwn r1[i]?) = true ∨ sizeLine < ds.length then .stuck else bindR (noX (lcL own tf tt el ds (wipeR r1 own))) fun xs r2 => .ok (.fresh (.lst xs)) (restoreR r1 r2 own)
def mtYes : MT := fun r => .ok true r
abbrev W0 : WX := fun _ _ _ _ => False

theorem wipeR_length (r : Rho) : ∀ vs : List Nat, (wipeR r vs).length = r.length
  | [] => rfl
  | v :: vs => by unfold wipeR; rw [List.length_set, wipeR_length r vs]
theorem wipeR_some {r : Rho} {i : Nat} {x : Sl} (hx : x ≠ .no) : ∀ {vs : List Nat}, (wipeR r vs)[i]? = some x → r[i]? = some x ∧ i ∉ vs
  | [], h => ⟨h, by simp⟩
  | v :: vs, h => by
    unfold wipeR at h
    by_cases hi : v = i
    · subst hi
      have hl : v < (wipeR r vs).length := by have := lt_of_get h; rw [List.length_set] at this; exact this
      rw [set_self hl] at h
      exact absurd (Option.some.inj h).symm hx
    · rw [set_ne hi] at h
      obtain ⟨h1, h2⟩ := wipeR_some hx h
      exact ⟨h1, by simp only [List.mem_cons, not_or]; exact ⟨fun e => hi e.symm, h2⟩⟩
theorem wipe_out {σ : L2.St} {i : Nat} : ∀ {vs : List Nat}, i ∉ vs → (wipe σ vs)[i]? = σ[i]?
  | [], _ => rfl
  | v :: vs, h => by
    rw [List.mem_cons, not_or] at h
    unfold wipe
    rw [List.getElem?_set_ne (Ne.symm h.1)]
    exact wipe_out h.2
theorem wipe_in {σ : L2.St} {i : Nat} : ∀ {vs : List Nat}, i ∈ vs → i < σ.length → (wipe σ vs)[i]? = some none
  | v :: vs, h, hl => by
    unfold wipe
    by_cases e : v = i
    · subst e
      exact List.getElem?_set_self (by rw [wipe_length]; exact hl)
    · rw [List.getElem?_set_ne e]
      rcases List.mem_cons.mp h with h | h
      · exact absurd h.symm e
      · exact wipe_in h hl
theorem wipe_upto {T vs : List Nat} {σ σ' : L2.St} (u : Upto T σ σ') (h : ∀ i ∈ T, i ∈ vs) : wipe σ' vs = wipe σ vs := by
  apply List.ext_getElem?
  intro i
  by_cases hi : i ∈ vs
  · by_cases hl : i < σ.length
    · rw [wipe_in hi hl, wipe_in hi (by rw [u.1]; exact hl)]
    · rw [List.getElem?_eq_none (by rw [wipe_length, u.1]; omega), List.getElem?_eq_none (by rw [wipe_length]; omega)]
  · rw [wipe_out hi, wipe_out hi]
    exact u.2 i fun z => hi (h i z)
theorem wipe_wipe {vs : List Nat} {σ : L2.St} : wipe (wipe σ vs) vs = wipe σ vs := by
  apply List.ext_getElem?
  intro i
  by_cases hi : i ∈ vs
  · by_cases hl : i < σ.length
    · rw [wipe_in hi hl, wipe_in hi (by rw [wipe_length]; exact hl)]
    · rw [List.getElem?_eq_none (by rw [wipe_length, wipe_length]; omega), List.getElem?_eq_none (by rw [wipe_length]; omega)]
  · rw [wipe_out hi]
theorem restoreR_in {r1 r2 : Rho} {i : Nat} {x : Sl} (hl : r1.length = r2.length) : ∀ {vs : List Nat}, (restoreR r1 r2 vs)[i]? = some x → (i ∈ vs ∧ r1[i]? = some x) ∨ (i ∉ vs ∧ r2[i]? = some x)
  | [], h => .inr ⟨by simp, h⟩
  | v :: vs, h => by
    unfold restoreR at h
    by_cases hi : v = i
    · subst hi
      have hlt := lt_of_get h
      rw [List.length_set] at hlt
      rw [set_self hlt] at h
      have e : r1.getD v .no = x := Option.some.inj h
      have hlr : (restoreR r1 r2 vs).length = r2.length := by
        clear h e hlt
        induction vs with
        | nil => rfl
        | cons w ws ih => unfold restoreR; rw [List.length_set]; exact ih
      rw [hlr, ← hl] at hlt
      rw [List.getD_eq_getElem?_getD, List.getElem?_eq_getElem hlt] at e
      exact .inl ⟨List.mem_cons_self, by rw [List.getElem?_eq_getElem hlt]; exact congrArg some e⟩
    · rw [set_ne hi] at h
      rcases restoreR_in hl h with ⟨a, b⟩ | ⟨a, b⟩
      · exact .inl ⟨List.mem_cons_of_mem _ a, b⟩
      · exact .inr ⟨by rw [List.mem_cons, not_or]; exact ⟨fun z => hi z.symm, a⟩, b⟩
theorem restoreR_length {r1 r2 : Rho} : ∀ {vs : List Nat}, (restoreR r1 r2 vs).length = r2.length
  | [] => rfl
  | v :: vs => by unfold restoreR; rw [List.length_set]; exact restoreR_length

section
variable {G : Gam} {pn : Option Addr} {W : WX} {X : Cx} {B F F' H H' : Hp} {σ : L2.St} {r : Rho}
theorem Sta.wipe (s : Sta G pn B F H σ r) (vs : List Nat) (h0 : 0 ∉ vs ∨ pn = none) : Sta G pn B F H (L2.wipe σ vs) (wipeR r vs) := by
  refine ⟨s.bH, s.fH, s.kp, by rw [wipeR_length, wipe_length]; exact s.len, fun i d h => ?_, fun i d h => ?_, fun i j d e a hij h1 h2 h3 h4 => ?_, fun a e => ?_⟩
  · obtain ⟨h1, h2⟩ := wipeR_some (by intro z; cases z) h
    rw [wipe_out h2]
    exact s.val i d h1
  · obtain ⟨h1, h2⟩ := wipeR_some (by intro z; cases z) h
    rw [wipe_out h2]
    exact s.own i d h1
  · obtain ⟨a1, a2⟩ := wipeR_some (by intro z; cases z) h1
    obtain ⟨b1, b2⟩ := wipeR_some (by intro z; cases z) h2
    rw [wipe_out a2] at h3
    rw [wipe_out b2] at h4
    exact s.dis i j d e a hij a1 b1 h3 h4
  · rcases h0 with h0 | h0
    · rw [wipe_out h0]; exact s.pin a e
    · rw [h0] at e; cases e
/-- one more object to be kept -/
theorem Sta.rebase (s : Sta G pn B F H σ r) {p : Addr} {o : HO} (hp : H p = none) (ho : isT (some o) = false) : Sta G pn (upd B p o) F (upd H p o) σ r where
  bH := same_both s.bH
  fH := fun b u e => by rw [upd_ne (ne_of_none (s.fH b u e) hp)]; exact s.fH b u e
  kp := ⟨s.kp.nB.upd ho, s.kp.nF, G.invS _ _ (same_upd hp) s.kp.iv⟩
  len := s.len
  val := s.val
  own := fun i d h => by
    obtain ⟨a, ha, oa⟩ := s.own i d h
    obtain ⟨u, hu, _⟩ := oa.here
    have hne : a ≠ p := ne_of_none hu hp
    exact ⟨a, ha, oa.move (by rw [upd_ne hne]; exact oa.nb) oa.nf (upd_ne hne) (Same.refl _)⟩
  dis := s.dis
  pin := s.pin
theorem Sta.chbase {p : Addr} {xs ys : List V} (s : Sta G pn (upd B p (.lst xs)) F H σ r) (hf : F p = none) : Sta G pn (upd B p (.lst ys)) F (upd H p (.lst ys)) σ r where
  bH := fun b u e => by
    by_cases hb : b = p
    · subst hb; rw [upd_same] at e ⊢; exact e
    · rw [upd_ne hb] at e ⊢; exact s.bH b u (by rw [upd_ne hb]; exact e)
  fH := fun b u e => by rw [upd_ne (ne_of_none e hf)]; exact s.fH b u e
  kp := ⟨fun b => by
    by_cases hb : b = p
    · subst hb; rw [upd_same]; rfl
    · have := s.kp.nB b
      rw [upd_ne hb] at this ⊢
      exact this, s.kp.nF, G.invU _ _ xs _ (s.bH p _ upd_same) s.kp.iv⟩
  len := s.len
  val := s.val
  own := fun i d h => by
    obtain ⟨a, ha, oa⟩ := s.own i d h
    have hne : a ≠ p := fun z => by have := oa.nb; rw [z, upd_same] at this; cases this
    exact ⟨a, ha, oa.move (by rw [upd_ne hne]; have := oa.nb; rw [upd_ne hne] at this; exact this) oa.nf (upd_ne hne) (Same.refl _)⟩
  dis := s.dis
  pin := s.pin
theorem Sta.unbase {p : Addr} {o : HO} (s : Sta G pn (upd B p o) F H σ r) (hb : B p = none) : Sta G pn B F H σ r where
  bH := fun b u e => s.bH b u (by rw [upd_ne (ne_of_none e hb)]; exact e)
  fH := s.fH
  kp := ⟨fun b => by
    by_cases h : b = p
    · rw [h, hb]; rfl
    · have := s.kp.nB b
      rw [upd_ne h] at this
      exact this, s.kp.nF, s.kp.iv⟩
  len := s.len
  val := s.val
  own := fun i d h => by
    obtain ⟨a, ha, oa⟩ := s.own i d h
    have hne : a ≠ p := fun z => by have := oa.nb; rw [z, upd_same] at this; cases this
    exact ⟨a, ha, oa.move (by have := oa.nb; rw [upd_ne hne] at this; exact this) oa.nf rfl (Same.refl _)⟩
  dis := s.dis
  pin := s.pin
theorem NewO.unbase {p : Addr} {o : HO} (n : NewO (L2.upd B p o) F F') (hb : B p = none) : NewO B F F' := fun c h1 h2 => n c (by rw [upd_ne (fun z => h1 (by rw [z]; exact hb))]; exact h1) h2
theorem NewO.atp {p : Addr} {o : HO} (n : NewO (L2.upd B p o) F F') (hf : F p = none) : F' p = none := n p (by rw [upd_same]; exact fun z => nomatch z) hf
theorem tMT_noX {t : MT} {Q : Bool → Hp → Prop} (h : tMT G pn W0 (fun r => noX (t r)) σ H Q) : tMT G pn W0 t σ H Q := by
  obtain ⟨B, F, r, s, p⟩ := h
  refine ⟨B, F, r, s, ?_⟩
  revert p
  show PostT G pn W0 B F σ Q (noX (t r)) → _
  cases t r with
  | stuck => exact id
  | exn x r => exact fun p => p.elim
  | ok b r => exact id
theorem tM_noX {t : M} {Q : VK} (h : tM G pn W0 (fun r => noX (t r)) σ H Q) : tM G pn W0 t σ H Q := by
  obtain ⟨B, F, r, s, p⟩ := h
  refine ⟨B, F, r, s, ?_⟩
  revert p
  show PostE G pn W0 B F σ Q (noX (t r)) → _
  cases t r with
  | stuck => exact id
  | exn x r => exact fun p => p.elim
  | ok b r => exact id
/-- the turns of a comprehension: ok with items, or stuck -/
def PostL (G : Gam) (B F : Hp) (K : List D → Rho → Prop) : Res (List D) → Prop
  | .ok zs r => K zs r
  | _ => False
theorem lcL_cases {own : List Nat} {tf : TF} {tt : MT} {el : M} {K : List D → Rho → Prop} {d : D} {ds : List D} {r : Rho} (h : PostL G B F K (lcL own tf tt el (d :: ds) r)) :
    ∃ r1 b r2, tf d r = some r1 ∧ tt r1 = .ok b r2 ∧ (b = false → PostL G B F K (lcL own tf tt el ds (wipeR r2 own))) ∧
      (b = true → ∃ o r3 x r4, el r2 = .ok o r3 ∧ frz r3 o = some (x, r4) ∧ PostL G B F (fun zs r => K (x :: zs) r) (lcL own tf tt el ds (wipeR r4 own))) := by
  unfold lcL at h
  cases q1 : tf d r with
  | none => rw [q1] at h; exact h.elim
  | some r1 =>
    rw [q1] at h
    simp only at h
    cases q2 : tt r1 with
    | stuck => rw [q2] at h; exact h.elim
    | exn x r2 => rw [q2] at h; exact h.elim
    | ok b r2 =>
      rw [q2] at h
      refine ⟨r1, b, r2, rfl, q2, fun hb => ?_, fun hb => ?_⟩
      · subst hb
        exact h
      · subst hb
        have h : PostL G B F K (bindR (noX (el r2)) fun o r3 => (match frz r3 o with
          | some (x, r4) => bindR (lcL own tf tt el ds (wipeR r4 own)) fun xs r5 => .ok (x :: xs) r5
          | none => .stuck)) := h
        cases q3 : el r2 with
        | stuck => rw [q3] at h; exact h.elim
        | exn x r3 => rw [q3] at h; exact h.elim
        | ok o r3 =>
          rw [q3] at h
          have h : PostL G B F K (match frz r3 o with
            | some (x, r4) => bindR (lcL own tf tt el ds (wipeR r4 own)) fun xs r5 => .ok (x :: xs) r5
            | none => .stuck) := h
          cases q4 : frz r3 o with
          | none => rw [q4] at h; exact h.elim
          | some xr =>
            obtain ⟨x, r4⟩ := xr
            rw [q4] at h
            have h : PostL G B F K (bindR (lcL own tf tt el ds (wipeR r4 own)) fun xs r5 => .ok (x :: xs) r5) := h
            refine ⟨o, r3, x, r4, rfl, q4, ?_⟩
            cases q5 : lcL own tf tt el ds (wipeR r4 own) with
            | stuck => rw [q5] at h; exact h
            | exn y r5 => rw [q5] at h; exact h
            | ok zs r5 => rw [q5] at h; exact h
theorem tM_lc {own : List Nat} {mi : MI} {tf : TF} {g : TG} {tt : MT} {el : M} {T : List Nat} {Q : VK} (hg : TgOK G pn T tf g) (hT : ∀ i ∈ T, i ∈ own) (h0 : 0 ∉ own ∨ pn = none) (h : tM G pn W (mLc own mi tf tt el) σ H Q) :
    tLc (tI G pn W mi) g (tMT G pn W0 tt) (tM G pn W0 el) own σ H Q := by
  obtain ⟨B, F, r, s, p⟩ := h
  refine ⟨B, F, r, s, ?_⟩
  unfold mLc at p
  revert p
  cases mi r with
  | stuck => exact id
  | exn x r1 => exact id
  | ok ds r1 =>
    intro p J F1 H1 e1 n1 s1 ⟨Gd, Y, w, hG, hY⟩ p0 hD
    replace p : PostE G pn W B F σ Q (if (own.any fun i => isOwn r1[i]?) = true ∨ sizeLine < ds.length then .stuck else bindR (noX (lcL own tf tt el ds (wipeR r1 own))) fun xs r2 => .ok (.fresh (.lst xs)) (restoreR r1 r2 own)) := p
    split at p
    · exact p.elim
    · rename_i hno
      rw [not_or] at hno
      obtain ⟨hno, hsz⟩ := hno
      have hB : B p0 = none := s1.bH.free hD
      have hF : F1 p0 = none := s1.fH.free hD
      have s0 : Sta G pn (upd B p0 (.lst [])) F1 (upd H1 p0 (.lst [])) (L2.wipe σ own) (wipeR r1 own) := (s1.rebase hD rfl).wipe own h0
      have start : PostL G B F (fun zs r2 => PostE G pn W B F σ Q (.ok (.fresh (.lst ([] ++ zs))) (restoreR r1 r2 own))) (lcL own tf tt el ds (wipeR r1 own)) := by
        revert p
        cases lcL own tf tt el ds (wipeR r1 own) with
        | stuck => exact id
        | exn x r2 => exact id
        | ok zs r2 => exact id
      refine lc_it w (fun i H => ∃ F2 r2 xs ys, H p0 = some (.lst xs) ∧ Reps G F2 xs ys ∧ xs.length ≤ i ∧ Same F1 F2 ∧ NewO B F1 F2 ∧ F2 p0 = none ∧ Sta G pn (upd B p0 (.lst xs)) F2 H (L2.wipe σ own) r2 ∧
          PostL G B F (fun zs r2 => PostE G pn W B F σ Q (.ok (.fresh (.lst (ys ++ zs))) (restoreR r1 r2 own))) (lcL own tf tt el (ds.drop i) r2))
        ⟨F1, _, [], [], upd_same, .nil, Nat.le_refl _, Same.refl _, NewO.refl _ _, hF, s0, by rw [List.drop_zero]; exact start⟩ (fun i H _ ⟨F2, r2, xs, ys, _, _, _, e2, _, _, s2, _⟩ => hG H (e2.trans s2.fH)) ?_ ?_
      · intro i x H2 H2' hi ⟨F2, r2, xs, ys, hx, rx, hl, e2, n2, f2, s2, p2⟩ y
        obtain ⟨d, hd⟩ : ∃ d, ds[i]? = some d := ⟨ds[i], List.getElem?_eq_getElem hi⟩
        obtain ⟨F3, e3, e4, e5, n3, h3⟩ := hY F2 H2 i x H2' d e2 s2.fH y hd
        have s3 := s2.growS e3 e4 e5 n3
        replace e3 : Same F2 (noT F3) := same_noT e3 s2.kp.nF
        replace h3 : Rep G (noT F3) x d := h3.noT
        have nB : NewO (upd B p0 (.lst xs)) F2 (noT F3) := (s2.newO n3).noT
        have f3 := nB.atp f2
        have ed : ds.drop i = d :: ds.drop (i + 1) := by
          rw [List.drop_eq_getElem_cons hi]
          rw [List.getElem?_eq_getElem hi] at hd
          cases hd
          rfl
        rw [ed] at p2
        obtain ⟨ra, b, rb, q1, q2, kf, kt⟩ := lcL_cases p2
        refine hg _ (noT F3) H2' _ r2 x d ra _ s3 h3 q1 fun σ3 u3 s4 => ⟨(wipe_upto u3 hT).trans wipe_wipe, ?_⟩
        have ew : L2.wipe σ3 own = L2.wipe σ own := (wipe_upto u3 hT).trans wipe_wipe
        refine ⟨_, noT F3, ra, s4, ?_⟩
        rw [q2]
        intro F5 H5 e5' n5 s5
        have f5 := n5.atp f3
        have hx5 : H5 p0 = some (.lst xs) := s5.bH p0 _ upd_same
        cases b with
        | false =>
          have s6 := s5.wipe own h0
          rw [ew] at s6
          exact ⟨F5, wipeR rb own, xs, ys, hx5, rx.mono (e3.trans e5'), Nat.le_succ_of_le hl, (e2.trans e3).trans e5', (n2.trans (nB.unbase hB)).trans (n5.unbase hB), f5, s6, kf rfl⟩
        | true =>
          obtain ⟨o, rc, z, rd, q3, q4, kk⟩ := kt rfl
          refine ⟨_, F5, rb, s5, ?_⟩
          rw [q3]
          intro v F6 H6 e6 n6 s6 o6
          obtain ⟨F7, e7, n7, s7, h7⟩ := s6.frz o6 q4
          have f7 := n7.atp (n6.atp f5)
          have hx6 : H6 p0 = some (.lst xs) := s6.bH p0 _ upd_same
          have s8 := (s7.chbase (ys := xs ++ [v]) f7).wipe own h0
          rw [ew] at s8
          refine ⟨xs, hx6, by omega, F7, wipeR rd own, xs ++ [v], ys ++ [z], upd_same, (rx.mono (((e3.trans e5').trans e6).trans e7)).append (.one h7), by rw [List.length_append]; show xs.length + 1 ≤ i + 1; omega,
            (((e2.trans e3).trans e5').trans e6).trans e7, (((n2.trans (nB.unbase hB)).trans (n5.unbase hB)).trans (n6.unbase hB)).trans (n7.unbase hB), f7, s8, ?_⟩
          have e : (fun zs r2 => PostE G pn W B F σ Q (.ok (.fresh (.lst ((ys ++ [z]) ++ zs))) (restoreR r1 r2 own))) = fun zs r2 => PostE G pn W B F σ Q (.ok (.fresh (.lst (ys ++ z :: zs))) (restoreR r1 r2 own)) := by
            funext zs r2
            rw [List.append_assoc]
            rfl
          rw [e]
          exact kk
      · intro H2 ⟨F2, r2, xs, ys, hx, rx, hl, e2, n2, f2, s2, p2⟩
        rw [List.drop_length] at p2
        have p3 : PostE G pn W B F σ Q (.ok (.fresh (.lst (ys ++ []))) (restoreR r1 r2 own)) := p2
        rw [List.append_nil] at p3
        have s3 := s2.unbase hB
        have hlen : r1.length = r2.length := by rw [s1.len, s3.len, wipe_length]
        refine p3 (.ref p0) F2 H2 (e1.trans e2) (n1.trans n2) ⟨s3.bH, s3.fH, s3.kp, by rw [restoreR_length, ← hlen]; exact s1.len, fun i d h => ?_, fun i d h => ?_, fun i j d e a hij h1 h2 h3 h4 => ?_, s1.pin⟩ ⟨p0, rfl, .lst xs ys hB f2 hx rx, fun j e hj hs => ?_⟩
        · rcases restoreR_in hlen h with ⟨_, q⟩ | ⟨a, q⟩
          · obtain ⟨v, a1, a2⟩ := s1.val i d q
            exact ⟨v, a1, a2.mono e2⟩
          · obtain ⟨v, a1, a2⟩ := s3.val i d q
            rw [wipe_out a] at a1
            exact ⟨v, a1, a2⟩
        · rcases restoreR_in hlen h with ⟨a, q⟩ | ⟨a, q⟩
          · refine absurd (List.any_eq_true.mpr ⟨i, a, ?_⟩) hno
            rw [q]
            rfl
          · obtain ⟨c, a1, a2⟩ := s3.own i d q
            rw [wipe_out a] at a1
            exact ⟨c, a1, a2⟩
        · have w : ∀ {k : Nat} {d : D}, (restoreR r1 r2 own)[k]? = some (.own d) → k ∉ own ∧ r2[k]? = some (.own d) := fun {k d} h => by
            rcases restoreR_in hlen h with ⟨a, q⟩ | ⟨a, q⟩
            · refine absurd (List.any_eq_true.mpr ⟨k, a, ?_⟩) hno
              rw [q]
              rfl
            · exact ⟨a, q⟩
          obtain ⟨b1, c1⟩ := w h1
          obtain ⟨b2, c2⟩ := w h2
          exact s3.dis i j d e a hij c1 c2 (by rw [wipe_out b1]; exact h3) (by rw [wipe_out b2]; exact h4)
        · rcases restoreR_in hlen hj with ⟨a, q⟩ | ⟨a, q⟩
          · refine absurd (List.any_eq_true.mpr ⟨j, a, ?_⟩) hno
            rw [q]
            rfl
          · obtain ⟨c, a1, a2⟩ := s2.own j e q
            rw [wipe_out a, hs] at a1
            cases a1
            have := a2.nb
            rw [upd_same] at this
            cases this
end
section
variable {G : Gam} {pn : Option Addr} {W : WX} {X : Cx} {elt tg iter : Expr} {ifs : List Expr} {scope : Scope} {own : List (Str × Nat)} {pos : Pos} {mi : MI} {tf : TF} {g : TG} {tt : MT} {el : M} {T : List Nat}
theorem PE_lc (hc : X.calm = true) (hN : X.N.Nodup) (hi : PI X tg iter (tI G pn W mi)) (ok : BlkOk X.N X.env.scope scope own)
    (hg : ∀ (s : Shared) (H : Hp) (C : Addr) (cl : List (Str × Addr)) (fp : List Addr), PG (X.blk s H scope (compEnvC scope cl C X.env) fp) tg g)
    (ht : ∀ (s : Shared) (H : Hp) (C : Addr) (cl : List (Str × Addr)) (fp : List Addr), PTs (X.blk s H scope (compEnvC scope cl C X.env) fp) ifs (tMT G pn W0 tt))
    (he : ∀ (s : Shared) (H : Hp) (C : Addr) (cl : List (Str × Addr)) (fp : List Addr), PE (X.blk s H scope (compEnvC scope cl C X.env) fp) elt (tM G pn W0 el))
    (htg : TgOK G pn T tf g) (hT : ∀ i ∈ T, i ∈ own.map (·.2)) (h0 : 0 ∉ own.map (·.2) ∨ pn = none) (hs : ∀ x, foldedSetIterable iter X.env x = pure x) : PE X (.ListComp elt [⟨tg, iter, ifs, 0⟩] scope pos) (tM G pn W (mLc (own.map (·.2)) mi tf tt el)) :=
  PE.imp (pe_lc hc hN hi ok hg ht he hs) fun σ H Q h => tM_lc htg hT h0 h
theorem PTs_nil : PTs X [] (tMT G pn W0 mtYes) := ⟨fun pins s σ H Q I h => pts_nil.run pins s σ H Q I (by obtain ⟨B, F, r, s, p⟩ := h; exact p F H (Same.refl F) (NewO.refl B F) s)⟩
theorem PTs_one {c : Expr} {t : MT} (h : PT X c (tMT G pn W0 t)) : PTs X [c] (tMT G pn W0 t) := pts_one h
/-- name = [..] on one line -/
theorem PS_setLc {i : Nat} {y : Str} {py spos : Pos} (hi0 : i ≠ 0 ∨ pn = none) (hc : X.calm = true) (hN : X.N.Nodup) (hy : X.N[i]? = some y) (hyl : X.env.scope.names.lookup y = some .local)
    (hsw : swapsWith (.ListComp elt [⟨tg, iter, ifs, 0⟩] scope pos) (some (.Name y py)) spos.line X.env = pure true) (hi : PI X tg iter (tI G pn W mi)) (ok : BlkOk X.N X.env.scope scope own)
    (hg : ∀ (s : Shared) (H : Hp) (C : Addr) (cl : List (Str × Addr)) (fp : List Addr), PG (X.blk s H scope (compEnvC scope cl C X.env) fp) tg g)
    (ht : ∀ (s : Shared) (H : Hp) (C : Addr) (cl : List (Str × Addr)) (fp : List Addr), PTs (X.blk s H scope (compEnvC scope cl C X.env) fp) ifs (tMT G pn W0 tt))
    (he : ∀ (s : Shared) (H : Hp) (C : Addr) (cl : List (Str × Addr)) (fp : List Addr), PE (X.blk s H scope (compEnvC scope cl C X.env) fp) elt (tM G pn W0 el))
    (htg : TgOK G pn T tf g) (hT : ∀ i ∈ T, i ∈ own.map (·.2)) (h0 : 0 ∉ own.map (·.2) ∨ pn = none) (hs : ∀ x, foldedSetIterable iter X.env x = pure x) :
    PS X (.Assign [.Name y py] (.ListComp elt [⟨tg, iter, ifs, 0⟩] scope pos) spos) (tS G pn W (sSet i (mLc (own.map (·.2)) mi tf tt el))) := PS.imp (ps_setLc hc hN hy hyl hsw hi ok hg ht he hs) fun D σ H h =>
  tM_lc (Q := fun x H1 => gName i x σ H1 D.nx) htg hT h0 (tM_mono (tS_bindM h) fun v H1 ⟨B, F, F1, o, r1, e, n, st, oo, p⟩ => by
    revert p
    cases q : putSl i o r1 with
    | none => exact fun p => p.elim
    | some r2 =>
      intro p
      obtain ⟨F2, e2, n2, st2⟩ := st.put hi0 oo q
      exact p _ F2 H1 (e.trans e2) (n.trans n2) st2)
end
end Ev
/-! Ev, part H: lists of one's own written into; stores; subscripts; slices; methods. -/
namespace Ev
open PySem PySem.Spec PyProof.Rows L2

/-- the content of a list of one's own -/
def ownL (r : Rho) (i : Nat) : Option (List D) := match r[i]? with
  | some (.own (.lst ds)) => some ds
  | _ => none
def mAppend (i : Nat) (m : M) : M := fun r => match ownL r i with
  | none => .stuck
  | some _ => bindR (m r) fun o r1 => match frz r1 o with
    | none => .stuck
    | some (d, r2) => (match ownL r2 i with
      | none => .stuck
      | some ds => if ds.length < sizeLine then .ok (.val .non) (r2.set i (.own (.lst (ds ++ [d])))) else .stuck)
def isSlot (i : Nat) : Opd → Bool
  | .slot j => i == j
  | _ => false
def mExtend (i : Nat) (m : M) : M := fun r => match ownL r i with
  | none => .stuck
  | some _ => bindR (m r) fun o r1 => match frz r1 o with
    | some (.lst es, r2) => (match ownL r2 i with
      | none => .stuck
      | some ds => if ds.length + es.length ≤ sizeLine then .ok (.val .non) (r2.set i (.own (.lst (ds ++ es)))) else .stuck)
    | _ => .stuck
def mPop (i : Nat) : M := fun r => match ownL r i with
  | none => .stuck
  | some ds => (match ds[ds.length - 1]? with
    | some d => .ok (.val d) (r.set i (.own (.lst ds.dropLast)))
    | none => .stuck)
def mPopAt (i : Nat) (m : M) : M := fun r => match ownL r i with
  | none => .stuck
  | some _ => bindR (m r) fun o r1 => match peek r1 o, ownL r1 i with
    | some (.int k), some ds => if -(2 ^ 63) ≤ k ∧ k < 2 ^ 63 then (match ixN ds.length k with
      | none => .stuck
      | some j => (match ds[j]? with
        | some d => .ok (.val d) (r1.set i (.own (.lst (ds.eraseIdx j))))
        | none => .stuck)) else .stuck
    | _, _ => .stuck

section
variable {G : Gam} {pn : Option Addr} {W : WX} {X : Cx} {B F F' H H' : Hp} {σ : L2.St} {r : Rho}
theorem Sta.ownL (s : Sta G pn B F H σ r) {i : Nat} {ds : List D} (h : Ev.ownL r i = some ds) : r[i]? = some (.own (.lst ds)) ∧ ∃ a xs, σ[i]? = some (some (.ref a)) ∧ Own G B F H a (.lst ds) ∧ H a = some (.lst xs) ∧ Reps G F xs ds := by
  unfold Ev.ownL at h
  split at h
  · rename_i ds' q
    cases h
    obtain ⟨a, ha, o⟩ := s.own i _ q
    refine ⟨q, a, ?_⟩
    cases o with
    | lst xs _ hb hf hh rr => exact ⟨xs, ha, .lst xs ds hb hf hh rr, hh, rr⟩
  · cases h
/-- the list at slot i is changed -/
theorem Sta.write (s : Sta G pn B F H σ r) {i : Nat} {a : Addr} {ds es : List D} {ys : List V} (hi : r[i]? = some (.own (.lst ds))) (ha : σ[i]? = some (some (.ref a))) (o : Own G B F H a (.lst ds)) (ry : Reps G F ys es) :
    Sta G pn B F (upd H a (.lst ys)) σ (r.set i (.own (.lst es))) := by
  have e2 : Same (hide H a) (upd H a (.lst ys)) := fun b u e => by
    by_cases hb : b = a
    · subst hb; rw [hide_at] at e; cases e
    · rw [hide_ne hb] at e; rw [upd_ne hb]; exact e
  have e3 : Same F (upd H a (.lst ys)) := fun b u e => by rw [upd_ne (ne_of_none e o.nf)]; exact s.fH b u e
  have hiv : G.inv (upd H a (.lst ys)) := by
    cases o with
    | lst xs _ _ _ hh _ => exact G.invU _ _ xs _ hh s.kp.iv
  exact (s.wrote hi ha (Same.refl F) (NewO.refl _ F) ((noT_same _).trans e2) e3 ⟨noT_NoT _, s.kp.nF, hiv⟩ (.lst ys es (noT_none hide_at) o.nf upd_same ry)).1
theorem tM_append {i : Nat} {m : M} {Q : VK} (h : tM G pn W (mAppend i m) σ H Q) : tBM G.K "list" rAppend (tVar i) (tMA G pn W (mArgs [m])) σ H Q := by
  obtain ⟨B, F, r, s, p⟩ := h
  unfold mAppend at p
  cases q0 : ownL r i with
  | none => rw [q0] at p; exact p.elim
  | some ds0 =>
    rw [q0] at p
    simp only at p
    obtain ⟨h0, a, xs, ha, oa, hh, rr⟩ := s.ownL q0
    refine ⟨.ref a, ha, .inl ⟨rfl, xs, SqL.of hh⟩, B, F, r, s, ?_⟩
    unfold mArgs
    cases e : m r with
    | stuck => rw [e] at p; exact p
    | exn x r1 => rw [e] at p; exact p
    | ok o r1 =>
      rw [e] at p
      intro vs F1 H1 e1 n1 s1 o1
      obtain ⟨v, ws, rfl, o3, o2⟩ := o1.inv_cons
      cases o2
      have q5 : frz r1 o = frz r1 (noFresh o) := by cases o <;> rfl
      replace p : PostE G pn W B F σ Q (match frz r1 o with
        | none => .stuck
        | some (d, r2) => (match ownL r2 i with
          | none => .stuck
          | some ds => if ds.length < sizeLine then .ok (.val .non) (r2.set i (.own (.lst (ds ++ [d])))) else .stuck)) := p
      cases q1 : frz r1 o with
      | none => rw [q1] at p; exact p.elim
      | some dr =>
        obtain ⟨d, r2⟩ := dr
        rw [q1] at p
        simp only at p
        obtain ⟨F2, e2, n2, s2, h2⟩ := s1.frz o3 (q5 ▸ q1)
        cases q2 : ownL r2 i with
        | none => rw [q2] at p; exact p.elim
        | some ds =>
          rw [q2] at p
          simp only at p
          split at p
          · rename_i hl
            obtain ⟨h3, a', ys, ha', oa', hh', rr'⟩ := s2.ownL q2
            rw [ha] at ha'
            cases ha'
            refine ⟨a, ys, v, rfl, rfl, hh', by rw [rr'.length]; exact hl, ?_⟩
            exact p .non F2 _ (e1.trans e2) (n1.trans n2) (s2.write h3 ha oa' (rr'.append (.one h2))) .non
          · exact p.elim
theorem tM_extend {i : Nat} {m : M} {Q : VK} (h : tM G pn W (mExtend i m) σ H Q) : tBM G.K "list" rExtend (tVar i) (tMA G pn W (mArgs [m])) σ H Q := by
  obtain ⟨B, F, r, s, p⟩ := h
  unfold mExtend at p
  cases q0 : ownL r i with
  | none => rw [q0] at p; exact p.elim
  | some ds0 =>
    rw [q0] at p
    simp only at p
    obtain ⟨h0, a, xs, ha, oa, hh, rr⟩ := s.ownL q0
    refine ⟨.ref a, ha, .inl ⟨rfl, xs, SqL.of hh⟩, B, F, r, s, ?_⟩
    unfold mArgs
    cases e : m r with
    | stuck => rw [e] at p; exact p
    | exn x r1 => rw [e] at p; exact p
    | ok o r1 =>
      rw [e] at p
      intro vs F1 H1 e1 n1 s1 o1
      obtain ⟨v, ws, rfl, o3, o2⟩ := o1.inv_cons
      cases o2
      have q5 : frz r1 o = frz r1 (noFresh o) := by cases o <;> rfl
      replace p : PostE G pn W B F σ Q (match frz r1 o with
        | some (.lst es, r2) => (match ownL r2 i with
          | none => .stuck
          | some ds => if ds.length + es.length ≤ sizeLine then .ok (.val .non) (r2.set i (.own (.lst (ds ++ es)))) else .stuck)
        | _ => .stuck) := p
      cases q1 : frz r1 o with
      | none => rw [q1] at p; exact p.elim
      | some dr =>
        obtain ⟨d, r2⟩ := dr
        rw [q1] at p
        obtain ⟨F2, e2, n2, s2, h2⟩ := s1.frz o3 (q5 ▸ q1)
        cases d <;> try exact p.elim
        rename_i es
        simp only at p
        cases q2 : ownL r2 i with
        | none => rw [q2] at p; exact p.elim
        | some ds =>
          rw [q2] at p
          simp only at p
          split at p
          · rename_i hl
            obtain ⟨h3, a', ys, ha', oa', hh', rr'⟩ := s2.ownL q2
            rw [ha] at ha'
            cases ha'
            cases h2 with
            | lst b zs _ hb rz =>
              refine ⟨a, b, ys, zs, rfl, rfl, hh', s2.fH _ _ hb, by rw [rr'.length, rz.length]; exact hl, ?_⟩
              exact p .non F2 _ (e1.trans e2) (n1.trans n2) (s2.write h3 ha oa' (rr'.append rz)) .non
          · exact p.elim
theorem Reps.dropLast {vs : List V} {ds : List D} (r : Reps G F vs ds) : Reps G F vs.dropLast ds.dropLast := by
  rw [List.dropLast_eq_take, List.dropLast_eq_take, r.length]
  exact r.take _
theorem Reps.eraseIdx : ∀ {vs : List V} {ds : List D} (i : Nat), Reps G F vs ds → Reps G F (vs.eraseIdx i) (ds.eraseIdx i)
  | _, _, _, .nil => .nil
  | _, _, 0, .cons _ _ _ _ _ t => t
  | _, _, i + 1, .cons _ _ _ _ q t => .cons _ _ _ _ q (Reps.eraseIdx i t)
theorem tM_pop {i : Nat} {Q : VK} (h : tM G pn W (mPop i) σ H Q) : tBM0 G.K "list" rPop (tVar i) σ H Q := by
  obtain ⟨B, F, r, s, p⟩ := h
  unfold mPop at p
  cases q0 : ownL r i with
  | none => rw [q0] at p; exact p.elim
  | some ds =>
    rw [q0] at p
    simp only at p
    obtain ⟨h0, a, xs, ha, oa, hh, rr⟩ := s.ownL q0
    cases q1 : ds[ds.length - 1]? with
    | none => rw [q1] at p; exact p.elim
    | some d =>
      rw [q1] at p
      obtain ⟨v, hv, rv⟩ := rr.get q1
      exact ⟨.ref a, ha, .inl ⟨rfl, xs, SqL.of hh⟩, a, xs, v, rfl, rfl, hh, by rw [rr.length]; exact hv, p v F _ (Same.refl _) (NewO.refl _ _) (s.write h0 ha oa rr.dropLast) rv⟩
theorem tM_popAt {i : Nat} {m : M} {Q : VK} (h : tM G pn W (mPopAt i m) σ H Q) : tBM G.K "list" rPopAt (tVar i) (tMA G pn W (mArgs [m])) σ H Q := by
  obtain ⟨B, F, r, s, p⟩ := h
  unfold mPopAt at p
  cases q0 : ownL r i with
  | none => rw [q0] at p; exact p.elim
  | some ds0 =>
    rw [q0] at p
    simp only at p
    obtain ⟨h0, a, xs, ha, oa, hh, rr⟩ := s.ownL q0
    refine ⟨.ref a, ha, .inl ⟨rfl, xs, SqL.of hh⟩, B, F, r, s, ?_⟩
    unfold mArgs
    cases e : m r with
    | stuck => rw [e] at p; exact p
    | exn x r1 => rw [e] at p; exact p
    | ok o r1 =>
      rw [e] at p
      intro vs F1 H1 e1 n1 s1 o1
      obtain ⟨v, ws, rfl, o3, o2⟩ := o1.inv_cons
      cases o2
      have q5 : Ev.peek r1 o = Ev.peek r1 (noFresh o) := by cases o <;> rfl
      replace p : PostE G pn W B F σ Q (match Ev.peek r1 o, ownL r1 i with
        | some (.int k), some ds => if -(2 ^ 63) ≤ k ∧ k < 2 ^ 63 then (match ixN ds.length k with
          | none => .stuck
          | some j => (match ds[j]? with
            | some d => .ok (.val d) (r1.set i (.own (.lst (ds.eraseIdx j))))
            | none => .stuck)) else .stuck
        | _, _ => .stuck) := p
      split at p
      · rename_i k ds q1 q2
        split at p
        · rename_i hk
          split at p
          · exact p.elim
          · rename_i j q3
            split at p
            · rename_i d q4
              obtain ⟨h3, a', ys, ha', oa', hh', rr'⟩ := s1.ownL q2
              rw [ha] at ha'
              cases ha'
              have ev := (s1.peek o3 (q5 ▸ q1)).int
              subst ev
              obtain ⟨v, hv, rv⟩ := rr'.get q4
              exact ⟨a, ys, k, j, v, rfl, rfl, hh', hk.1, hk.2, by rw [rr'.length]; exact (ixN_seq q3).1, hv, p v F1 _ e1 n1 (s1.write h3 ha oa' (rr'.eraseIdx j)) rv⟩
            · exact p.elim
        · exact p.elim
      · exact p.elim
end

/-! ### x[k] = e, x[k] op= e, of a list of one's own -/
def setAt (r : Rho) (i : Nat) (k : Int) (d : D) : Option Rho := match ownL r i with
  | none => none
  | some ds => (match ixN ds.length k with
    | none => none
    | some j => some (r.set i (.own (.lst (ds.set j d)))))
def sSetIx (i : Nat) (mi me : M) : MS := fun r => bindS (me r) fun o r1 => match frz r1 o with
  | none => .stuck
  | some (d, r2) => (match ownL r2 i with
    | none => .stuck
    | some _ => bindS (mi r2) fun oi r3 => match peek r3 oi with
      | some (.int k) => (match setAt r3 i k d with
        | some r4 => .next r4
        | none => .stuck)
      | _ => .stuck)
def sAugIx (op : List D → Option Opd) (i : Nat) (mi me : M) : MS := fun r => match ownL r i with
  | none => .stuck
  | some _ => bindS (mi r) fun oi r1 => match peek r1 oi with
    | some (.int k) => (match ownL r1 i with
      | none => .stuck
      | some ds => (match atI ds k with
        | none => .stuck
        | some d => bindS (me r1) fun oe r2 => match peek r2 oe with
          | none => .stuck
          | some e => (match op [d, e] with
            | some (.val z) => (match setAt r2 i k z with
              | some r4 => .next r4
              | none => .stuck)
            | _ => .stuck)))
    | _ => .stuck
/-- name op= e -/
def sAug (op : List D → Option Opd) (i : Nat) (m : M) : MS := fun r => match r[i]? with
  | some (.val d) => bindS (m r) fun o r1 => match (peek r1 o).bind fun e => op [d, e] with
    | some (.val z) => .next (r1.set i (.val z))
    | _ => .stuck
  | _ => .stuck
section
variable {G : Gam} {pn : Option Addr} {W : WX} {X : Cx} {B F F' H H' : Hp} {σ : L2.St} {r : Rho} {D₀ : Ends}
theorem Sta.setAt (s : Sta G pn B F H σ r) {i : Nat} {k : Int} {d : D} {v : V} {r' : Rho} (h : Ev.setAt r i k d = some r') (hv : Rep G F v d) :
    ∃ a xs j, σ[i]? = some (some (.ref a)) ∧ H a = some (.lst xs) ∧ ixN xs.length k = some j ∧ Sta G pn B F (upd H a (.lst (xs.set j v))) σ r' := by
  unfold Ev.setAt at h
  cases q : Ev.ownL r i with
  | none => rw [q] at h; cases h
  | some ds =>
    rw [q] at h
    simp only at h
    cases q2 : ixN ds.length k with
    | none => rw [q2] at h; cases h
    | some j =>
      rw [q2] at h
      cases h
      obtain ⟨h0, a, xs, ha, oa, hh, rr⟩ := s.ownL q
      exact ⟨a, xs, j, ha, hh, by rw [rr.length]; exact q2, s.write h0 ha oa (rr.set hv j)⟩
theorem tS_setIx {i : Nat} {mi me : M} (h : tS G pn W (sSetIx i mi me) D₀ σ H) : tAsg (tM G pn W me) (gSub (tVar i) (tM G pn W mi) rSetL) D₀ σ H := by
  refine tM_mono (tS_bindM h) fun v H1 ⟨B, F, F1, o, r1, e1, n1, s1, o1, p⟩ => ?_
  cases q : frz r1 o with
  | none => rw [q] at p; exact p.elim
  | some dr =>
    obtain ⟨d, r2⟩ := dr
    rw [q] at p
    simp only at p
    obtain ⟨F2, e2, n2, s2, h2⟩ := s1.frz o1 q
    cases q0 : Ev.ownL r2 i with
    | none => rw [q0] at p; exact p.elim
    | some ds0 =>
      rw [q0] at p
      simp only at p
      obtain ⟨_, a, _, ha, _⟩ := s2.ownL q0
      refine ⟨.ref a, ha, ?_⟩
      have p2 := PostS.mono (e1.trans e2) (n1.trans n2) p
      refine ⟨B, F2, r2, s2, ?_⟩
      revert p2
      cases mi r2 with
      | stuck => exact id
      | exn x r3 => exact fun p2 cls d F3 H3 e3 n3 s3 x3 => p2 cls d σ F3 H3 e3 n3 s3 x3
      | ok oi r3 =>
        intro p2 y F3 H3 e3 n3 s3 o3
        replace p2 : PostS G pn W B F2 D₀ (match Ev.peek r3 oi with
          | some (.int k) => (match Ev.setAt r3 i k d with
            | some r4 => .next r4
            | none => .stuck)
          | _ => .stuck) := p2
        split at p2
        · rename_i k q1
          split at p2
          · rename_i r4 q2
            have ey := (s3.peek o3 q1).int
            subst ey
            obtain ⟨a', xs, j, ha', hh, hx, s4⟩ := s3.setAt q2 (h2.mono e3)
            rw [ha] at ha'
            cases ha'
            exact ⟨a, xs, k, j, rfl, rfl, hh, hx, p2 σ F3 _ e3 n3 s4⟩
          · exact p2.elim
        · exact p2.elim
/-- op= by values -/
def IpS (G : Gam) (ti : TIp) (op : List D → Option Opd) : Prop := ∀ (F H : Hp) (x y : V) (d e z : D) (Q : VK), Same F H → Rep G F x d → RepO G F H y e → op [d, e] = some (.val z) → (∀ v, Rep G F v z → Q v H) → ti x y H Q
theorem tS_aug {op : List D → Option Opd} {i : Nat} {m : M} {ti : TIp} (h0 : i ≠ 0 ∨ pn = none) (hi : IpS G ti op) (h : tS G pn W (sAug op i m) D₀ σ H) : tAug i (tM G pn W m) ti D₀ σ H := by
  obtain ⟨B, F, r, s, p⟩ := h
  unfold sAug at p
  split at p
  · rename_i d q
    obtain ⟨x, hx, rx⟩ := s.val i d q
    refine ⟨x, hx, B, F, r, s, ?_⟩
    revert p
    cases m r with
    | stuck => exact id
    | exn x r1 => exact fun p cls d F1 H1 e n st x => p cls d σ F1 H1 e n st x
    | ok o r1 =>
      intro p y F1 H1 e1 n1 s1 o1
      replace p : PostS G pn W B F D₀ (match (Ev.peek r1 o).bind fun e => op [d, e] with
        | some (.val z) => .next (r1.set i (.val z))
        | _ => .stuck) := p
      cases q1 : Ev.peek r1 o with
      | none => rw [q1] at p; exact p.elim
      | some e =>
        rw [q1] at p
        replace p : PostS G pn W B F D₀ (match op [d, e] with
          | some (.val z) => .next (r1.set i (.val z))
          | _ => .stuck) := p
        split at p
        · rename_i z q2
          exact hi F1 H1 x y d e z _ s1.fH (rx.mono e1) (s1.peek o1 q1) q2 fun v rv => p _ F1 H1 e1 n1 (s1.setVal h0 rv)
        · exact p.elim
  · exact p.elim
/-- the same operator, in place, of whole numbers -/
theorem ip_pInt {P : Int → Int → Prop} {C : Int → Int → Bool} {g : Int → Int → Int} (hC : ∀ i j, C i j = true → P i j) : IpS G (rI P fun i j => .int (g i j)) (two (pInt C g)) := by
  intro F H x y d e z Q s rx ry hf k
  replace hf : pInt C g d e = some (.val z) := hf
  unfold pInt at hf
  split at hf
  · rename_i i j
    split at hf
    · rename_i hc
      cases hf
      refine ⟨i, j, ?_, ry.int, hC i j hc, k _ (.int _)⟩
      cases rx
      rfl
    · cases hf
  · cases hf
theorem pip_rI {op : Operator} {P : Int → Int → Prop} {g : Int → Int → V} (h : OpR X (inplaceOp op) (rI P g)) : PIp X op (rI P g) := h
def ipF : Operator → Option (List D → Option Opd)
  | .Add => some oSub0
  | .Sub => some oSub
  | .Mult => some oMulI
  | .FloorDiv => some oDiv
  | .BitOr => some oOr
  | .BitAnd => some oAnd
  | .BitXor => some oXor
  | _ => none
where
  oSub0 : List D → Option Opd := two (pInt (fun _ _ => true) fun i j => i + j)
  oMulI : List D → Option Opd := two (pInt (fun i j => decide (-(2 ^ 64) < i) && decide (i < 2 ^ 64) || decide (-(2 ^ 64) < j) && decide (j < 2 ^ 64)) fun i j => i * j)
theorem ip_ok {op : Operator} {f : List D → Option Opd} (h : ipF op = some f) : ∃ ti, PIp X op ti ∧ IpS G ti f := by
  have T : ∀ i j : Int, true = true → True := fun _ _ _ => True.intro
  cases op with
  | Add => cases h; exact ⟨_, opr_rI0 iop_add, ip_pInt T⟩
  | Sub => cases h; exact ⟨_, opr_rI0 iop_sub, ip_pInt T⟩
  | Mult => cases h; exact ⟨_, iop_mul, ip_pInt fun i j h => by
      rw [Bool.or_eq_true, Bool.and_eq_true, Bool.and_eq_true] at h
      rcases h with h | h
      · exact .inl ⟨of_decide_eq_true h.1, of_decide_eq_true h.2⟩
      · exact .inr ⟨of_decide_eq_true h.1, of_decide_eq_true h.2⟩⟩
  | FloorDiv => cases h; exact ⟨_, iop_fdivW, ip_pInt fun i j h => by unfold cDiv at h; rw [Bool.and_eq_true] at h; exact ⟨of_decide_eq_true h.1, of_decide_eq_true h.2⟩⟩
  | BitOr => cases h; exact ⟨_, opr_rI0 iop_or, ip_pInt T⟩
  | BitAnd => cases h; exact ⟨_, opr_rI0 iop_and, ip_pInt T⟩
  | BitXor => cases h; exact ⟨_, opr_rI0 iop_xor, ip_pInt T⟩
  | _ => cases h
/-- xs[i] by getItem -/
theorem pget_list : PGet X (rIxL X.K) := by
  intro pins s σ H x y v u Q I rx ry h
  obtain ⟨p, xs, i, z, rfl, rfl, hq, he, q⟩ := h
  cases rx
  obtain ⟨t, rfl⟩ := ry
  obtain ⟨its, r, pl, hz⟩ := I.list hq
  obtain ⟨j, h1, h2, h3, h4, h5⟩ := atI_get he
  obtain ⟨w, ew, rw'⟩ := r.get h2
  have hl := r.length
  have hn := line63
  have fin : EP X pins σ Q w s := ⟨z, H, I, rw', q⟩
  by_cases h0 : 0 ≤ i
  · have hj : i.toNat = j := by
      rw [seqIndex_of h0 h5] at h1
      exact Option.some.inj h1
    exact wpAny_getItem_list pl.isList h0 (by omega) (by rw [hj]; simpa using ew) fin
  · have hj : (i + (its.toArray.size : Int)).toNat = j := by
      rw [seqIndex_neg (by omega) h4] at h1
      rw [List.size_toArray, ← hl]
      exact Option.some.inj h1
    exact wpAny_getItem_list_neg pl.isList (by omega) (by rw [List.size_toArray] <;> omega) (by omega) (by rw [hj]; simpa using ew) fin
theorem atI_reps {vs : List V} {ds : List D} {k : Int} {d : D} (r : Reps G F vs ds) (h : atI ds k = some d) : ∃ v, atI vs k = some v ∧ Rep G F v d := by
  unfold atI at h ⊢
  rw [r.length]
  cases q : ixN ds.length k with
  | none => rw [q] at h; cases h
  | some j =>
    rw [q] at h
    exact r.get h
theorem tS_augIx {op : List D → Option Opd} {i : Nat} {mi me : M} {ti : TIp} (hi : IpS G ti op) (h : tS G pn W (sAugIx op i mi me) D₀ σ H) : tAugS (tVar i) (tM G pn W mi) (tM G pn W me) (rIxL G.K) ti rSetL D₀ σ H := by
  obtain ⟨B, F, r, s, p⟩ := h
  unfold sAugIx at p
  cases q0 : Ev.ownL r i with
  | none => rw [q0] at p; exact p.elim
  | some ds0 =>
    rw [q0] at p
    simp only at p
    obtain ⟨_, a, _, ha, _⟩ := s.ownL q0
    refine ⟨.ref a, ha, B, F, r, s, ?_⟩
    revert p
    cases mi r with
    | stuck => exact id
    | exn x r1 => exact fun p cls d F1 H1 e n st x => p cls d σ F1 H1 e n st x
    | ok oi r1 =>
      intro p y F1 H1 e1 n1 s1 o1
      replace p : PostS G pn W B F D₀ (match Ev.peek r1 oi with
        | some (.int k) => (match Ev.ownL r1 i with
          | none => .stuck
          | some ds => (match atI ds k with
            | none => .stuck
            | some d => bindS (me r1) fun oe r2 => match Ev.peek r2 oe with
              | none => .stuck
              | some e => (match op [d, e] with
                | some (.val z) => (match Ev.setAt r2 i k z with
                  | some r4 => .next r4
                  | none => .stuck)
                | _ => .stuck)))
        | _ => .stuck) := p
      split at p
      · rename_i k q1
        cases q2 : Ev.ownL r1 i with
        | none => rw [q2] at p; exact p.elim
        | some ds =>
          rw [q2] at p
          simp only at p
          cases q3 : atI ds k with
          | none => rw [q3] at p; exact p.elim
          | some d =>
            rw [q3] at p
            simp only at p
            have ey := (s1.peek o1 q1).int
            subst ey
            obtain ⟨_, a1, xs, ha1, _, hh, rr⟩ := s1.ownL q2
            rw [ha] at ha1
            cases ha1
            obtain ⟨v, hv, rv⟩ := atI_reps rr q3
            refine ⟨a, xs, k, v, rfl, rfl, SqL.of hh, hv, B, F1, r1, s1, ?_⟩
            have p2 := PostS.mono e1 n1 p
            revert p2
            cases me r1 with
            | stuck => exact id
            | exn x r2 => exact fun p cls d F3 H3 e n st x => p cls d σ F3 H3 e n st x
            | ok oe r2 =>
              intro p2 w F2 H2 e2 n2 s2 o2
              replace p2 : PostS G pn W B F1 D₀ (match Ev.peek r2 oe with
                | none => .stuck
                | some e => (match op [d, e] with
                  | some (.val z) => (match Ev.setAt r2 i k z with
                    | some r4 => .next r4
                    | none => .stuck)
                  | _ => .stuck)) := p2
              cases q4 : Ev.peek r2 oe with
              | none => rw [q4] at p2; exact p2.elim
              | some e =>
                rw [q4] at p2
                simp only at p2
                split at p2
                · rename_i z q5
                  split at p2
                  · rename_i r4 q6
                    refine hi F2 H2 v w d e z _ s2.fH (rv.mono e2) (s2.peek o2 q4) q5 fun u ru => ?_
                    obtain ⟨a2, ys, j, ha2, hh2, hx, s4⟩ := s2.setAt q6 ru
                    rw [ha] at ha2
                    cases ha2
                    exact ⟨a, ys, k, j, rfl, rfl, hh2, hx, p2 σ F2 _ e2 n2 s4⟩
                  · exact p2.elim
                · exact p2.elim
      · exact p.elim
end

/-! ### a, b = e -/
def sUnp (tf : TF) (m : M) : MS := fun r => bindS (m r) fun o r1 => match frz r1 o with
  | none => .stuck
  | some (d, r2) => (match tf d r2 with
    | some r3 => .next r3
    | none => .stuck)
/-- a, b = e1, e2, where no tuple is made -/
def sPar (i j : Nat) (a b : M) : MS := fun r => bindS (a r) fun o r1 => match o with
  | .slot k => (match frz r1 (.slot k) with
    | none => .stuck
    | some (d, r1') => bindS (b r1') fun o2 r2 => match putSl j o2 r2 with
      | some r3 => .next (r3.set i (.val d))
      | none => .stuck)
  | .val d => bindS (b r1) fun o2 r2 => (match putSl j o2 r2 with
    | some r3 => .next (r3.set i (.val d))
    | none => .stuck)
  | .fresh d => bindS (b r1) fun o2 r2 => (match putSl j o2 r2 with
    | some r3 => .next (r3.set i (.own d))
    | none => .stuck)
section
variable {G : Gam} {pn : Option Addr} {W : WX} {X : Cx} {B F F' H H' : Hp} {σ : L2.St} {r : Rho} {D₀ : Ends} {T : List Nat} {tf : TF} {g : TG} {m ma mb : M}
theorem tS_unp (hg : TgOK G pn T tf g) (h : tS G pn W (sUnp tf m) D₀ σ H) : tAsg (tM G pn W m) g D₀ σ H :=
  tM_mono (tS_bindM h) fun v H1 ⟨B, F, F1, o, r1, e1, n1, s1, o1, p⟩ => by
    cases q : frz r1 o with
    | none => rw [q] at p; exact p.elim
    | some dr =>
      obtain ⟨d, r2⟩ := dr
      rw [q] at p
      simp only at p
      obtain ⟨F2, e2, n2, s2, h2⟩ := s1.frz o1 q
      cases q2 : tf d r2 with
      | none => rw [q2] at p; exact p.elim
      | some r3 =>
        rw [q2] at p
        exact hg B F2 H1 σ r2 v d r3 _ s2 h2 q2 fun σ' u s' => p σ' F2 H1 (e1.trans e2) (n1.trans n2) s'
theorem tS_par {i j : Nat} (hi0 : i ≠ 0 ∨ pn = none) (hj0 : j ≠ 0 ∨ pn = none) (hij : i ≠ j) (h : tS G pn W (sPar i j ma mb) D₀ σ H) : tM G pn W ma σ H fun v H1 => tM G pn W mb σ H1 fun w H2 => D₀.nx ((σ.set i (some v)).set j (some w)) H2 := by
  refine tM_mono (tS_bindM h) fun v H1 ⟨B, F, F1, o, r1, e1, n1, s1, o1, p⟩ => ?_
  rw [show (fun w H2 => D₀.nx ((σ.set i (some v)).set j (some w)) H2) = fun w H2 => D₀.nx ((σ.set j (some w)).set i (some v)) H2 from by funext w H2; rw [List.set_comm _ _ hij]]
  have val : ∀ (F2 : Hp) (r2 : Rho) (d : D), Same F1 F2 → NewO B F1 F2 → Sta G pn B F2 H1 σ r2 → Rep G F2 v d → PostS G pn W B F D₀ (bindS (mb r2) fun o2 r2 => (match putSl j o2 r2 with
      | some r3 => .next (r3.set i (.val d))
      | none => .stuck)) → tM G pn W mb σ H1 fun w H2 => D₀.nx ((σ.set j (some w)).set i (some v)) H2 := fun F2 r2 d e2 n2 s2 h2 p => by
    refine ⟨B, F2, r2, s2, ?_⟩
    have p2 := PostS.mono (e1.trans e2) (n1.trans n2) p
    revert p2
    cases mb r2 with
    | stuck => exact id
    | exn x r3 => exact fun p2 cls d F3 H3 e3 n3 s3 x3 => p2 cls d σ F3 H3 e3 n3 s3 x3
    | ok o2 r3 =>
      intro p2 w F3 H3 e3 n3 s3 o3
      replace p2 : PostS G pn W B F2 D₀ (match putSl j o2 r3 with
        | some r3 => .next (r3.set i (.val d))
        | none => .stuck) := p2
      cases q : putSl j o2 r3 with
      | none => rw [q] at p2; exact p2.elim
      | some r4 =>
        rw [q] at p2
        obtain ⟨F4, e4, n4, s4⟩ := s3.put hj0 o3 q
        exact p2 _ F4 H3 (e3.trans e4) (n3.trans n4) (s4.setVal hi0 ((h2.mono e3).mono e4))
  cases o with
  | val d => exact val F1 r1 d (Same.refl _) (NewO.refl _ _) s1 o1 p
  | slot k =>
    replace p : PostS G pn W B F D₀ (match frz r1 (.slot k) with
      | none => .stuck
      | some (d, r1') => bindS (mb r1') fun o2 r2 => match putSl j o2 r2 with
        | some r3 => .next (r3.set i (.val d))
        | none => .stuck) := p
    cases q : frz r1 (.slot k) with
    | none => rw [q] at p; exact p.elim
    | some dr =>
      obtain ⟨d, r2⟩ := dr
      rw [q] at p
      obtain ⟨F2, e2, n2, s2, h2⟩ := s1.frz o1 q
      exact val F2 r2 d e2 n2 s2 h2 p
  | fresh d =>
    obtain ⟨a, rfl, oa, ne⟩ := o1
    cases oa with
    | lst xs ds hb hf hh rr =>
      have p2 := PostS.mono e1 n1 p
      -- the new list is kept while the second value is reckoned
      have s1' : Sta G pn (upd B a (.lst xs)) F1 H1 σ r1 := ⟨fun b u e => by
        by_cases hba : b = a
        · subst hba; rw [upd_same] at e; cases e; exact hh
        · rw [upd_ne hba] at e; exact s1.bH b u e, s1.fH, ⟨s1.kp.nB.upd rfl, s1.kp.nF, s1.kp.iv⟩, s1.len, s1.val, fun k e hk => by
          obtain ⟨c, hc, oc⟩ := s1.own k e hk
          have hca : c ≠ a := fun z => ne k e hk (by rw [← z]; exact hc)
          exact ⟨c, hc, oc.move (by rw [upd_ne hca]; exact oc.nb) oc.nf rfl (Same.refl _)⟩, s1.dis, s1.pin⟩
      refine ⟨upd B a (.lst xs), F1, r1, s1', ?_⟩
      replace p2 : PostS G pn W B F1 D₀ (bindS (mb r1) fun o2 r2 => (match putSl j o2 r2 with
        | some r3 => .next (r3.set i (.own (.lst ds)))
        | none => .stuck)) := p2
      have hbw : ∀ {F2 : Hp}, NewO (upd B a (.lst xs)) F1 F2 → NewO B F1 F2 := fun n => n.unbase hb
      revert p2
      cases mb r1 with
      | stuck => exact id
      | exn x r3 => exact fun p2 cls d F3 H3 e3 n3 s3 x3 => p2 cls d σ F3 H3 e3 (hbw n3) (s3.unbase hb) x3
      | ok o2 r3 =>
        intro p2 w F3 H3 e3 n3 s3 o3
        replace p2 : PostS G pn W B F1 D₀ (match putSl j o2 r3 with
          | some r3 => .next (r3.set i (.own (.lst ds)))
          | none => .stuck) := p2
        cases q : putSl j o2 r3 with
        | none => rw [q] at p2; exact p2.elim
        | some r4 =>
          rw [q] at p2
          obtain ⟨F4, e4, n4, s4⟩ := s3.put hj0 o3 q
          have hh3 : H3 a = some (.lst xs) := s3.bH a _ upd_same
          have hf4 := n4.atp (n3.atp hf)
          refine p2 _ F4 H3 (e3.trans e4) (hbw (n3.trans n4)) ((s4.unbase hb).setOwn hi0 (.lst xs ds hb hf4 hh3 ((rr.mono e3).mono e4)) fun k e hk hs => ?_)
          obtain ⟨c, hc, oc⟩ := s4.own k e hk
          rw [hc] at hs
          cases hs
          have := oc.nb
          rw [upd_same] at this
          cases this
end
section
variable {G : Gam} {pn : Option Addr} {W : WX} {X : Cx} {B F F' H H' : Hp} {σ : L2.St} {r : Rho} {D₀ : Ends} {T : List Nat} {tf : TF} {g : TG} {m ma mb : M} {e a b tg : Expr} {pos : Pos}
theorem PS_unp (he : PE X e (tM G pn W m)) (hg : PG X tg g) (ht : TgOK G pn T tf g) (hs : swapsWithSole [tg] e pos.line X.env = pure false) (hw : swappedStores [tg] e X.env = pure none) (h1 : (assignEach [tg] X.env).map (·.2) = [assign tg X.env]) :
    PS X (.Assign [tg] e pos) (tS G pn W (sUnp tf m)) := PS.imp (ps_asg he hg hs hw h1) fun D σ H h => tS_unp ht h
theorem PS_par {i j : Nat} {x y : Str} {px py pt : Pos} {kt k2 : Nat} {pt2 : Pos} (hi0 : i ≠ 0 ∨ pn = none) (hj0 : j ≠ 0 ∨ pn = none) (hc : X.calm = true) (hN : X.N.Nodup) (hi : X.N[i]? = some x) (hj : X.N[j]? = some y) (hij : i ≠ j)
    (hx : X.env.scope.names.lookup x = some .local) (hy : X.env.scope.names.lookup y = some .local) (ha : PE X a (tM G pn W ma)) (hb : PE X b (tM G pn W mb)) (hsa : starEach [a, b] X.env = (false, eval a X.env) :: starEach [b] X.env) (hsb : starEach [b] X.env = (false, eval b X.env) :: starEach [] X.env)
    (hw : swappedStores [.Tuple [.Name x px, .Name y py] kt pt] (.Tuple [a, b] k2 pt2) X.env = pure (some [x, y]))
    (hs : swapsWithSole [.Tuple [.Name x px, .Name y py] kt pt] (.Tuple [a, b] k2 pt2) pos.line X.env = pure false) :
    PS X (.Assign [.Tuple [.Name x px, .Name y py] kt pt] (.Tuple [a, b] k2 pt2) pos) (tS G pn W (sPar i j ma mb)) :=
  PS.imp (ps_par hc hN hi hj hij hx hy (pa_cons ha (pa_cons hb pa_nil hsb) hsa) hw hs) fun D σ H h => tM_mono (tS_par hi0 hj0 hij h) fun v H1 q => tM_mono q fun w H2 q => ⟨v, w, rfl, q⟩
theorem PS_aug {i : Nat} {x : Str} {pos' : Pos} {op : Operator} {f : List D → Option Opd} (h0 : i ≠ 0 ∨ pn = none) (hN : X.N.Nodup) (hi : X.N[i]? = some x) (hx : Loc X.env.scope x) (he : PE X e (tM G pn W m)) (ho : ipF op = some f) (hf : X.fn x = true ∨ X.env.scope.names.lookup x = some .local) :
    PS X (.AugAssign (.Name x pos') op e pos) (tS G pn W (sAug f i m)) := by
  obtain ⟨ti, h1, h2⟩ := ip_ok (G := G) (X := X) ho
  exact PS.imp (ps_aug hN hi hx he h1 hf) fun D σ H h => tS_aug h0 h2 h
theorem PS_augIx {i : Nat} {x : Str} {pos' tpos : Pos} {op : Operator} {f : List D → Option Opd} (hK : X.K = G.K) (hi : X.N[i]? = some x) (hv : Vis X.env.scope x) (hd : (x == ("__debug__" : Str)) = false) (hcd : (x == ("__classdict__" : Str)) = false) (ha : PE X a (tM G pn W ma)) (he : PE X e (tM G pn W m)) (ho : ipF op = some f)
    (hst : ∀ ov iv new, augStore a ov iv new = (do holding [new, ov, iv] (setItem ov iv new); release [new, ov, iv] []; pure .next)) :
    PS X (.AugAssign (.Subscript (.Name x pos') a tpos) op e pos) (tS G pn W (sAugIx f i ma m)) := by
  obtain ⟨ti, h1, h2⟩ := ip_ok (G := G) (X := X) ho
  exact PS.imp (ps_augS (pe_var hi hv hd hcd) ha pget_list he h1 set_list hst) fun D σ H h => by rw [hK]; exact tS_augIx h2 h
end
end Ev
/-! Ev, part I: subscripts, slices, built-in functions. -/
namespace Ev
open PySem PySem.Spec PyProof.Rows L2

section
variable {G : Gam} {pn : Option Addr} {W : WX} {X : Cx} {B F F' H H' : Hp} {σ : L2.St} {r : Rho}
/-! ### x[i] -/
def pIxL : D → D → Option Opd
  | .lst xs, .int i => (atI xs i).map .val
  | .scr xs, .int i => (atI xs i).map .val
  | _, _ => none
def pIxT : D → D → Option Opd
  | .tup xs, .int i => (atI xs i).map .val
  | _, _ => none
def pIxS : D → D → Option Opd
  | .str z, .int i => if z.length ≤ sizeLine then (atI z.cps.toList i).map fun c => .val (.str ⟨#[c]⟩) else none
  | _, _ => none
theorem op_pIxL : Op2 G (rIxL G.K) pIxL := by
  intro F H x y d e o Q s rx ry hf fin
  unfold pIxL at hf
  split at hf
  · rename_i xs i
    cases q : atI xs i with
    | none => rw [q] at hf; cases hf
    | some d =>
      rw [q] at hf
      cases hf
      obtain ⟨a, vs, rfl, h1, r1⟩ := rx.lst s
      obtain ⟨v, hv, rv⟩ := atI_reps r1 q
      exact ⟨a, vs, i, v, rfl, ry.int, SqL.of h1, hv, fin.val s rv⟩
  · rename_i xs i
    cases q : atI xs i with
    | none => rw [q] at hf; cases hf
    | some d =>
      rw [q] at hf
      cases hf
      obtain ⟨a, vs, rfl, h1, r1⟩ := rx.scr
      obtain ⟨v, hv, rv⟩ := atI_reps r1 q
      exact ⟨a, vs, i, v, rfl, ry.int, s.seq h1, hv, fin.val s rv⟩
  · cases hf
theorem op_pIxT : Op2 G (rIxT G.K) pIxT := by
  intro F H x y d e o Q s rx ry hf fin
  unfold pIxT at hf
  split at hf
  · rename_i xs i
    cases q : atI xs i with
    | none => rw [q] at hf; cases hf
    | some d =>
      rw [q] at hf
      cases hf
      obtain ⟨a, vs, rfl, h1, r1⟩ := rx.tup
      obtain ⟨v, hv, rv⟩ := atI_reps r1 q
      exact ⟨a, vs, i, v, rfl, ry.int, sqt_mono s h1, hv, fin.val s rv⟩
  · cases hf
theorem op_pIxS : Op2 G rIxS pIxS := by
  intro F H x y d e o Q s rx ry hf fin
  unfold pIxS at hf
  split at hf
  · rename_i z i
    split at hf
    · rename_i hz
      cases q : atI z.cps.toList i with
      | none => rw [q] at hf; cases hf
      | some c =>
        rw [q] at hf
        cases hf
        exact ⟨z, i, c, rx.str, ry.int, hz, q, fin.val s (.str _)⟩
    · cases hf
  · cases hf
def oIx : List D → Option Opd := two (orD2 pIxL (orD2 pIxT pIxS))
theorem op_ix : Op2 G (rIx G.K) (orD2 pIxL (orD2 pIxT pIxS)) := Op2.or op_pIxL (Op2.or op_pIxT op_pIxS)

/-! ### x[i:j] -/
def cutD (xs : List D) (lo hi : Option Int) : List D := (xs.drop (HT.sIx xs.length 0 lo)).take (HT.sIx xs.length xs.length hi - HT.sIx xs.length 0 lo)
theorem Reps.cut {vs : List V} {ds : List D} (h : Reps G F vs ds) (lo hi : Option Int) : Reps G F (cutV vs lo hi) (cutD ds lo hi) := by
  unfold cutV cutD
  rw [h.length]
  exact (h.drop _).take _
/-- a slice's part -/
def slD (d : D) (lo hi : Option Int) : Option Opd := match d with
  | .lst xs => some (.fresh (.lst (cutD xs lo hi)))
  | .tup xs => some (.val (.tup (cutD xs lo hi)))
  | .str z => if z.length ≤ sizeLine then some (.val (.str (cutS z lo hi))) else none
  | _ => none
def rSlAny (K : PySem.W.Frag) : V → Option Int → Option Int → Hp → VK → Prop := fun x lo hi H Q => rSlL K x lo hi H Q ∨ rSlA K x lo hi H Q ∨ rSlS x lo hi H Q
theorem sl_any : SlR X (rSlAny X.K) := SlR.or sl_list (SlR.or sl_tupA sl_str)
theorem cut_whole (xs : List D) (lo hi : Option Int) (h : HT.sIx xs.length 0 lo = 0 ∧ HT.sIx xs.length xs.length hi = xs.length) : cutD xs lo hi = xs := by
  unfold cutD
  rw [h.1, h.2, List.drop_zero, Nat.sub_zero, List.take_length]
theorem slD_sound {x : V} {d : D} {lo hi : Option Int} {o : Opd} {Q : VK} (s : Same F H) (rx : RepO G F H x d) (h : slD d lo hi = some o) (fin : Fin G F H o Q) : rSlAny G.K x lo hi H Q := by
  unfold slD at h
  split at h
  · rename_i xs
    cases h
    obtain ⟨a, vs, rfl, h1, r1⟩ := rx.lst s
    exact .inl ⟨a, vs, rfl, SqL.of h1, fun p hp => fin.lst s (r1.cut lo hi) hp⟩
  · rename_i xs
    cases h
    obtain ⟨a, vs, rfl, h1, r1⟩ := rx.tup
    refine .inr (.inl ⟨a, vs, rfl, sqt_mono s h1, fun hw => ?_, fun _ p hp => fin.tup s (r1.cut lo hi) hp⟩)
    rw [r1.length] at hw
    rw [cut_whole xs lo hi hw] at fin
    exact fin.val s (.tup a vs _ h1 r1)
  · rename_i z
    split at h
    · rename_i hz
      cases h
      exact .inr (.inr ⟨z, rx.str, hz, fin.val s (.str _)⟩)
    · cases h
  · cases h
def mPart (m : Option M) : MA := match m with
  | none => mArgs []
  | some m => mArgs [m]
/-- the parts of a slice, from the left -/
def oSl (l h : Bool) : List D → Option Opd
  | [d] => if l || h then none else slD d none none
  | [d, .int i] => if l && !h then slD d (some i) none else if !l && h then slD d none (some i) else none
  | [d, .int i, .int j] => if l && h then slD d (some i) (some j) else none
  | _ => none
def mSl (m : M) (lo hi : Option M) : M := mOp (oSl lo.isSome hi.isSome) (m :: (lo.toList ++ hi.toList))
theorem RepOs.one_ {vs : List V} {d : D} (h : RepOs G F H vs [d]) : ∃ v, vs = [v] ∧ RepO G F H v d := by
  cases h with
  | cons v d vs ds h t => cases t; exact ⟨v, rfl, h⟩
theorem RepOs.two_ {vs : List V} {d e : D} (h : RepOs G F H vs [d, e]) : ∃ v w, vs = [v, w] ∧ RepO G F H v d ∧ RepO G F H w e := by
  cases h with
  | cons v d vs ds h t =>
    obtain ⟨w, rfl, h2⟩ := t.one_
    exact ⟨v, w, rfl, h, h2⟩
theorem RepOs.three_ {vs : List V} {d e f : D} (h : RepOs G F H vs [d, e, f]) : ∃ v w z, vs = [v, w, z] ∧ RepO G F H v d ∧ RepO G F H w e ∧ RepO G F H z f := by
  cases h with
  | cons v d vs ds h t =>
    obtain ⟨w, z, rfl, h2, h3⟩ := t.two_
    exact ⟨v, w, z, rfl, h, h2, h3⟩
theorem ops_sl (l h : Bool) : OpS G (fun vs H Q => ∃ x lo hi rest, vs = x :: rest ∧ ((l = false ∧ h = false ∧ rest = [] ∧ lo = none ∧ hi = none) ∨ (∃ i, l = true ∧ h = false ∧ rest = [.int i] ∧ lo = some i ∧ hi = none) ∨ (∃ i, l = false ∧ h = true ∧ rest = [.int i] ∧ lo = none ∧ hi = some i) ∨
    (∃ i j, l = true ∧ h = true ∧ rest = [.int i, .int j] ∧ lo = some i ∧ hi = some j)) ∧ rSlAny G.K x lo hi H Q) (oSl l h) := by
  intro F H vs ds o Q s rs hf fin
  unfold oSl at hf
  split at hf
  · rename_i d
    obtain ⟨v, rfl, h1⟩ := rs.one_
    split at hf
    · cases hf
    · rename_i hc
      rw [Bool.or_eq_true, not_or] at hc
      exact ⟨v, none, none, [], rfl, .inl ⟨by simpa using hc.1, by simpa using hc.2, rfl, rfl, rfl⟩, slD_sound s h1 hf fin⟩
  · rename_i d i
    obtain ⟨v, w, rfl, h1, h2⟩ := rs.two_
    have e := h2.int
    subst e
    split at hf
    · rename_i hc
      rw [Bool.and_eq_true] at hc
      exact ⟨v, some i, none, _, rfl, .inr (.inl ⟨i, hc.1, by simpa using hc.2, rfl, rfl, rfl⟩), slD_sound s h1 hf fin⟩
    · split at hf
      · rename_i hc
        rw [Bool.and_eq_true] at hc
        exact ⟨v, none, some i, _, rfl, .inr (.inr (.inl ⟨i, by simpa using hc.1, hc.2, rfl, rfl, rfl⟩)), slD_sound s h1 hf fin⟩
      · cases hf
  · rename_i d i j
    obtain ⟨v, w, z, rfl, h1, h2, h3⟩ := rs.three_
    have e := h2.int
    have e2 := h3.int
    subst e e2
    split at hf
    · rename_i hc
      rw [Bool.and_eq_true] at hc
      exact ⟨v, some i, some j, _, rfl, .inr (.inr (.inr ⟨i, j, hc.1, hc.2, rfl, rfl, rfl⟩)), slD_sound s h1 hf fin⟩
    · cases hf
  · cases hf
theorem PE_ix {a b : Expr} {ma mb : M} {pos : Pos} (hK : X.K = G.K) (ha : PE X a (tM G pn W ma)) (hb : PE X b (tM G pn W mb)) (hs : PlainIx b) : PE X (.Subscript a b pos) (tM G pn W (mOp oIx [ma, mb])) :=
  PE.imp (pe_ix ix_seq ha hb hs) fun σ H Q h => by rw [hK]; exact tM_mono (op2 (Op2.ops op_ix) h) fun x H1 q => tM_mono q fun y H2 ⟨x', y', e, q⟩ => by cases e; exact q
section
variable {a lo hi : Expr} {ma ml mh : M} {p2 pos : Pos}
theorem PE_sl0 (hK : X.K = G.K) (ha : PE X a (tM G pn W ma)) : PE X (.Subscript a (.Slice none none none p2) pos) (tM G pn W (mSl ma none none)) :=
  PE.imp (pe_slice sl_any ha po_none po_none) fun σ H Q h => tM_mono (op1 (ops_sl false false) h) fun x H1 ⟨x', l, h', rest, e, q, q2⟩ => by
    rw [hK]
    cases e
    rcases q with ⟨_, _, _, rfl, rfl⟩ | ⟨_, h1, _⟩ | ⟨_, _, h1, _⟩ | ⟨_, _, h1, _⟩
    · exact q2
    · cases h1
    · cases h1
    · cases h1
theorem PE_slL (hK : X.K = G.K) (ha : PE X a (tM G pn W ma)) (hl : PE X lo (tM G pn W ml)) : PE X (.Subscript a (.Slice (some lo) none none p2) pos) (tM G pn W (mSl ma (some ml) none)) :=
  PE.imp (pe_slice sl_any ha (po_some hl) po_none) fun σ H Q h => tM_mono (op2 (ops_sl true false) h) fun x H1 q => tM_mono q fun y H2 ⟨x', l, h', rest, e, q, q2⟩ => by
    rw [hK]
    cases e
    rcases q with ⟨h1, _⟩ | ⟨i, _, _, h3, rfl, rfl⟩ | ⟨_, h1, _⟩ | ⟨_, _, _, h1, _⟩
    · cases h1
    · cases h3
      exact ⟨i, rfl, q2⟩
    · cases h1
    · cases h1
theorem PE_slH (hK : X.K = G.K) (ha : PE X a (tM G pn W ma)) (hh : PE X hi (tM G pn W mh)) : PE X (.Subscript a (.Slice none (some hi) none p2) pos) (tM G pn W (mSl ma none (some mh))) :=
  PE.imp (pe_slice sl_any ha po_none (po_some hh)) fun σ H Q h => tM_mono (op2 (ops_sl false true) h) fun x H1 q => tM_mono q fun y H2 ⟨x', l, h', rest, e, q, q2⟩ => by
    rw [hK]
    cases e
    rcases q with ⟨_, h1, _⟩ | ⟨_, h1, _⟩ | ⟨i, _, _, h3, rfl, rfl⟩ | ⟨_, _, h1, _⟩
    · cases h1
    · cases h1
    · cases h3
      exact ⟨i, rfl, q2⟩
    · cases h1
theorem op3 {f : List D → Option Opd} {a b c : M} {R : List V → Hp → VK → Prop} {Q : VK} (hf : OpS G R f) (h : tM G pn W (mOp f [a, b, c]) σ H Q) : tM G pn W a σ H fun x H1 => tM G pn W b σ H1 fun y H2 => tM G pn W c σ H2 fun z H3 => R [x, y, z] H3 Q := by
  refine tM_mono (tMA_cons (tM_op hf h)) fun x H1 q => tM_mono (tMA_cons q) fun y H2 q => tM_mono (tMA_cons q) fun z H3 q => tMA_nil q
/-- a whole number at once -/
def mIntA (m : M) : M := fun r => bindR (m r) fun o r1 => match peek r1 o with
  | some (.int i) => .ok (.val (.int i)) r1
  | _ => .stuck
theorem tM_intA {m : M} {Q : VK} (h : tM G pn W (mIntA m) σ H Q) : tM G pn W m σ H fun y H1 => ∃ i, y = .int i ∧ Q y H1 := by
  obtain ⟨B, F, r, s, p⟩ := h
  refine ⟨B, F, r, s, ?_⟩
  unfold mIntA at p
  revert p
  cases m r with
  | stuck => exact id
  | exn x r1 => exact id
  | ok o r1 =>
    intro p v F1 H1 e1 n1 s1 o1
    replace p : PostE G pn W B F σ Q (match Ev.peek r1 o with
      | some (.int i) => .ok (.val (.int i)) r1
      | _ => .stuck) := p
    split at p
    · rename_i i q
      have e := (s1.peek o1 q).int
      subst e
      exact ⟨i, rfl, p _ F1 H1 e1 n1 s1 (.int i)⟩
    · exact p.elim
theorem PE_slB (hK : X.K = G.K) (ha : PE X a (tM G pn W ma)) (hl : PE X lo (tM G pn W ml)) (hh : PE X hi (tM G pn W mh)) : PE X (.Subscript a (.Slice (some lo) (some hi) none p2) pos) (tM G pn W (mSl ma (some (mIntA ml)) (some mh))) :=
  PE.imp (pe_slice sl_any ha (po_some hl) (po_some hh)) fun σ H Q h => tM_mono (op3 (ops_sl true true) h) fun x H1 q => tM_mono (tM_intA q) fun y H2 ⟨i, ei, q⟩ => ⟨i, ei, tM_mono q fun z H3 ⟨x', l, h', rest, e, q, q2⟩ => by
    rw [hK]
    subst ei
    cases e
    rcases q with ⟨h1, _⟩ | ⟨_, _, h1, _⟩ | ⟨_, h1, _⟩ | ⟨i', j, _, _, h3, rfl, rfl⟩
    · cases h1
    · cases h1
    · cases h1
    · cases h3
      exact ⟨j, rfl, q2⟩⟩
end

/-! ### built-in functions -/
def LenD : D → Option Nat
  | .str x => if x.length ≤ sizeLine then some x.length else none
  | .tup xs => some xs.length
  | .lst xs => some xs.length
  | .scr xs => some xs.length
  | _ => none
def pLen (d : D) : Option Opd := (LenD d).map fun n => .val (.int n)
def RL (r : V → Hp → VK → Prop) : List V → Hp → VK → Prop := fun xs H Q => ∃ x, xs = [x] ∧ r x H Q
theorem op_len : OpS G (fun xs H Q => ∃ x n, xs = [x] ∧ LenV G.K x H n ∧ Q (.int n) H) (one pLen) := by
  intro F H vs ds o Q s rs hf fin
  unfold one at hf
  split at hf
  · rename_i d
    obtain ⟨v, rfl, rv⟩ := rs.one_
    unfold pLen at hf
    cases q : LenD d with
    | none => rw [q] at hf; cases hf
    | some n =>
      rw [q] at hf
      cases hf
      refine ⟨v, n, rfl, ?_, fin.val s (.int _)⟩
      unfold LenD at q
      split at q
      · split at q
        · rename_i x hx
          cases q
          rw [rv.str]
          exact ⟨hx, rfl⟩
        · cases q
      · cases q
        obtain ⟨a, vs, rfl, h1, r1⟩ := rv.tup
        exact .inr ⟨vs, sqt_mono s h1, r1.length.symm⟩
      · cases q
        obtain ⟨a, vs, rfl, h1, r1⟩ := rv.lst s
        exact .inl ⟨vs, SqL.of h1, r1.length.symm⟩
      · cases q
        obtain ⟨a, vs, rfl, h1, r1⟩ := rv.scr
        exact .inl ⟨vs, s.seq h1, r1.length.symm⟩
      · cases q
  · cases hf
def pInt1 : D → Option Opd
  | .int i => some (.val (.int i))
  | .bl k => some (.val (.int (if k then 1 else 0)))
  | _ => none
theorem op_int1 : OpS G (fun xs H Q => (∃ i, xs = [.int i] ∧ Q (.int i) H) ∨ ∃ k, xs = [.bl k] ∧ Q (.int (if k then 1 else 0)) H) (one pInt1) := by
  intro F H vs ds o Q s rs hf fin
  unfold one at hf
  split at hf
  · rename_i d
    obtain ⟨v, rfl, rv⟩ := rs.one_
    unfold pInt1 at hf
    split at hf
    · cases hf; exact .inl ⟨_, by rw [rv.int], fin.val s (.int _)⟩
    · cases hf; exact .inr ⟨_, by rw [rv.bl], fin.val s (.int _)⟩
    · cases hf
  · cases hf
def pAbs : D → Option Opd
  | .int i => some (.val (.int (if i < 0 then -i else i)))
  | _ => none
theorem op_abs : OpS G (fun xs H Q => ∃ i, xs = [.int i] ∧ Q (.int (if i < 0 then -i else i)) H) (one pAbs) := by
  intro F H vs ds o Q s rs hf fin
  unfold one at hf
  split at hf
  · rename_i d
    obtain ⟨v, rfl, rv⟩ := rs.one_
    unfold pAbs at hf
    split at hf
    · cases hf; exact ⟨_, by rw [rv.int], fin.val s (.int _)⟩
    · cases hf
  · cases hf
def pMax2 : D → D → Option Opd
  | .int i, .int j => some (.val (.int (if j > i then j else i)))
  | _, _ => none
def pMin2 : D → D → Option Opd
  | .int i, .int j => some (.val (.int (if j < i then j else i)))
  | _, _ => none
theorem op_max2 : OpS G (fun xs H Q => ∃ i j, xs = [.int i, .int j] ∧ Q (.int (if j > i then j else i)) H) (two pMax2) := by
  intro F H vs ds o Q s rs hf fin
  unfold two at hf
  split at hf
  · obtain ⟨v, w, rfl, rv, rw'⟩ := rs.two_
    unfold pMax2 at hf
    split at hf
    · cases hf; exact ⟨_, _, by rw [rv.int, rw'.int], fin.val s (.int _)⟩
    · cases hf
  · cases hf
theorem op_min2 : OpS G (fun xs H Q => ∃ i j, xs = [.int i, .int j] ∧ Q (.int (if j < i then j else i)) H) (two pMin2) := by
  intro F H vs ds o Q s rs hf fin
  unfold two at hf
  split at hf
  · obtain ⟨v, w, rfl, rv, rw'⟩ := rs.two_
    unfold pMin2 at hf
    split at hf
    · cases hf; exact ⟨_, _, by rw [rv.int, rw'.int], fin.val s (.int _)⟩
    · cases hf
  · cases hf
/-- the whole numbers of a list -/
def lstInts : D → Option (List Int)
  | .lst ds => intsD ds
  | .scr ds => intsD ds
  | _ => none
theorem RepO.lstInts {v : V} {d : D} {ns : List Int} (s : Same F H) (r : RepO G F H v d) (h : Ev.lstInts d = some ns) : ∃ a, v = .ref a ∧ SqL G.K H a (ns.map V.int) := by
  unfold Ev.lstInts at h
  split at h
  · obtain ⟨a, vs, rfl, h1, r1⟩ := r.lst s
    rw [intsD_ok h] at r1
    rw [r1.ints] at h1
    exact ⟨a, rfl, SqL.of h1⟩
  · obtain ⟨a, vs, rfl, h1, r1⟩ := r.scr
    rw [intsD_ok h] at r1
    rw [r1.ints] at h1
    exact ⟨a, rfl, s.seq h1⟩
  · cases h
def pSum (d : D) : Option Opd := (lstInts d).map fun ns => .val (.int ns.sum)
theorem op_sum : OpS G (rSum G.K) (one pSum) := by
  intro F H vs ds o Q s rs hf fin
  unfold one at hf
  split at hf
  · rename_i d
    obtain ⟨v, rfl, rv⟩ := rs.one_
    unfold pSum at hf
    cases q : lstInts d with
    | none => rw [q] at hf; cases hf
    | some ns =>
      rw [q] at hf
      cases hf
      obtain ⟨a, rfl, h⟩ := rv.lstInts s q
      exact ⟨a, ns, rfl, h, fin.val s (.int _)⟩
  · cases hf
/-- the greatest, the least -/
def maxL : List Int → Option Int
  | [] => none
  | n :: ns => some (ns.foldl max n)
def minL : List Int → Option Int
  | [] => none
  | n :: ns => some (ns.foldl min n)
theorem foldl_max (ns : List Int) : ∀ n : Int, n ≤ ns.foldl max n ∧ (∀ y ∈ ns, y ≤ ns.foldl max n) ∧ (ns.foldl max n = n ∨ ns.foldl max n ∈ ns) := by
  induction ns with
  | nil => intro n; exact ⟨Int.le_refl _, fun y h => (by cases h), .inl rfl⟩
  | cons m ms ih =>
    intro n
    obtain ⟨h1, h2, h3⟩ := ih (max n m)
    rw [List.foldl_cons]
    refine ⟨by omega, fun y hy => ?_, ?_⟩
    · rcases List.mem_cons.mp hy with rfl | hy
      · omega
      · exact h2 y hy
    · rcases h3 with h3 | h3
      · rw [h3]
        by_cases q : n ≤ m
        · right; rw [Int.max_eq_right q]; exact List.mem_cons_self
        · left; exact Int.max_eq_left (by omega)
      · exact .inr (List.mem_cons_of_mem _ h3)
theorem foldl_min (ns : List Int) : ∀ n : Int, ns.foldl min n ≤ n ∧ (∀ y ∈ ns, ns.foldl min n ≤ y) ∧ (ns.foldl min n = n ∨ ns.foldl min n ∈ ns) := by
  induction ns with
  | nil => intro n; exact ⟨Int.le_refl _, fun y h => (by cases h), .inl rfl⟩
  | cons m ms ih =>
    intro n
    obtain ⟨h1, h2, h3⟩ := ih (min n m)
    rw [List.foldl_cons]
    refine ⟨by omega, fun y hy => ?_, ?_⟩
    · rcases List.mem_cons.mp hy with rfl | hy
      · omega
      · exact h2 y hy
    · rcases h3 with h3 | h3
      · rw [h3]
        by_cases q : n ≤ m
        · left; exact Int.min_eq_left q
        · right; rw [Int.min_eq_right (by omega)]; exact List.mem_cons_self
      · exact .inr (List.mem_cons_of_mem _ h3)
theorem maxL_uniq {ns : List Int} {k m : Int} (h : maxL ns = some k) (hm : m ∈ ns) (hu : ∀ y ∈ ns, y ≤ m) : m = k := by
  cases ns with
  | nil => cases h
  | cons n ns =>
    cases h
    obtain ⟨h1, h2, h3⟩ := foldl_max ns n
    have a : m ≤ ns.foldl max n := by
      rcases List.mem_cons.mp hm with rfl | hm
      · exact h1
      · exact h2 m hm
    have b : ns.foldl max n ≤ m := by
      rcases h3 with h3 | h3
      · rw [h3]; exact hu n List.mem_cons_self
      · exact hu _ (List.mem_cons_of_mem _ h3)
    omega
theorem minL_uniq {ns : List Int} {k m : Int} (h : minL ns = some k) (hm : m ∈ ns) (hu : ∀ y ∈ ns, m ≤ y) : m = k := by
  cases ns with
  | nil => cases h
  | cons n ns =>
    cases h
    obtain ⟨h1, h2, h3⟩ := foldl_min ns n
    have a : ns.foldl min n ≤ m := by
      rcases List.mem_cons.mp hm with rfl | hm
      · exact h1
      · exact h2 m hm
    have b : m ≤ ns.foldl min n := by
      rcases h3 with h3 | h3
      · rw [h3]; exact hu n List.mem_cons_self
      · exact hu _ (List.mem_cons_of_mem _ h3)
    omega
def pMax1 (d : D) : Option Opd := ((lstInts d).bind maxL).map fun n => .val (.int n)
def pMin1 (d : D) : Option Opd := ((lstInts d).bind minL).map fun n => .val (.int n)
theorem op_max1 : OpS G (rMax G.K) (one pMax1) := by
  intro F H vs ds o Q s rs hf fin
  unfold one at hf
  split at hf
  · rename_i d
    obtain ⟨v, rfl, rv⟩ := rs.one_
    unfold pMax1 at hf
    cases q : lstInts d with
    | none => rw [q] at hf; cases hf
    | some ns =>
      rw [q] at hf
      cases q2 : maxL ns with
      | none => rw [show (some ns).bind maxL = maxL ns from rfl, q2] at hf; cases hf
      | some k =>
        rw [show (some ns).bind maxL = maxL ns from rfl, q2] at hf
        cases hf
        obtain ⟨a, rfl, h⟩ := rv.lstInts s q
        refine ⟨a, ns, rfl, h, ?_, fun m hm hu => ?_⟩
        · cases ns with
          | nil => cases q2
          | cons => exact Nat.succ_pos _
        · rw [maxL_uniq q2 hm hu]
          exact fin.val s (.int _)
  · cases hf
theorem op_min1 : OpS G (rMin G.K) (one pMin1) := by
  intro F H vs ds o Q s rs hf fin
  unfold one at hf
  split at hf
  · rename_i d
    obtain ⟨v, rfl, rv⟩ := rs.one_
    unfold pMin1 at hf
    cases q : lstInts d with
    | none => rw [q] at hf; cases hf
    | some ns =>
      rw [q] at hf
      cases q2 : minL ns with
      | none => rw [show (some ns).bind minL = minL ns from rfl, q2] at hf; cases hf
      | some k =>
        rw [show (some ns).bind minL = minL ns from rfl, q2] at hf
        cases hf
        obtain ⟨a, rfl, h⟩ := rv.lstInts s q
        refine ⟨a, ns, rfl, h, ?_, fun m hm hu => ?_⟩
        · cases ns with
          | nil => cases q2
          | cons => exact Nat.succ_pos _
        · rw [minL_uniq q2 hm hu]
          exact fin.val s (.int _)
  · cases hf
/-- tuple(x), list(x) -/
def pTuple (d : D) : Option Opd := match d with
  | .lst xs => some (.val (.tup xs))
  | .scr xs => some (.val (.tup xs))
  | .tup xs => some (.val (.tup xs))
  | _ => none
theorem op_tuple : OpS G (fun xs H Q => ∃ p ys, xs = [.ref p] ∧ ((SqL G.K H p ys ∧ ∀ l, H l = none → Q (.ref l) (upd H l (.tup ys))) ∨ (SqT G.K H p ys ∧ Q (.ref p) H))) (one pTuple) := by
  intro F H vs ds o Q s rs hf fin
  unfold one at hf
  split at hf
  · rename_i d
    obtain ⟨v, rfl, rv⟩ := rs.one_
    unfold pTuple at hf
    split at hf
    · cases hf
      obtain ⟨a, vs, rfl, h1, r1⟩ := rv.lst s
      exact ⟨a, vs, rfl, .inl ⟨SqL.of h1, fun p hp => fin.tup s r1 hp⟩⟩
    · cases hf
      obtain ⟨a, vs, rfl, h1, r1⟩ := rv.scr
      exact ⟨a, vs, rfl, .inl ⟨s.seq h1, fun p hp => fin.tup s r1 hp⟩⟩
    · cases hf
      obtain ⟨a, vs, rfl, h1, r1⟩ := rv.tup
      exact ⟨a, vs, rfl, .inr ⟨sqt_mono s h1, fin.val s (.tup a vs _ h1 r1)⟩⟩
    · cases hf
  · cases hf
def pList (d : D) : Option Opd := (itemsD d).map fun xs => .fresh (.lst xs)
theorem op_list : OpS G (fun xs H Q => ∃ p ys, xs = [.ref p] ∧ (SqL G.K H p ys ∨ SqT G.K H p ys) ∧ ∀ l, H l = none → Q (.ref l) (upd H l (.lst ys))) (one pList) := by
  intro F H vs ds o Q s rs hf fin
  unfold one at hf
  split at hf
  · rename_i d
    obtain ⟨v, rfl, rv⟩ := rs.one_
    unfold pList at hf
    cases q : itemsD d with
    | none => rw [q] at hf; cases hf
    | some xs =>
      rw [q] at hf
      cases hf
      obtain ⟨a, vs, rfl, h1, r1⟩ := rv.items s q
      exact ⟨a, vs, rfl, h1.symm, fun p hp => fin.lst s r1 hp⟩
  · cases hf
/-- all, any of a list of bools -/
def blsD : List D → Option (List Bool)
  | [] => some []
  | .bl i :: ds => (blsD ds).map (i :: ·)
  | _ => none
theorem blsD_ok : ∀ {ds : List D} {ns : List Bool}, blsD ds = some ns → ds = ns.map D.bl
  | [], _, h => by cases h; rfl
  | .bl i :: ds, _, h => by
    have h : (blsD ds).map (i :: ·) = some _ := h
    cases q : blsD ds with
    | none => rw [q] at h; cases h
    | some ms => rw [q] at h; cases h; rw [blsD_ok q]; rfl
  | .non :: _, _, h => by cases h
  | .int _ :: _, _, h => by cases h
  | .str _ :: _, _, h => by cases h
  | .fn _ :: _, _, h => by cases h
  | .tup _ :: _, _, h => by cases h
  | .lst _ :: _, _, h => by cases h
  | .obj _ _ :: _, _, h => by cases h
  | .dct _ _ :: _, _, h => by cases h
  | .scr _ :: _, _, h => by cases h
def lstBls : D → Option (List Bool)
  | .lst ds => blsD ds
  | _ => none
theorem RepO.lstBls {v : V} {d : D} {ns : List Bool} (s : Same F H) (r : RepO G F H v d) (h : Ev.lstBls d = some ns) : ∃ a, v = .ref a ∧ SqL G.K H a (ns.map V.bl) := by
  unfold Ev.lstBls at h
  split at h
  · obtain ⟨a, vs, rfl, h1, r1⟩ := r.lst s
    rw [blsD_ok h] at r1
    rw [r1.bls] at h1
    exact ⟨a, rfl, SqL.of h1⟩
  · cases h
def pAll (d : D) : Option Opd := (lstBls d).map fun bs => .val (.bl (bs.all id))
def pAny (d : D) : Option Opd := (lstBls d).map fun bs => .val (.bl (bs.any id))
theorem op_all : OpS G (rAll G.K) (one pAll) := by
  intro F H vs ds o Q s rs hf fin
  unfold one at hf
  split at hf
  · rename_i d
    obtain ⟨v, rfl, rv⟩ := rs.one_
    unfold pAll at hf
    cases q : lstBls d with
    | none => rw [q] at hf; cases hf
    | some ns =>
      rw [q] at hf
      cases hf
      obtain ⟨a, rfl, h⟩ := rv.lstBls s q
      exact ⟨a, ns, rfl, h, fin.val s (.bl _)⟩
  · cases hf
theorem op_any : OpS G (rAny G.K) (one pAny) := by
  intro F H vs ds o Q s rs hf fin
  unfold one at hf
  split at hf
  · rename_i d
    obtain ⟨v, rfl, rv⟩ := rs.one_
    unfold pAny at hf
    cases q : lstBls d with
    | none => rw [q] at hf; cases hf
    | some ns =>
      rw [q] at hf
      cases hf
      obtain ⟨a, rfl, h⟩ := rv.lstBls s q
      exact ⟨a, ns, rfl, h, fin.val s (.bl _)⟩
  · cases hf
/-- sorted of whole numbers -/
def ins (n : Int) : List Int → List Int
  | [] => [n]
  | m :: ms => if n ≤ m then n :: m :: ms else m :: ins n ms
def isort : List Int → List Int
  | [] => []
  | n :: ns => ins n (isort ns)
theorem ins_perm (n : Int) : ∀ ms : List Int, (ins n ms).Perm (n :: ms)
  | [] => .refl _
  | m :: ms => by
    unfold ins
    split
    · exact .refl _
    · exact ((ins_perm n ms).cons m).trans (.swap n m ms)
theorem isort_perm : ∀ ns : List Int, (isort ns).Perm ns
  | [] => .refl _
  | n :: ns => (ins_perm n _).trans ((isort_perm ns).cons n)
theorem ins_sorted (n : Int) : ∀ {ms : List Int}, ms.Pairwise (· ≤ ·) → (ins n ms).Pairwise (· ≤ ·)
  | [], _ => by unfold ins; exact List.pairwise_singleton _ _
  | m :: ms, h => by
    unfold ins
    obtain ⟨h1, h2⟩ := List.pairwise_cons.mp h
    split
    · rename_i hn
      refine List.pairwise_cons.mpr ⟨fun y hy => ?_, h⟩
      rcases List.mem_cons.mp hy with rfl | hy
      · exact hn
      · exact Int.le_trans hn (h1 y hy)
    · rename_i hn
      refine List.pairwise_cons.mpr ⟨fun y hy => ?_, ins_sorted n h2⟩
      rcases List.mem_cons.mp ((ins_perm n ms).mem_iff.mp hy) with rfl | hy
      · omega
      · exact h1 y hy
theorem isort_sorted : ∀ ns : List Int, (isort ns).Pairwise (· ≤ ·)
  | [] => List.Pairwise.nil
  | n :: ns => ins_sorted n (isort_sorted ns)
theorem sorted_uniq : ∀ {as bs : List Int}, as.Perm bs → as.Pairwise (· ≤ ·) → bs.Pairwise (· ≤ ·) → as = bs
  | [], bs, p, _, _ => p.nil_eq
  | a :: as, [], p, _, _ => by have := p.length_eq; simp at this
  | a :: as, b :: bs, p, ha, hb => by
    obtain ⟨a1, a2⟩ := List.pairwise_cons.mp ha
    obtain ⟨b1, b2⟩ := List.pairwise_cons.mp hb
    have h1 : a ≤ b := by
      rcases List.mem_cons.mp (p.mem_iff.mpr List.mem_cons_self) with e | h
      · rw [e]; exact Int.le_refl _
      · exact a1 b h
    have h2 : b ≤ a := by
      rcases List.mem_cons.mp (p.mem_iff.mp List.mem_cons_self) with e | h
      · rw [e]; exact Int.le_refl _
      · exact b1 a h
    have e : a = b := by omega
    subst e
    rw [sorted_uniq (List.Perm.cons_inv p) a2 b2]
def pSorted (d : D) : Option Opd := (lstInts d).map fun ns => .fresh (.lst ((isort ns).map .int))
def pSortedR (d : D) : Option Opd := (lstInts d).map fun ns => .fresh (.lst ((isort ns).reverse.map .int))
theorem op_sorted : OpS G (rSortedI G.K) (one pSorted) := by
  intro F H vs ds o Q s rs hf fin
  unfold one at hf
  split at hf
  · rename_i d
    obtain ⟨v, rfl, rv⟩ := rs.one_
    unfold pSorted at hf
    cases q : lstInts d with
    | none => rw [q] at hf; cases hf
    | some ns =>
      rw [q] at hf
      cases hf
      obtain ⟨a, rfl, h⟩ := rv.lstInts s q
      refine ⟨a, ns, rfl, h, fun ns' p pm pw hp => ?_⟩
      have e : ns' = isort ns := sorted_uniq (pm.trans (isort_perm ns).symm) pw (isort_sorted ns)
      subst e
      exact fin.lst s (Reps.ofInts _) hp
  · cases hf
theorem op_sortedR : OpS G (fun xs H Q => ∃ (a : Addr) (ns : List Int), xs = [V.ref a] ∧ SqL G.K H a (ns.map V.int) ∧ ∀ (ns' : List Int) (p : Addr), ns'.Perm ns → OrdB true ns' → H p = none → Q (.ref p) (upd H p (.lst (ns'.map V.int)))) (one pSortedR) := by
  intro F H vs ds o Q s rs hf fin
  unfold one at hf
  split at hf
  · rename_i d
    obtain ⟨v, rfl, rv⟩ := rs.one_
    unfold pSortedR at hf
    cases q : lstInts d with
    | none => rw [q] at hf; cases hf
    | some ns =>
      rw [q] at hf
      cases hf
      obtain ⟨a, rfl, h⟩ := rv.lstInts s q
      refine ⟨a, ns, rfl, h, fun ns' p pm pw hp => ?_⟩
      have pw : ns'.Pairwise (· ≥ ·) := pw
      have e : ns'.reverse = isort ns := sorted_uniq ((List.reverse_perm ns').trans (pm.trans (isort_perm ns).symm)) (List.pairwise_reverse.mpr pw) (isort_sorted ns)
      have e2 : ns' = (isort ns).reverse := by rw [← e, List.reverse_reverse]
      subst e2
      exact fin.lst s (Reps.ofInts _) hp
  · cases hf
/-- repr, str -/
def pStrI : D → Option Opd
  | .int i => if i.natAbs.log2 < 1920 then some (.val (.str (toString i))) else none
  | _ => none
theorem op_strI : OpS G (fun xs H Q => ∃ i, xs = [.int i] ∧ i.natAbs.log2 < 1920 ∧ Q (.str (toString i)) H) (one pStrI) := by
  intro F H vs ds o Q s rs hf fin
  unfold one at hf
  split at hf
  · rename_i d
    obtain ⟨v, rfl, rv⟩ := rs.one_
    unfold pStrI at hf
    split at hf
    · split at hf
      · rename_i hc
        cases hf
        exact ⟨_, by rw [rv.int], hc, fin.val s (.str _)⟩
      · cases hf
    · cases hf
  · cases hf
/-- a call of a built-in by its name -/
theorem PE_callB {id : String} {x : Str} {p pos : Pos} {e : Expr} {es : List Expr} {ms : List M} {R : List V → Hp → VK → Prop} {f : List D → Option Opd} (hc : CallR X (.builtin id) R) (hf : OpS G R f) (hg : Gl X x) (hm : X.mg x = none) (hv : bootBuiltins x = some (.builtin id))
    (ha : PA X (e :: es) (tMA G pn W (mArgs ms))) (hn : x ≠ "__name__") (hdb : (x == ("__debug__" : Str)) = false) (he : starEach (e :: es) X.env = (false, eval e X.env) :: starEach es X.env) (hpl : (backTo pos (starEach es X.env)).any (·.1) = false) :
    PE X (.Call (.Name x p) (e :: es) [] pos) (tM G pn W (mOp f ms)) := PE.imp (pe_callB hc hg hm hv ha hn hdb he hpl) fun σ H Q h => tM_op hf h
theorem PE_callTy {T : String} {x : Str} {p pos : Pos} {e : Expr} {es : List Expr} {ms : List M} {R : List V → Hp → VK → Prop} {f : List D → Option Opd} (hc : CallR X (.type T) R) (hf : OpS G R f) (hg : Gl X x) (hm : X.mg x = none) (hv : bootBuiltins x = some (.type T))
    (ha : PA X (e :: es) (tMA G pn W (mArgs ms))) (hn : x ≠ "__name__") (hdb : (x == ("__debug__" : Str)) = false) (he : starEach (e :: es) X.env = (false, eval e X.env) :: starEach es X.env) (hpl : (backTo pos (starEach es X.env)).any (·.1) = false) :
    PE X (.Call (.Name x p) (e :: es) [] pos) (tM G pn W (mOp f ms)) := PE.imp (pe_callTy hc hg hm hv ha hn hdb he hpl) fun σ H Q h => tM_op hf h
end
end Ev
/-! Ev, part J: displays, chains, isinstance, slots, reversed tuples, sorted(reverse=True). -/
namespace Ev
open PySem PySem.Spec PyProof.Rows L2

section
variable {G : Gam} {pn : Option Addr} {W : WX} {X : Cx} {B F F' H H' : Hp} {σ : L2.St} {r : Rho}
/-! ### displays -/
theorem PE_tupD {es : List Expr} {x1 : Nat} {pos : Pos} {ma : MA} (hp : PlainA ma) (h : PA X es (tMA G pn W ma)) : PE X (.Tuple es x1 pos) (tM G pn W (mTup ma)) := PE.imp (pe_tup h) fun σ H Q q => tM_coll hp coll_tup q
theorem PE_lstD {es : List Expr} {pos : Pos} {ma : MA} (hp : PlainA ma) (h : PA X es (tMA G pn W ma)) : PE X (.List es pos) (tM G pn W (mLst ma)) := PE.imp (pe_lst h) fun σ H Q q => tM_coll hp coll_lst q

/-! ### one behind another -/
theorem PostE.mono {Q : VK} {o : Res Opd} (e : Same F F') (n : NewO B F F') (p : PostE G pn W B F σ Q o) : PostE G pn W B F' σ Q o := by
  cases o with
  | stuck => exact p
  | exn x r => exact fun cls d F2 H2 e2 n2 => p cls d F2 H2 (e.trans e2) (n.trans n2)
  | ok o r => exact fun v F2 H2 e2 n2 => p v F2 H2 (e.trans e2) (n.trans n2)
theorem tM_bindM {m : M} {k : Opd → M} {Q : VK} (h : tM G pn W (fun r => bindR (m r) k) σ H Q) :
    tM G pn W m σ H fun x H1 => ∃ B F1 o r1, Sta G pn B F1 H1 σ r1 ∧ OpdR G B F1 H1 σ r1 x o ∧ PostE G pn W B F1 σ Q (k o r1) := by
  obtain ⟨B, F, r, s, p⟩ := h
  refine ⟨B, F, r, s, ?_⟩
  revert p
  show PostE G pn W B F σ Q (bindR (m r) k) → _
  cases m r with
  | stuck => exact id
  | exn x r1 => exact id
  | ok o r1 => exact fun p v F1 H1 e n st oo => ⟨B, F1, o, r1, st, oo, PostE.mono e n p⟩
theorem PostE.bindM {m : M} {k : Opd → M} {r1 : Rho} {Q : VK} (s : Sta G pn B F H σ r1) (p : PostE G pn W B F σ Q (bindR (m r1) k)) :
    tM G pn W m σ H fun x H1 => ∃ F1 o r1, Same F F1 ∧ Sta G pn B F1 H1 σ r1 ∧ OpdR G B F1 H1 σ r1 x o ∧ PostE G pn W B F1 σ Q (k o r1) := by
  refine ⟨B, F, r1, s, ?_⟩
  revert p
  cases m r1 with
  | stuck => exact id
  | exn x r1 => exact id
  | ok o r1 => exact fun p v F1 H1 e n st oo => ⟨F1, o, r1, e, st, oo, PostE.mono e n p⟩

/-! ### a < b < c -/
def chk (f : List D → Option Opd) (os : List Opd) (r : Rho) : Res Bool := match (peeks r os).bind f with
  | some (.val (.bl k)) => .ok k r
  | _ => .stuck
def mChain (f f' : List D → Option Opd) (a b c : M) : M := fun r => bindR (a r) fun o1 r1 => bindR (b r1) fun o2 r2 => bindR (chk f [noFresh o1, noFresh o2] r2) fun k r3 =>
  if k = true then bindR (c r3) fun o3 r4 => opt ((peeks r4 [noFresh o2, noFresh o3]).bind f') r4 else .ok (.val (.bl false)) r3
theorem chk_ok {f : List D → Option Opd} {os : List Opd} {r r' : Rho} {k : Bool} (h : chk f os r = .ok k r') : r' = r ∧ ∃ ds, peeks r os = some ds ∧ f ds = some (.val (.bl k)) := by
  unfold chk at h
  split at h
  · rename_i k' q
    cases h
    cases q2 : peeks r os with
    | none => rw [q2] at q; cases q
    | some ds => rw [q2] at q; exact ⟨rfl, ds, rfl, q⟩
  · cases h
theorem chk_exn {f : List D → Option Opd} {os : List Opd} {r r' : Rho} {x : Xn} (h : chk f os r = .exn x r') : False := by
  unfold chk at h
  split at h <;> cases h
theorem tM_chain {f f' : D → D → Option Opd} {a b c : M} {R R' : R2} {Q : VK} (hf : Op2 G R f) (hf' : Op2 G R' f') (h : tM G pn W (mChain (two f) (two f') a b c) σ H Q) : tChain R R' (tM G pn W a) (tM G pn W b) (tM G pn W c) σ H Q := by
  refine tM_mono (tM_bindM h) fun x H1 ⟨B, F1, o1, r1, s1, a1, p1⟩ => ?_
  obtain ⟨F1', e1, n1, s1', a1'⟩ := s1.settle a1
  refine tM_mono (PostE.bindM s1' (PostE.mono e1 n1 p1)) fun y H2 ⟨F2, o2, r2, e2, s2, a2, p2⟩ => ?_
  obtain ⟨F2', e2', n2, s2', a2'⟩ := s2.settle a2
  replace p2 := PostE.mono e2' n2 p2
  have b1 : OpdR G B F2' H2 σ r2 x (noFresh o1) := a1'.keep (e2.trans e2')
  cases q : chk (two f) [noFresh o1, noFresh o2] r2 with
  | stuck => rw [q] at p2; exact p2.elim
  | exn x r3 => exact (chk_exn q).elim
  | ok k r3 =>
    rw [q] at p2
    obtain ⟨rfl, ds, q1, q2⟩ := chk_ok q
    have hps := s2'.peeks (.cons _ _ _ _ b1 (.cons _ _ _ _ a2' .nil)) q1
    cases hps with
    | cons _ d _ ds h1 t => cases t with
      | cons _ d2 _ ds h2 t => cases t with
        | nil =>
          refine hf F2' H2 x y d d2 (.val (.bl k)) _ s2'.fH h1 h2 q2 fun v F3 H3 e3 e4 e5 n3 rr => ?_
          have s3 := s2'.growS e3 e4 e5 n3
          have e3' : Same F2' (noT F3) := same_noT e3 s2'.kp.nF
          have hv : v = .bl k := by
            have rr : Rep G F3 v (.bl k) := rr
            cases rr
            rfl
          subst hv
          refine ⟨k, rfl, ?_⟩
          have p3 : PostE G pn W B (noT F3) σ Q (if k = true then bindR (c r3) fun o3 r4 => opt ((peeks r4 [noFresh o2, noFresh o3]).bind (two f')) r4 else .ok (.val (.bl false)) r3) := PostE.mono e3' (s2'.newO n3).noT p2
          cases k with
          | false => exact p3 (.bl false) (noT F3) H3 (Same.refl _) (NewO.refl _ _) s3 (.bl false)
          | true =>
            rw [if_pos rfl] at p3 ⊢
            refine tM_mono (PostE.bindM (k := fun o3 r4 => opt ((peeks r4 [noFresh o2, noFresh o3]).bind (two f')) r4) s3 p3) fun w H4 ⟨F4, o3, r4, e6, s4, a3, p4⟩ => ?_
            obtain ⟨F4', e7, n4, s4', a3'⟩ := s4.settle a3
            replace p4 := PostE.mono e7 n4 p4
            have b2 : OpdR G B F4' H4 σ r4 y (noFresh o2) := a2'.keep ((e3'.trans e6).trans e7)
            cases q3 : peeks r4 [noFresh o2, noFresh o3] with
            | none => rw [q3] at p4; exact p4.elim
            | some es =>
              rw [q3] at p4
              replace p4 : PostE G pn W B F4' σ Q (opt (two f' es) r4) := p4
              have hps := s4'.peeks (.cons _ _ _ _ b2 (.cons _ _ _ _ a3' .nil)) q3
              cases hps with
              | cons _ d _ ds h1 t => cases t with
                | cons _ d2 _ ds h2 t => cases t with
                  | nil =>
                    cases q4 : f' d d2 with
                    | none =>
                      have : two f' [d, d2] = none := q4
                      rw [this] at p4; exact p4.elim
                    | some o =>
                      have e4 : two f' [d, d2] = some o := q4
                      rw [e4] at p4
                      exact hf' F4' H4 y w d d2 o Q s4'.fH h1 h2 q4 (s4'.fin p4)
theorem PE_chain {op op' : CmpOp} {a b c : Expr} {ma mb mc : M} {k : Nat} {pos : Pos} (hr : Room k X.A) (hK : X.K = G.K) (ha : PE X a (tM G pn W ma)) (hb : PE X b (tM G pn W mb)) (hc : PE X c (tM G pn W mc)) (hm : lastMarks [op, op'] [b, c] = false) :
    PE X (.Compare a [op, op'] [b, c] pos) (tM G pn W (mChain (cmpF op) (cmpF op') ma mb mc)) := by
  obtain ⟨R, h1, f, e1, h2⟩ := cmp_ok (G := G) op hr hK
  obtain ⟨R', h1', f', e1', h2'⟩ := cmp_ok (G := G) op' hr hK
  rw [e1, e1']
  exact PE.imp (pe_chain h1 h1' ha hb hc hm) fun σ H Q h => tM_chain h2 h2' h
theorem PT_chain {op op' : CmpOp} {a b c : Expr} {ma mb mc : M} {k : Nat} {pos : Pos} (hr : Room k X.A) (hK : X.K = G.K) (ha : PE X a (tM G pn W ma)) (hb : PE X b (tM G pn W mb)) (hc : PE X c (tM G pn W mc)) (hm : lastMarks [op, op'] [b, c] = false) :
    PT X (.Compare a [op, op'] [b, c] pos) (tMT G pn W (mBool (mChain (cmpF op) (cmpF op') ma mb mc))) := by
  obtain ⟨R, h1, f, e1, h2⟩ := cmp_ok (G := G) op hr hK
  obtain ⟨R', h1', f', e1', h2'⟩ := cmp_ok (G := G) op' hr hK
  rw [e1, e1']
  exact PT.imp (pt_chain h1 h1' ha hb hc hm) fun σ H Q h => tM_chain h2 h2' (tMT_bool h)
end

/-! ### isinstance -/
inductive BT where
  | int | bool | tuple | list | str | dict
def btS : BT → String
  | .int => "int" | .bool => "bool" | .tuple => "tuple" | .list => "list" | .str => "str" | .dict => "dict"
/-- a value's type -/
inductive VT where
  | non | int | bool | tuple | list | str | dict
def vtS : VT → String
  | .non => "NoneType" | .int => "int" | .bool => "bool" | .tuple => "tuple" | .list => "list" | .str => "str" | .dict => "dict"
def vtOf : D → Option VT
  | .non => some .non
  | .bl _ => some .bool
  | .int _ => some .int
  | .str _ => some .str
  | .tup _ => some .tuple
  | .lst _ => some .list
  | .scr _ => some .list
  | .dct _ _ => some .dict
  | _ => none
def isBT : BT → VT → Bool
  | .int, .int => true
  | .int, .bool => true
  | .bool, .bool => true
  | .tuple, .tuple => true
  | .list, .list => true
  | .str, .str => true
  | .dict, .dict => true
  | _, _ => false
theorem isBT_ok (b : BT) (v : VT) : kitB (vtS v) (btS b) = some (isBT b v) := by cases b <;> cases v <;> decide +kernel
def allBT : List BT := [.int, .bool, .tuple, .list, .str, .dict]
def allVT : List VT := [.non, .int, .bool, .tuple, .list, .str, .dict]
theorem all_bt (b : BT) : b ∈ allBT := by cases b <;> simp [allBT]
theorem all_vt (b : VT) : b ∈ allVT := by cases b <;> simp [allVT]
/-- what the text says of a class with slots -/
structure ClF (K : PySem.W.Frag) (C : Addr) : Prop where
  sc : SlX.SCls K C
  si : SlX.SIsi K C
  me : PySem.W.kitOne K (.ref C) (.ref C) = some true
  bt : ∀ b : BT, PySem.W.kitOne K (.ref C) (.type (btS b)) = some false
  vt : ∀ v : VT, PySem.W.kitOne K (.type (vtS v)) (.ref C) = some false
/-- L: the classes with slots -/
structure GF (G : Gam) (L : List Nat) : Prop where
  has : ∀ c ∈ L, ∃ C, G.clsA c = some C ∧ ClF G.K C
  apart : ∀ c ∈ L, ∀ d ∈ L, c ≠ d → ∀ C E, G.clsA c = some C → G.clsA d = some E → PySem.W.kitOne G.K (.ref C) (.ref E) = some false
def isiB (L : List Nat) (b : BT) (d : D) : Option Bool := match d with
  | .obj c _ => if L.contains c then some false else none
  | d => (vtOf d).map (isBT b)
def isiC (L : List Nat) (c : Nat) (d : D) : Option Bool := match d with
  | .obj e _ => if L.contains e && L.contains c then some (e == c) else none
  | d => if L.contains c then (vtOf d).map fun _ => false else none
section
variable {G : Gam} {pn : Option Addr} {W : WX} {X : Cx} {B F F' H H' : Hp} {σ : L2.St} {r : Rho} {L : List Nat}
theorem tyx_tup {K : PySem.W.Frag} {a : Addr} {xs : List V} (h : SqT K H a xs) : TyX K H (.ref a) (.type "tuple") := by
  rcases h with (h | ⟨o, h⟩) | ⟨o, its, n, h, hc, hd⟩
  · exact .base (.tup h)
  · exact .fTuple h
  · exact .kTuple h hc
theorem tyx_lst {K : PySem.W.Frag} {a : Addr} {xs : List V} (h : SqL K H a xs) : TyX K H (.ref a) (.type "list") := by
  rcases h with (h | ⟨o, h⟩) | ⟨o, its, n, h, hc, hd⟩
  · exact .base (.lst h)
  · exact .base (.frz h)
  · exact .kList h hc
theorem vt_ok {v : V} {d : D} {t : VT} (s : Same F H) (h : RepO G F H v d) (e : vtOf d = some t) : TyX G.K H v (.type (vtS t)) := by
  rcases h with h | ⟨a, xs, ds, rfl, rfl, hh, rr⟩
  · cases h with
    | non => cases e; exact .base .non
    | bl b => cases e; exact .base (.bl b)
    | int i => cases e; exact .base (.int i)
    | str x => cases e; exact .base (.str x)
    | fn => cases e
    | tup a xs ds h r => cases e; exact tyx_tup (sqt_mono s h)
    | lst a xs ds h r => cases e; exact tyx_lst (SqL.of (s _ _ h))
    | scr a xs ds h r => cases e; exact tyx_lst (s.seq h)
    | dct a kvs ks vs h rk rv => cases e; exact .base (.dK (s _ _ h))
    | obj => cases e
  · cases e; exact tyx_lst (SqL.of hh)
/-- what isinstance answers -/
def rIs (K : PySem.W.Frag) (u : Value) : List V → Hp → VK → Prop := fun xs H Q => rIsi K xs H Q ∨ SlX.rIsiSl K u xs H Q
theorem isB_sound {v : V} {d : D} {b : BT} {k : Bool} {Q : VK} (hG : GF G L) (s : Same F H) (h : RepO G F H v d) (e : isiB L b d = some k) (q : Q (.bl k) H) : rIs G.K (.type (btS b)) [v, .ty (btS b)] H Q := by
  by_cases ho : ∃ c fs, d = .obj c fs
  · obtain ⟨c, fs, rfl⟩ := ho
    have e : (if L.contains c then some false else none) = some k := e
    split at e
    · rename_i hc
      cases e
      rcases h with h | ⟨a, xs, ds, _, z, _⟩
      · cases h with
        | obj a dx C c vs ds hC hs hr =>
          obtain ⟨C', hC', cf⟩ := hG.has c (by simpa using hc)
          rw [hC] at hC'
          cases hC'
          exact .inr ⟨a, C, dx, vs.map some, _, false, rfl, rfl, fun w hw => hw, slt_mono s hs, cf.sc, cf.si, cf.bt b, q⟩
      · cases z
    · cases e
  · have e : (vtOf d).map (isBT b) = some k := by
      cases d <;> first | exact e | exact absurd ⟨_, _, rfl⟩ ho
    cases q2 : vtOf d with
    | none => rw [q2] at e; cases e
    | some t =>
      rw [q2] at e
      cases e
      exact .inl ⟨v, .ty (btS b), .type (vtS t), .type (btS b), _, rfl, .ty _, vt_ok s h q2, kit_ty (isBT_ok b t), q⟩
theorem isC_sound {v : V} {d : D} {c : Nat} {C : Addr} {k : Bool} {Q : VK} (hG : GF G L) (hC : G.clsA c = some C) (s : Same F H) (h : RepO G F H v d) (e : isiC L c d = some k) (q : Q (.bl k) H) : rIs G.K (.ref C) [v, .ref C] H Q := by
  by_cases ho : ∃ c fs, d = .obj c fs
  · obtain ⟨c', fs, rfl⟩ := ho
    have e : (if L.contains c' && L.contains c then some (c' == c) else none) = some k := e
    split at e
    · rename_i hc
      cases e
      rw [Bool.and_eq_true] at hc
      rcases h with h | ⟨a, xs, ds, _, z, _⟩
      · cases h with
        | obj a dx C' c' vs ds hC' hs hr =>
          obtain ⟨C2, h2, cf⟩ := hG.has c' (by simpa using hc.1)
          rw [hC'] at h2
          cases h2
          refine .inr ⟨a, C', dx, vs.map some, _, (c' == c), rfl, rfl, fun w hw => hw, slt_mono s hs, cf.sc, cf.si, ?_, q⟩
          by_cases hcc : c' = c
          · subst hcc
            rw [hC] at hC'
            cases hC'
            rw [beq_self_eq_true]
            exact cf.me
          · rw [beq_eq_false_iff_ne.mpr hcc]
            exact hG.apart c' (by simpa using hc.1) c (by simpa using hc.2) hcc C' C hC' hC
      · cases z
    · cases e
  · have e : (if L.contains c then (vtOf d).map fun _ => false else none) = some k := by
      cases d <;> first | exact e | exact absurd ⟨_, _, rfl⟩ ho
    split at e
    · rename_i hc
      cases q2 : vtOf d with
      | none => rw [q2] at e; cases e
      | some t =>
        rw [q2] at e
        cases e
        obtain ⟨C2, h2, cf⟩ := hG.has c (by simpa using hc)
        rw [hC] at h2
        cases h2
        exact .inl ⟨v, .ref C, .type (vtS t), .ref C, _, rfl, .own C, vt_ok s h q2, cf.vt t, q⟩
    · cases e
def oIs1 (f : D → Option Bool) : List D → Option Opd := one fun d => (f d).map fun k => .val (.bl k)
theorem PE_isi {e c : Expr} {m : M} {cv : V} {u : Value} {f : D → Option Bool} {p pos : Pos} (hK : X.K = G.K) (hg : Gl X "isinstance") (hm : X.mg "isinstance" = none) (he : PE X e (tM G pn W m)) (hc : PE X c (tC cv))
    (hf : ∀ (F H : Hp) (v : V) (d : D) (k : Bool) (Q : VK), Same F H → RepO G F H v d → f d = some k → Q (.bl k) H → rIs G.K u [v, cv] H Q)
    (hs1 : starEach [e, c] X.env = (false, eval e X.env) :: starEach [c] X.env) (hs2 : starEach [c] X.env = (false, eval c X.env) :: starEach [] X.env) (hpl : (backTo pos (starEach [c] X.env)).any (·.1) = false) :
    PE X (.Call (.Name "isinstance" p) [e, c] [] pos) (tM G pn W (mOp (oIs1 f) [m])) := by
  have hcr : CallR X (.builtin "isinstance") (rIs G.K u) := by
    rw [← hK]
    exact CallR.or call_isi (SlX.call_isiSl u)
  refine PE.imp (pe_callB hcr hg hm (by decide +kernel) (pa_cons he (pa_cons hc pa_nil hs2) hs1) (by decide) (by decide) hs1 hpl) fun σ H Q h => ?_
  have hop : OpS G (R1L fun x H Q => rIs G.K u [x, cv] H Q) (oIs1 f) := Op1.ops fun F H x d o Q s rx e fin => by
    cases q : f d with
    | none => rw [q] at e; cases e
    | some k =>
      rw [q] at e
      cases e
      exact hf F H x d k _ s rx q (fin.val s (.bl k))
  refine tM_mono (op1 hop h) fun x H1 ⟨y, ey, q⟩ => ?_
  cases ey
  exact q
end
end Ev
/-! Ev, part K: slots, properties, making an instance, __init__. -/
namespace Ev
open PySem PySem.Spec PyProof.Rows L2

/-! ### e.f -/
def pSl (T : List (Nat × Nat)) : D → Option Opd
  | .obj c fs => (T.lookup c).bind fun i => (fs[i]?).map Opd.val
  | _ => none
structure SlF (G : Gam) (f : Str) (T : List (Nat × Nat)) : Prop where
  at_ : ∀ c i C, T.lookup c = some i → G.clsA c = some C → SlX.SCls G.K C ∧ ∃ p, SlX.Slot1 G.K C f p i
def rSlot (K : PySem.W.Frag) (f : Str) : V → Hp → VK → Prop := fun x H Q => ∃ a C dx p vs i v, x = .ref a ∧ SlX.Slt H a C dx vs ∧ SlX.SCls K C ∧ SlX.Slot1 K C f p i ∧ vs[i]? = some (some v) ∧ Q v H
section
variable {G : Gam} {pn : Option Addr} {W : WX} {X : Cx} {B F F' H H' : Hp} {σ : L2.St} {r : Rho} {f : Str} {T : List (Nat × Nat)}
theorem RepO.obj {v : V} {c : Nat} {ds : List D} (h : RepO G F H v (.obj c ds)) : ∃ a C dx vs, v = .ref a ∧ G.clsA c = some C ∧ SlX.Slt F a C dx (vs.map some) ∧ Reps G F vs ds := by
  rcases h with h | ⟨a, xs, ds, _, z, _⟩
  · cases h with
    | obj a dx C c vs ds hC hs hr => exact ⟨a, C, dx, vs, rfl, hC, hs, hr⟩
  · cases z
theorem op_slot (hT : SlF G f T) : Op1 G (rSlot G.K f) (pSl T) := by
  intro F H x d o Q s rx e fin
  unfold pSl at e
  split at e
  · rename_i c fs
    obtain ⟨a, C, dx, vs, rfl, hC, hs, hr⟩ := rx.obj
    cases q : T.lookup c with
    | none => rw [q] at e; cases e
    | some i =>
      rw [q] at e
      have e : (fs[i]?).map Opd.val = some o := e
      cases q2 : fs[i]? with
      | none => rw [q2] at e; cases e
      | some d =>
        rw [q2] at e
        cases e
        obtain ⟨v, h1, h2⟩ := hr.get q2
        obtain ⟨sc, p, s1⟩ := hT.at_ c i C q hC
        refine ⟨a, C, dx, p, vs.map some, i, v, rfl, slt_mono s hs, sc, s1, ?_, fin.val s h2⟩
        rw [List.getElem?_map, h1]
        rfl
  · cases e
theorem PE_slot {e : Expr} {m : M} {pos : Pos} (hK : X.K = G.K) (hT : SlF G f T) (he : PE X e (tM G pn W m)) (hb : attributeBase e f X.env (eval e X.env) = eval e X.env) : PE X (.Attribute e f pos) (tM G pn W (mOp (one (pSl T)) [m])) := by
  refine PE.imp (SlX.pe_sl he hb) fun σ H Q h => ?_
  refine tM_mono (op1 (op_slot hT).ops h) fun x H1 ⟨y, ey, q⟩ => ?_
  cases ey
  rw [hK]
  exact q

/-! ### e.f, a property of the class c -/
def callP (c : Nat) (f : Fn) (d : D) (r : Rho) : Res Opd := match d with
  | .obj c' fs => if c' = c then (match f.run [.obj c' fs] with
    | .ok o _ => .ok o r
    | _ => .stuck) else .stuck
  | _ => .stuck
def mProp (c : Nat) (f : Fn) (m : M) : M := fun r => bindR (m r) fun o r1 => match peek r1 o with
  | some d => callP c f d r1
  | none => .stuck
theorem tM_prop {c : Nat} {C : Addr} {fn : Fn} {m : M} {Q : VK} (hC : G.clsA c = some C) (hw : fn.wr = false) (h : tM G pn W (mProp c fn m) σ H Q) : SlX.tPropSl C (spF G fn) (fun _ _ _ => False) (tM G pn W m) σ H Q := by
  refine tM_mono (tM_bindM h) fun x H1 ⟨B, F1, o, r1, s1, a1, p1⟩ => ?_
  cases q : peek r1 o with
  | none => rw [q] at p1; exact p1.elim
  | some d =>
    rw [q] at p1
    replace p1 : PostE G pn W B F1 σ Q (callP c fn d r1) := p1
    unfold callP at p1
    split at p1
    · rename_i c' fs
      split at p1
      · rename_i ec
        subst ec
        have rx := s1.peek a1 q
        obtain ⟨a, C', dx, vs, rfl, hC', hs, hr⟩ := rx.obj
        rw [hC] at hC'
        cases hC'
        have hrep : Rep G F1 (.ref a) (.obj c' fs) := by
          rcases rx with h | ⟨a, xs, ds, _, z, _⟩
          · exact h
          · cases z
        refine ⟨a, dx, vs.map some, rfl, slt_mono s1.fH hs, noT H1, F1, [.obj c' fs], none, noT_same _, s1.fH, ⟨noT_NoT _, s1.kp.nF, s1.kp.iv⟩, by rw [hw]; exact ⟨rfl, .one hrep⟩, ?_⟩
        revert p1
        cases fn.run [.obj c' fs] with
        | stuck => exact id
        | exn x out => exact fun p => p.elim
        | ok o out =>
          intro p1 v F3 H3 e3 n3 b3 f3 k3 _ r3
          refine p1 v F3 H3 e3 (s1.newT n3) (s1.growT e3 b3 f3 n3 k3.nF k3.iv) ?_
          cases o with
          | val d => exact r3
          | slot i => exact r3.elim
          | fresh d =>
            obtain ⟨p', rfl, oa, _⟩ := r3
            refine ⟨p', rfl, oa.move (s1.bT.free oa.nb) oa.nf rfl (Same.refl _), fun j e hj hs => ?_⟩
            obtain ⟨b, hb, ob⟩ := s1.own j e hj
            rw [hb] at hs
            cases hs
            cases ob with
            | lst xs ds _ _ hu _ =>
              have hz := oa.nb
              rw [noT_at hu rfl] at hz
              cases hz
      · exact p1.elim
    · exact p1.elim

/-! ### making -/
def PostI0 (G : Gam) (B F : Hp) (x : Addr) (Q : VK) (E : XK) : FRes → Prop
  | .ok (.val d) _ => ∀ (F' H' : Hp), Same F F' → NewO B F F' → Same B H' → Same F' H' → Kp G B F' H' → Rep G F' (.ref x) d → Q .non H'
  | .ok _ _ => False
  | .exn y _ => ∀ (cls : Value) (d : Option Addr) (F' H' : Hp), Same F F' → NewO B F F' → Same B H' → Same F' H' → Kp G B F' H' → ExnR G F' H' y cls d → E cls d H'
  | .stuck => False
def onlyVal : FRes → FRes
  | .ok (.val d) out => .ok (.val d) out
  | .ok _ _ => .stuck
  | x => x
def spI (G : Gam) (c : Nat) (f : List D → FRes) : Sp := fun vs H Q E => ∃ H0 C x dx ws B F ds, vs = .ref x :: ws ∧ H0 x = none ∧ H0 dx = none ∧ dx ≠ x ∧ G.clsA c = some C ∧ H = upd (upd H0 dx (.own x)) x (.ins C dx []) ∧
  Same B H0 ∧ Same F H0 ∧ Kp G B F H0 ∧ Reps G F ws ds ∧ PostI0 G B F x Q E (f ds)
def tMakeS (C : Addr) (sp : Sp) (E : L2.St → XK) (t : TA) : TE := fun σ H Q => t σ H fun vs H1 => ∀ x dx, H1 x = none → H1 dx = none → dx ≠ x →
  sp (V.ref x :: vs) (upd (upd H1 dx (.own x)) x (.ins C dx [])) (fun v H2 => v = .non ∧ Q (.ref x) H2) (E σ)
theorem run_makeS {CX : CXT} {k : Nat} {C g : Addr} {sp : Sp} {E : L2.St → XK} {pins : List (Addr × Obj)} {s : Shared} {Q : VK} {us : List Value} {vs : List V} (M : Mk X.K C g) (F : FnR X.prog X.w X.K X.mg X.base CX k g sp) (hr : Room (k + 1) X.A) (hx : PassesAt CX X σ (E σ)) (I : Inv X pins σ H s) (r : Vals vs us)
    (h : ∀ x dx, H x = none → H dx = none → dx ≠ x → sp (V.ref x :: vs) (upd (upd H dx (.own x)) x (.ins C dx [])) (fun v H2 => v = .non ∧ Q (.ref x) H2) (E σ)) :
    wpAny (model X.prog X.w) X.A (call (.ref C) us) (EP X pins σ Q) X.xe s := by
  have hq := h (s.heap.objs.size + 1) s.heap.objs.size (I.hok.fresh (Nat.le_succ _)) (I.hok.fresh (Nat.le_refl _)) (Nat.ne_of_lt (Nat.lt_succ_self _))
  have I2 := Inv.made (C := C) I
  have r2 : Vals (V.ref (s.heap.objs.size + 1) :: vs) (Value.ref (s.heap.objs.size + 1) :: us) := .cons rfl r
  refine wpAny_call (make_map (f := g) I.kIn M.makes M.init (beq_iff_eq.mp M.fn) (codeAny_mono (F _ X.stack _ _ (Value.ref (s.heap.objs.size + 1) :: us) _ _ (E σ) (hr.make C us []) (I2.env0.make C us []) r2 hq) fun res s' hq' => ?_))
  cases res with
  | error e => exact hx pins _ _ e s' I2 hq'
  | ok fl =>
    cases fl with
    | ret u =>
      obtain ⟨v, H', I3, rv, ev, q3⟩ := I2.after hq'
      subst ev
      exact ⟨rv, ⟨V.ref (s.heap.objs.size + 1), H', I3, rfl, q3⟩⟩
    | next => exact False.elim hq'
    | brk => exact False.elim hq'
    | cont => exact False.elim hq'
theorem pe_makeS {CX : CXT} {k : Nat} {C g : Addr} {sp : Sp} {E : L2.St → XK} {x : Str} {p pos : Pos} {e : Expr} {es : List Expr} {t : TA} (M : Mk X.K C g) (F : FnR X.prog X.w X.K X.mg X.base CX k g sp) (hr : Room (k + 1) X.A) (hg : Gl X x) (hm : X.mg x = some (.ref C)) (hx : ∀ σ, PassesAt CX X σ (E σ)) (ha : PA X (e :: es) t) (hdb : (x == ("__debug__" : Str)) = false)
    (he : starEach (e :: es) X.env = (false, eval e X.env) :: starEach es X.env) (hpl : (backTo pos (starEach es X.env)).any (·.1) = false) : PE X (.Call (.Name x p) (e :: es) [] pos) (tMakeS C sp E t) := by
  refine ⟨fun pins s σ H Q I h => ?_⟩
  refine wpAny_Call_Name_kw (ld_glob I hg hm ?_ hdb)
  refine PySem.W.callWith_K (h₀ := X.base) I.ok.mod.kin M.kp (thn (ha.run pos pins s σ H _ I h) fun us s1 ⟨vs, H1, I1, r, q⟩ => ⟨I1.kIn, ?_⟩) he hpl
  exact run_makeS M F hr (hx σ) I1 r q
theorem tM_make {c : Nat} {C : Addr} {fn : Fn} {ma : MA} {Q : VK} (hC : G.clsA c = some C) (hw : fn.wr = false) (hv : ∀ ds, onlyVal (fn.run ds) = fn.run ds) (hp : PlainA ma) (h : tM G pn W (mCall fn ma) σ H Q) : tMakeS C (spI G c fn.run) (WE W) (tMA G pn W ma) σ H Q := by
  have h2 := tM_call hp h
  obtain ⟨B0, F0, r0, s0, p0⟩ := h2
  refine ⟨B0, F0, r0, s0, ?_⟩
  revert p0
  cases ma r0 with
  | stuck => exact id
  | exn x r => exact id
  | ok os r =>
    intro p0 vs F' H1 e n st oo x dx hx hdx hne
    obtain ⟨B, F, ds, ma', hB, hF, kp, ar, po⟩ := p0 vs F' H1 e n st oo
    rw [hw] at ar
    obtain ⟨rfl, ar⟩ := ar
    refine ⟨H1, C, x, dx, vs, B, F, ds, rfl, hx, hdx, hne, hC, rfl, hB, hF, kp, ar, ?_⟩
    have hvd := hv ds
    revert po hvd
    cases fn.run ds with
    | stuck => exact fun p _ => p
    | exn y out => exact fun p _ cls d F3 H3 e3 n3 b3 f3 k3 x3 => p cls d F3 H3 e3 n3 b3 f3 k3 True.intro x3
    | ok o out =>
      intro p hvd
      cases o with
      | val d => exact fun F3 H3 e3 n3 b3 f3 k3 r3 => ⟨rfl, p (.ref x) F3 H3 e3 n3 b3 f3 k3 True.intro r3⟩
      | slot i => cases hvd
      | fresh d => cases hvd
end

/-! ### e.f as a target -/
def gSlot (K : PySem.W.Frag) (ta : TE) (f : Str) : TG := fun v σ H Q => ta σ H fun x H2 => ∃ a C dx p vs i, x = .ref a ∧ SlX.Slt H2 a C dx vs ∧ SlX.SCls K C ∧ SlX.Slot1 K C f p i ∧ Q σ (SlX.slH H2 a C dx (SlX.putS i v vs))
theorem pg_slot {X : Cx} {o : Expr} {f : Str} {pos : Pos} {ta : TE} (ha : PE X o ta) : PG X (.Attribute o f pos) (gSlot X.K ta f) := by
  refine ⟨fun pins s σ H v u Q I r h => ?_⟩
  rw [PySem.assign_Attribute]
  refine wpAny_bind (wpAny_holding (thn (ha.run pins s σ H _ I h) fun ov s1 ⟨x, H2, I2, rx, a, C, dx, p, vs, i, ex, hs, c, t, q⟩ => ?_))
  subst ex
  obtain rfl : ov = Value.ref a := rx
  refine wpAny_bind (wpAny_standAt (wpAny_bind (wpAny_holding ?_)))
  exact SlX.setslot_ok I2 hs c t r fun s3 I3 => wpAny_release ⟨σ, _, I3, q⟩
/-! ### __init__: expressions, then self.f, self.g, .. = e, e2, .. -/
def mPre : List M → MA → MA
  | [], ma => ma
  | m :: ms, ma => fun r => bindR (m r) fun _ r1 => mPre ms ma r1
theorem PostA.mono {G : Gam} {pn : Option Addr} {W : WX} {B F F' : Hp} {σ : L2.St} {Q : List V → Hp → Prop} {o : Res (List Opd)} (e : Same F F') (n : NewO B F F') (p : PostA G pn W B F σ Q o) : PostA G pn W B F' σ Q o := by
  cases o with
  | stuck => exact p
  | exn x r => exact fun cls d F2 H2 e2 n2 => p cls d F2 H2 (e.trans e2) (n.trans n2)
  | ok o r => exact fun v F2 H2 e2 n2 => p v F2 H2 (e.trans e2) (n.trans n2)
theorem tMA_pre {G : Gam} {pn : Option Addr} {W : WX} {m : M} {ms : List M} {ma : MA} {σ : L2.St} {H : Hp} {Q : List V → Hp → Prop} (h : tMA G pn W (mPre (m :: ms) ma) σ H Q) : tM G pn W m σ H fun _ H1 => tMA G pn W (mPre ms ma) σ H1 Q := by
  obtain ⟨B, F, r, s, p⟩ := h
  refine ⟨B, F, r, s, ?_⟩
  unfold mPre at p
  revert p
  cases m r with
  | stuck => exact id
  | exn x r => exact id
  | ok o r1 => exact fun p v F' H' e n st oo => ⟨B, F', r1, st, PostA.mono e n p⟩
theorem PlainA.pre {ma : MA} (h : PlainA ma) : ∀ ms : List M, PlainA (mPre ms ma)
  | [] => h
  | m :: ms => fun r os r' e => by
    unfold mPre at e
    revert e
    cases m r with
    | stuck => intro e; cases e
    | exn x r => intro e; cases e
    | ok o r1 => exact fun e => PlainA.pre h ms r1 os r' e
/-- what the slots hold behind the stores -/
def putG {α : Type} (i : Nat) (v : α) (vs : List (Option α)) : List (Option α) := (vs ++ List.replicate (i + 1 - vs.length) none).set i (some v)
def putAll {α : Type} : List Nat → List α → List (Option α) → Option (List (Option α))
  | [], [], os => some os
  | i :: is, v :: vs, os => putAll is vs (putG i v os)
  | _, _, _ => none
def allSome {α : Type} : List (Option α) → Option (List α)
  | [] => some []
  | some a :: os => (allSome os).map (a :: ·)
  | none :: _ => none
def arr {α : Type} (is : List Nat) (vs : List α) : Option (List α) := (putAll is vs []).bind allSome
def iniRun (n : Nat) (c : Nat) (is : List Nat) (ma : MA) (ds : List D) : FRes := match ma (.no :: (ds.map Sl.val ++ List.replicate (n - (ds.length + 1)) .no)) with
  | .ok os r => (match frzs r os with
    | some (es, _) => (match arr is es with
      | some fs => .ok (.val (.obj c fs)) .non
      | none => .stuck)
    | none => .stuck)
  | .exn x _ => .exn x .non
  | .stuck => .stuck
theorem allSome_eq {α : Type} : ∀ {os : List (Option α)} {as : List α}, allSome os = some as → os = as.map some
  | [], as, h => by cases h; rfl
  | none :: os, as, h => by cases h
  | some a :: os, as, h => by
    unfold allSome at h
    cases q : allSome os with
    | none => rw [q] at h; cases h
    | some bs =>
      rw [q] at h
      cases h
      rw [allSome_eq q]
      rfl
inductive RepOs2 (G : Gam) (F : Hp) : List (Option V) → List (Option D) → Prop
  | nil : RepOs2 G F [] []
  | some (v : V) (d : D) (vs : List (Option V)) (ds : List (Option D)) (h : Rep G F v d) (t : RepOs2 G F vs ds) : RepOs2 G F (some v :: vs) (some d :: ds)
  | none (vs : List (Option V)) (ds : List (Option D)) (t : RepOs2 G F vs ds) : RepOs2 G F (none :: vs) (none :: ds)
section
variable {G : Gam} {pn : Option Addr} {F : Hp}
theorem RepOs2.length : ∀ {vs : List (Option V)} {ds : List (Option D)}, RepOs2 G F vs ds → vs.length = ds.length
  | _, _, .nil => rfl
  | _, _, .some _ _ _ _ _ t => congrArg Nat.succ t.length
  | _, _, .none _ _ t => congrArg Nat.succ t.length
theorem RepOs2.nones : ∀ n : Nat, RepOs2 G F (List.replicate n Option.none) (List.replicate n Option.none)
  | 0 => .nil
  | n + 1 => .none _ _ (RepOs2.nones n)
theorem RepOs2.append : ∀ {vs ws : List (Option V)} {ds es : List (Option D)}, RepOs2 G F vs ds → RepOs2 G F ws es → RepOs2 G F (vs ++ ws) (ds ++ es)
  | _, _, _, _, .nil, q => q
  | _, _, _, _, .some v d _ _ h t, q => .some v d _ _ h (t.append q)
  | _, _, _, _, .none _ _ t, q => .none _ _ (t.append q)
theorem RepOs2.set {v : V} {d : D} (h : Rep G F v d) : ∀ {vs : List (Option V)} {ds : List (Option D)} (i : Nat), RepOs2 G F vs ds → RepOs2 G F (vs.set i (Option.some v)) (ds.set i (Option.some d))
  | _, _, _, .nil => .nil
  | _, _, 0, .some _ _ _ _ _ t => .some _ _ _ _ h t
  | _, _, 0, .none _ _ t => .some _ _ _ _ h t
  | _, _, i + 1, .some v d _ _ q t => .some v d _ _ q (RepOs2.set h i t)
  | _, _, i + 1, .none _ _ t => .none _ _ (RepOs2.set h i t)
theorem RepOs2.put {v : V} {d : D} (h : Rep G F v d) {vs : List (Option V)} {ds : List (Option D)} (i : Nat) (r : RepOs2 G F vs ds) : RepOs2 G F (putG i v vs) (putG i d ds) := by
  unfold putG
  rw [r.length]
  exact RepOs2.set h i (r.append (RepOs2.nones _))
theorem RepOs2.all : ∀ {vs : List (Option V)} {ds : List D}, RepOs2 G F vs (ds.map Option.some) → ∃ ws : List V, vs = ws.map Option.some ∧ Reps G F ws ds
  | _, [], h => by cases h; exact ⟨[], rfl, .nil⟩
  | _, d :: ds, h => by
    cases h with
    | some v d vs ds' h t =>
      obtain ⟨ws, e, r⟩ := RepOs2.all t
      exact ⟨v :: ws, by rw [e]; rfl, .cons _ _ _ _ h r⟩
end
/-- the stores, one behind another -/
def gSlots (K : PySem.W.Frag) : List Str → TGs
  | [] => gNil
  | f :: fs => gCons (gSlot K (tVar 0) f) (gSlots K fs)
structure IniF (K : PySem.W.Frag) (C : Addr) (fs : List Str) (is : List Nat) : Prop where
  sc : SlX.SCls K C
  len : fs.length = is.length
  sl : ∀ (k : Nat) (f : Str) (i : Nat), fs[k]? = some f → is[k]? = some i → ∃ p, SlX.Slot1 K C f p i
theorem gSlots_ok {K : PySem.W.Frag} {C x dx : Addr} {σ : L2.St} {Q : L2.St → Hp → Prop} (hdx : dx ≠ x) (h0 : σ[0]? = some (some (.ref x))) (sc : SlX.SCls K C) : ∀ (fs : List Str) (is : List Nat) (xs : List V) (H : Hp) (os os' : List (Option V)), fs.length = is.length → (∀ (k : Nat) (f : Str) (i : Nat), fs[k]? = some f → is[k]? = some i → ∃ p, SlX.Slot1 K C f p i) →
    SlX.Slt H x C dx os → fs ≠ [] → putAll is xs os = some os' → Q σ (SlX.slH H x C dx os') → gSlots K fs xs σ H Q := by
  intro fs
  induction fs with
  | nil => intro is xs H os os' _ _ _ hne; exact absurd rfl hne
  | cons f fs ih =>
    intro is xs H os os' hl hsl hs _ hp q
    cases is with
    | nil => cases hl
    | cons i is =>
      cases xs with
      | nil => cases hp
      | cons v xs =>
        have hp : putAll is xs (putG i v os) = some os' := hp
        obtain ⟨p, t⟩ := hsl 0 f i rfl rfl
        refine ⟨v, xs, rfl, .ref x, h0, x, C, dx, p, os, i, rfl, hs, sc, t, ?_⟩
        cases fs with
        | nil =>
          cases is with
          | cons => cases hl
          | nil =>
            cases xs with
            | cons => cases hp
            | nil =>
              cases hp
              exact ⟨rfl, q⟩
        | cons f2 fs =>
          refine ih is xs _ (putG i v os) os' (by simpa using hl) (fun k f i h1 h2 => hsl (k + 1) f i (by simpa using h1) (by simpa using h2)) (SlX.slH_slt hdx) (by simp) hp ?_
          have e : SlX.slH (SlX.slH H x C dx (SlX.putS i v os)) x C dx os' = SlX.slH H x C dx os' := SlX.slH_twice hdx
          show Q σ (SlX.slH (SlX.slH H x C dx (SlX.putS i v os)) x C dx os')
          rw [e]
          exact q
theorem putAll_reps {G : Gam} {F : Hp} : ∀ (is : List Nat) (vs : List V) (ds : List D) (os : List (Option V)) (ps ps' : List (Option D)), Reps G F vs ds → RepOs2 G F os ps → putAll is ds ps = some ps' → ∃ os', putAll is vs os = some os' ∧ RepOs2 G F os' ps'
  | [], vs, [], os, ps, ps', h, r, e => by cases h; cases e; exact ⟨os, rfl, r⟩
  | [], vs, d :: ds, os, ps, ps', h, r, e => by cases e
  | i :: is, vs, [], os, ps, ps', h, r, e => by cases e
  | i :: is, vs, d :: ds, os, ps, ps', h, r, e => by
    obtain ⟨v, ws, rfl, h1, h2⟩ := h.inv_cons
    obtain ⟨os', q1, q2⟩ := putAll_reps is ws ds (putG i v os) (putG i d ps) ps' h2 (r.put h1 i) e
    exact ⟨os', q1, q2⟩
end Ev
/-! Ev, part L: a def's promise from its body's semantics. -/
namespace Ev
open PySem PySem.Spec PyProof.Rows L2

/-- the contexts for which a text's semantics is told -/
structure Good (G : Gam) (W : WX) (k : Nat) (top : Bool) (N : List Str) (sc : Scope) (X : Cx) : Prop where
  prog : X.prog = G.P
  w : X.w = G.w
  K : X.K = G.K
  mg : X.mg = G.mg
  base : X.base = G.base
  names : X.N = N
  nd : N.Nodup
  sc : X.env.scope = sc
  calm : X.calm = true
  room : Room k X.A
  own : top = true → PassesOwn (model X.prog X.w) X.A X.env X.xe
  pa : ∀ σ, PassesAt (L2.CX G.P G.w) X σ (WE W σ)
  tk : Takes X W
  fn : top = true → ∀ x, X.fn x = true
  stk : top = true → X.stack = X.env :: X.outer
  frm : top = true → X.env.frame = some X.env.locals

def padR (n : Nat) (r : Rho) : Rho := r ++ List.replicate (n - r.length) .no
def startR (wr : Bool) (n : Nat) (ds : List D) : Rho := match wr, ds with
  | true, d :: ds => padR n (.own d :: ds.map .val)
  | _, ds => padR n (ds.map .val)
def outS (wr : Bool) (r : Rho) : Option D := if wr = true then (match r[(0 : Nat)]? with
  | some (.own d) => some d
  | _ => none) else some .non
def endO (wr : Bool) (r : Rho) : Opd → Option Opd
  | .slot i => match r[i]? with
    | some (.val d) => some (.val d)
    | some (.own d) => if wr = true ∧ i = 0 then none else some (.fresh d)
    | _ => none
  | o => some o
def endB (wr : Bool) : Out → FRes
  | .next r => (match outS wr r with
    | some out => .ok (.val .non) out
    | none => .stuck)
  | .ret o r => (match outS wr r, endO wr r o with
    | some out, some o => .ok o out
    | _, _ => .stuck)
  | .exn x r => (match outS wr r with
    | some out => .exn x out
    | none => .stuck)
  | _ => .stuck
/-- a def's body as a function: np parameters, n names -/
def runB (wr : Bool) (np n : Nat) (b : MS) (ds : List D) : FRes := if ds.length = np ∧ np ≤ n then endB wr (b (startR wr n ds)) else .stuck

section
variable {G : Gam} {W : WX} {B F F' H H' : Hp} {σ : L2.St} {r : Rho}
theorem start_length {N : List Str} {vs : List V} (h : vs.length ≤ N.length) : (L2.start N vs).length = N.length := by
  unfold L2.start
  rw [List.length_append, List.length_map, List.length_replicate]
  omega
theorem start_get {N : List Str} {vs : List V} {i : Nat} {v : V} (h : vs[i]? = some v) : (L2.start N vs)[i]? = some (some v) := by
  unfold L2.start
  have hi : i < vs.length := (List.getElem?_eq_some_iff.mp h).1
  rw [List.getElem?_append_left (by rw [List.length_map]; exact hi), List.getElem?_map, h]
  rfl
theorem padR_length {n : Nat} {r : Rho} (h : r.length ≤ n) : (padR n r).length = n := by
  unfold padR
  rw [List.length_append, List.length_replicate]
  omega
theorem padR_get {n : Nat} {r : Rho} {i : Nat} {x : Sl} (h : (padR n r)[i]? = some x) (hx : x ≠ .no) : r[i]? = some x := by
  unfold padR at h
  by_cases hi : i < r.length
  · rw [List.getElem?_append_left hi] at h; exact h
  · rw [List.getElem?_append_right (by omega), List.getElem?_replicate] at h
    split at h
    · cases h; exact absurd rfl hx
    · cases h
theorem startR_val {n : Nat} {ds : List D} (wr : Bool) (hw : wr = false) : startR wr n ds = padR n (ds.map .val) := by
  subst hw
  cases ds <;> rfl
theorem sta_start {N : List Str} {wr : Bool} {vs : List V} {ds : List D} {ma : Option Addr} (bH : Same B H) (fH : Same F H) (kp : Kp G B F H) (ha : ArgR G B F H vs ds wr ma) (hl : ds.length ≤ N.length) : Sta G ma B F H (L2.start N vs) (startR wr N.length ds) := by
  cases wr with
  | false =>
    obtain ⟨rfl, rr⟩ := ha
    rw [startR_val _ rfl]
    have hvl : vs.length ≤ N.length := by rw [rr.length]; exact hl
    refine ⟨bH, fH, kp, by rw [padR_length (by rw [List.length_map]; exact hl), start_length hvl], fun i d h => ?_, fun i d h => ?_, fun i j d e a hij h1 => ?_, fun a e => by cases e⟩
    · have h := padR_get h (by intro z; cases z)
      rw [List.getElem?_map] at h
      cases q : ds[i]? with
      | none => rw [q] at h; cases h
      | some d' =>
        rw [q] at h
        cases h
        obtain ⟨v, h1, h2⟩ := rr.get q
        exact ⟨v, start_get h1, h2⟩
    · have h := padR_get h (by intro z; cases z)
      rw [List.getElem?_map] at h
      cases q : ds[i]? with
      | none => rw [q] at h; cases h
      | some d' => rw [q] at h; cases h
    · have h := padR_get h1 (by intro z; cases z)
      rw [List.getElem?_map] at h
      cases q : ds[i]? with
      | none => rw [q] at h; cases h
      | some d' => rw [q] at h; cases h
  | true =>
    obtain ⟨a, ws, d0, es, rfl, rfl, rfl, oa, rr⟩ := ha
    have hvl : (V.ref a :: ws).length ≤ N.length := by
      show ws.length + 1 ≤ _
      rw [rr.length]; exact hl
    have key : ∀ {i : Nat} {x : Sl}, (startR true N.length (d0 :: es))[i]? = some x → x ≠ .no → (i = 0 ∧ x = .own d0) ∨ ∃ j d, i = j + 1 ∧ x = .val d ∧ es[j]? = some d := fun {i x} h hx => by
      have h := padR_get h hx
      cases i with
      | zero => cases h; exact .inl ⟨rfl, rfl⟩
      | succ j =>
        rw [List.getElem?_cons_succ, List.getElem?_map] at h
        cases q : es[j]? with
        | none => rw [q] at h; cases h
        | some d' => rw [q] at h; cases h; exact .inr ⟨j, d', rfl, rfl, q⟩
    refine ⟨bH, fH, kp, ?_, fun i d h => ?_, fun i d h => ?_, fun i j d e c hij h1 h2 h3 h4 => ?_, fun c e => ?_⟩
    · show (padR N.length (.own d0 :: es.map .val)).length = _
      rw [padR_length (by show (es.map Sl.val).length + 1 ≤ _; rw [List.length_map]; exact hl), start_length hvl]
    · rcases key h (by intro z; cases z) with ⟨_, z⟩ | ⟨j, d', rfl, z, q⟩
      · cases z
      · cases z
        obtain ⟨v, h1, h2⟩ := rr.get q
        exact ⟨v, start_get (by rw [List.getElem?_cons_succ]; exact h1), h2⟩
    · rcases key h (by intro z; cases z) with ⟨rfl, z⟩ | ⟨j, d', rfl, z, q⟩
      · cases z
        exact ⟨a, start_get rfl, oa⟩
      · cases z
    · rcases key h1 (by intro z; cases z) with ⟨rfl, z⟩ | ⟨_, _, _, z, _⟩
      · rcases key h2 (by intro z; cases z) with ⟨rfl, z⟩ | ⟨_, _, _, z, _⟩
        · exact hij rfl
        · cases z
      · cases z
    · cases e
      exact start_get rfl
theorem outS_ok {wr : Bool} {ma : Option Addr} {out : D} {vs : List V} {ds : List D} {B0 F0 H0 : Hp} (ha : ArgR G B0 F0 H0 vs ds wr ma) (s : Sta G ma B F H σ r) (e : outS wr r = some out) : OutR G B F H out ma := by
  cases wr with
  | false =>
    obtain ⟨rfl, _⟩ := ha
    exact True.intro
  | true =>
    obtain ⟨a, ws, d0, es, rfl, _⟩ := ha
    have e : (match r[(0 : Nat)]? with
      | some (.own d) => some d
      | _ => none) = some out := e
    split at e
    · rename_i d' q
      obtain ⟨a', h1, h2⟩ := s.own 0 d' q
      cases e
      rw [s.pin a rfl] at h1
      cases h1
      exact h2
    · cases e
theorem endO_ok {wr : Bool} {ma : Option Addr} {o o' : Opd} {out : D} {v : V} {vs : List V} {ds : List D} {B0 F0 H0 : Hp} (ha : ArgR G B0 F0 H0 vs ds wr ma) (s : Sta G ma B F H σ r) (e0 : outS wr r = some out) (h : OpdR G B F H σ r v o) (e : endO wr r o = some o') : ResF G B F H ma v o' := by
  have hp : ∀ (p : Addr) (d : D) (i : Nat), r[i]? = some (.own d) → σ[i]? = some (some (.ref p)) → ¬ (wr = true ∧ i = 0) → ma ≠ some p := by
    intro p d1 i hr hs hn z
    cases wr with
    | false =>
      obtain ⟨q, _⟩ := ha
      rw [q] at z
      cases z
    | true =>
      subst z
      have e0 : (match r[(0 : Nat)]? with
        | some (.own d) => some d
        | _ => none) = some out := e0
      split at e0
      · rename_i d' q
        exact s.dis i 0 d1 d' p (fun z => hn ⟨rfl, z⟩) hr q hs (s.pin p rfl)
      · cases e0
  cases o with
  | val d => cases e; exact h
  | fresh d =>
    cases e
    obtain ⟨a, rfl, oa, ne⟩ := h
    refine ⟨a, rfl, oa, fun z => ?_⟩
    subst z
    cases wr with
    | false =>
      obtain ⟨q, _⟩ := ha
      cases q
    | true =>
      have e0 : (match r[(0 : Nat)]? with
        | some (.own d) => some d
        | _ => none) = some out := e0
      split at e0
      · rename_i d' q
        exact ne 0 d' q (s.pin a rfl)
      · cases e0
  | slot i =>
    have e : (match r[i]? with
      | some (.val d) => some (.val d)
      | some (.own d) => if wr = true ∧ i = 0 then none else some (.fresh d)
      | _ => none) = some o' := e
    split at e
    · rename_i d q
      cases e
      obtain ⟨w, h1, h2⟩ := s.val i d q
      have h : σ[i]? = some (some v) := h
      rw [h1] at h
      cases h
      exact h2
    · rename_i d q
      split at e
      · cases e
      · rename_i hn
        cases e
        obtain ⟨a, h1, h2⟩ := s.own i d q
        have h : σ[i]? = some (some v) := h
        rw [h1] at h
        cases h
        exact ⟨a, rfl, h2, hp a d i q h1 hn⟩
    · cases e
/-- the body's reading at the entry -/
theorem tS_start {N : List Str} {wr : Bool} {np : Nat} {b : MS} {vs : List V} {Q : VK} {E : XK} (h : spF G ⟨wr, runB wr np N.length b⟩ vs H Q E) :
    vs.length = np ∧ ∃ pn, (wr = false → pn = none) ∧ tS G pn (fun cls d _ H => E cls d H) b { nx := fun _ H' => Q .non H', rt := Q } (L2.start N vs) H := by
  obtain ⟨B, F, ds, ma, bH, fH, kp, ha, po⟩ := h
  replace po : PostF G B F ma Q E (if ds.length = np ∧ np ≤ N.length then endB wr (b (startR wr N.length ds)) else .stuck) := po
  split at po
  · rename_i hl
    have hvl : vs.length = ds.length := by
      cases wr with
      | false => exact ha.2.length
      | true =>
        obtain ⟨a, ws, d0, es, rfl, rfl, rfl, oa, rr⟩ := ha
        show ws.length + 1 = es.length + 1
        rw [rr.length]
    refine ⟨hvl.trans hl.1, ma, fun hw => by subst hw; exact ha.1, B, F, _, sta_start bH fH kp ha (by omega), ?_⟩
    revert po
    cases b (startR wr N.length ds) with
    | stuck => exact id
    | brk r => exact fun p => p.elim
    | cont r => exact fun p => p.elim
    | next r =>
      intro po σ' F' H' e n st
      replace po : PostF G B F ma Q E (match outS wr r with
        | some out => .ok (.val .non) out
        | none => .stuck) := po
      cases q : outS wr r with
      | none => rw [q] at po; exact po.elim
      | some out =>
        rw [q] at po
        exact po .non F' H' e n st.bH st.fH st.kp (outS_ok ha st q) Rep.non
    | ret o r =>
      intro po v σ' F' H' e n st oo
      replace po : PostF G B F ma Q E (match outS wr r, endO wr r o with
        | some out, some o => .ok o out
        | _, _ => .stuck) := po
      cases q : outS wr r with
      | none => rw [q] at po; exact po.elim
      | some out =>
        cases q2 : endO wr r o with
        | none => rw [q, q2] at po; exact po.elim
        | some o' =>
          rw [q, q2] at po
          exact po v F' H' e n st.bH st.fH st.kp (outS_ok ha st q) (endO_ok ha st q oo q2)
    | exn x r =>
      intro po cls d σ' F' H' e n st xx
      replace po : PostF G B F ma Q E (match outS wr r with
        | some out => .exn x out
        | none => .stuck) := po
      cases q : outS wr r with
      | none => rw [q] at po; exact po.elim
      | some out =>
        rw [q] at po
        exact po cls d F' H' e n st.bH st.fH st.kp (outS_ok ha st q) xx
  · exact po.elim
end
section
variable {G : Gam} {k : Nat} {x qual : Str} {params : Arguments} {body : List Stmt} {scope : Scope} {f : Addr} {fd : FuncData} {N ps : List Str} {b : MS} {wr : Bool}
theorem good_cx {cdv : Value} {A : Around} {outer : List Env} {s : Shared} {H : Hp} {E : XK} (S : FnScope N ps scope) (hr : Room k (A.deeper (envOfC qual scope s.heap.objs.size f cdv))) :
    Good G (fun cls d _ H => E cls d H) k true N scope (cxOf (L2.CX G.P G.w) G.P G.w G.K G.mg G.base N qual scope f cdv A outer s H E) where
  prog := rfl
  w := rfl
  K := rfl
  mg := rfl
  base := rfl
  names := rfl
  nd := S.nd
  sc := rfl
  calm := rfl
  room := hr
  own := fun _ => passes_of (K := fun e s'' => L2.CX G.P G.w outer H s E e s'') rfl
  pa := passAt (takes_of rfl rfl rfl rfl)
  tk := takes_of rfl rfl rfl rfl
  fn := fun _ _ => rfl
  stk := fun _ => rfl
  frm := fun _ => rfl
/-- a def keeps the promise of its body's semantics -/
theorem mkFn (F : FunD G.K x qual params body scope [] [] f fd) (S : FnScope N ps scope) (hb : Binds G.K fd ps []) (hbody : ∀ (X : Cx) (pn : Option Addr) (W : WX), (wr = false → pn = none) → Good G W k true N scope X → PSs X body (tS G pn W b)) :
    FnR G.P G.w G.K G.mg G.base (L2.CX G.P G.w) (k + 1) f (spF G ⟨wr, runB wr ps.length N.length b⟩) := by
  have F1 : FnOk G.P G.w G.K G.mg G.base (L2.CX G.P G.w) (k + 1) f fd ps (spF G ⟨wr, runB wr ps.length N.length b⟩) :=
    F.ok S (fun vs H Q E h => (tS_start (N := N) h).1) fun cdv A outer s H vs Q E hr h => by
      obtain ⟨_, pn, hp, t⟩ := tS_start (N := N) h
      exact ⟨_, hbody _ pn _ hp (good_cx S hr), t⟩
  have := FnOk.raw F1 hb .nil
  intro A outer s H us vs Q E r e0 rv hs
  exact this A outer s H us vs Q E r e0 rv (by show spF G _ (vs ++ []) H Q E; rw [List.append_nil]; exact hs)
/-- the law's own def, as the walk asks it -/
theorem mkOk (F : FunD G.K x qual params body scope [] [] f fd) (S : FnScope N ps scope) (hbody : ∀ (X : Cx) (pn : Option Addr) (W : WX), (wr = false → pn = none) → Good G W k true N scope X → PSs X body (tS G pn W b)) :
    FnOk G.P G.w G.K G.mg G.base (L2.CX G.P G.w) (k + 1) f fd ps (spF G ⟨wr, runB wr ps.length N.length b⟩) :=
    F.ok S (fun vs H Q E h => (tS_start (N := N) h).1) fun cdv A outer s H vs Q E hr h => by
      obtain ⟨_, pn, hp, t⟩ := tS_start (N := N) h
      exact ⟨_, hbody _ pn _ hp (good_cx S hr), t⟩
end
/-! ### __init__ -/
section
variable {G : Gam} {k : Nat} {x qual : Str} {params : Arguments} {body : List Stmt} {scope : Scope} {f : Addr} {fd : FuncData} {N ps : List Str}
/-- what __init__ says at its end: n targets -/
def tIni (K : PySem.W.Frag) (fs : List Str) (t : TA) : TS := fun D σ H => t σ H fun xs H1 => xs.length ≤ sizeLine ∧ ∀ p, H1 p = none → gTup K fs.length (gSlots K fs) (.ref p) σ (upd H1 p (.tup xs)) D.nx
def iniFn (n np c : Nat) (is : List Nat) (ma : MA) (ds : List D) : FRes := if ds.length + 1 = np ∧ np ≤ n then iniRun n c is ma ds else .stuck
theorem ini_start {H : Hp} {c np : Nat} {is : List Nat} {fs : List Str} {ma : MA} {vs : List V} {Q : VK} {E : XK} (hp : PlainA ma) (hI : ∀ C, G.clsA c = some C → IniF G.K C fs is) (hne : fs ≠ []) (hfs : fs.length ≤ sizeLine) (h : spI G c (iniFn N.length np c is ma) vs H Q E) :
    vs.length = np ∧ tIni G.K fs (tMA G none (fun cls d _ H => E cls d H) ma) { nx := fun _ H' => Q .non H', rt := Q } (L2.start N vs) H := by
  obtain ⟨H0, C, x, dx, ws, B, F, ds, rfl, hx, hdx, hxd, hC, rfl, bH, fH, kp, rr, po⟩ := h
  replace po : PostI0 G B F x Q E (if ds.length + 1 = np ∧ np ≤ N.length then iniRun N.length c is ma ds else .stuck) := po
  split at po
  · rename_i hl
    have hvl : (V.ref x :: ws).length = np := by
      show ws.length + 1 = np
      rw [rr.length]; exact hl.1
    refine ⟨hvl, ?_⟩
    have hxd' : x ≠ dx := fun z => hxd z.symm
    have hBx : B x = none := bH.free hx
    have hBd : B dx = none := bH.free hdx
    have hFx : F x = none := fH.free hx
    have hFd : F dx = none := fH.free hdx
    have e0 : Same H0 (upd (upd H0 dx (.own x)) x (.ins C dx [])) := (same_upd hdx).trans (same_upd (by rw [upd_ne hxd']; exact hx))
    have st : Sta G none (upd (upd B dx (.own x)) x (.ins C dx [])) F (upd (upd H0 dx (.own x)) x (.ins C dx [])) (L2.start N (V.ref x :: ws)) (.no :: (ds.map Sl.val ++ List.replicate (N.length - (ds.length + 1)) .no)) := by
      refine ⟨same_both (same_both bH), fH.trans e0, ⟨(kp.nB.upd rfl).upd rfl, kp.nF, G.invS _ _ e0 kp.iv⟩, ?_, fun i d h => ?_, fun i d h => ?_, fun i j d e a hij h1 => ?_, fun a e => by cases e⟩
      · rw [start_length (by rw [hvl]; exact hl.2), List.length_cons, List.length_append, List.length_map, List.length_replicate]
        omega
      · cases i with
        | zero => cases h
        | succ i =>
          rw [List.getElem?_cons_succ] at h
          by_cases hi : i < ds.length
          · rw [List.getElem?_append_left (by rw [List.length_map]; exact hi), List.getElem?_map] at h
            cases q : ds[i]? with
            | none => rw [q] at h; cases h
            | some d' =>
              rw [q] at h
              cases h
              obtain ⟨v, h1, h2⟩ := rr.get q
              exact ⟨v, start_get (by rw [List.getElem?_cons_succ]; exact h1), h2⟩
          · rw [List.getElem?_append_right (by rw [List.length_map]; omega), List.getElem?_replicate] at h
            split at h <;> cases h
      · have key : ∀ (i : Nat) (d : D), (Sl.no :: (ds.map Sl.val ++ List.replicate (N.length - (ds.length + 1)) .no))[i]? ≠ some (.own d) := fun i d h => by
          have hm := List.mem_of_getElem? h
          simp at hm
        exact (key i d h).elim
      · have hm := List.mem_of_getElem? h1
        simp at hm
    refine ⟨_, F, _, st, ?_⟩
    unfold iniRun at po
    revert po
    cases q : ma (.no :: (ds.map Sl.val ++ List.replicate (N.length - (ds.length + 1)) .no)) with
    | stuck => exact id
    | exn y r =>
      intro po cls d F' H' e n s2 xx
      exact po cls d F' H' e (fun b h1 h2 => n b (by
        by_cases hb : b = x
        · subst hb; exact absurd hBx h1
        · rw [upd_ne hb]
          by_cases hb2 : b = dx
          · subst hb2; exact absurd hBd h1
          · rw [upd_ne hb2]; exact h1) h2) (((same_upd hBd).trans (same_upd (by rw [upd_ne hxd']; exact hBx))).trans s2.bH) s2.fH ⟨kp.nB, s2.kp.nF, s2.kp.iv⟩ xx
    | ok os r =>
      intro po xs F1 H1 e1 n1 s1 o1
      simp only at po
      cases q2 : frzs r os with
      | none => rw [q2] at po; exact po.elim
      | some dr =>
        obtain ⟨es, r2⟩ := dr
        rw [q2] at po
        simp only at po
        cases q3 : arr is es with
        | none => rw [q3] at po; exact po.elim
        | some os' =>
          rw [q3] at po
          replace po : ∀ (F' H' : Hp), Same F F' → NewO B F F' → Same B H' → Same F' H' → Kp G B F' H' → Rep G F' (.ref x) (.obj c os') → Q .non H' := po
          obtain ⟨F2, e2, n2, s2, h2⟩ := s1.frzs (hp _ _ _ q) o1 q2
          obtain ⟨iC, il, isl⟩ := hI C hC
          have hB1x : (upd (upd B dx (.own x)) x (.ins C dx [])) x = some (.ins C dx []) := upd_same
          have hB1d : (upd (upd B dx (.own x)) x (.ins C dx [])) dx = some (.own x) := by rw [upd_ne hxd, upd_same]
          have hF2x : F2 x = none := n2 x (by rw [hB1x]; exact fun z => nomatch z) (n1 x (by rw [hB1x]; exact fun z => nomatch z) hFx)
          have hF2d : F2 dx = none := n2 dx (by rw [hB1d]; exact fun z => nomatch z) (n1 dx (by rw [hB1d]; exact fun z => nomatch z) hFd)
          have hH1x : H1 x = some (.ins C dx []) := s1.bH x _ hB1x
          have hH1d : H1 dx = some (.own x) := s1.bH dx _ hB1d
          unfold arr at q3
          cases q4 : putAll is es [] with
          | none => rw [q4] at q3; cases q3
          | some ps' =>
            rw [q4] at q3
            have q3 : allSome ps' = some os' := q3
            obtain ⟨us, p1, p2⟩ := putAll_reps is xs es [] [] ps' h2 .nil q4
            rw [allSome_eq q3] at p2
            obtain ⟨ys, rfl, ry⟩ := p2.all
            have hxl : xs.length = fs.length := by
              rw [il]
              have key : ∀ (is : List Nat) (xs : List V) (os os' : List (Option V)), putAll is xs os = some os' → xs.length = is.length := by
                intro is
                induction is with
                | nil => intro xs os os' h; cases xs with
                  | nil => rfl
                  | cons => cases h
                | cons i is ih => intro xs os os' h; cases xs with
                  | nil => cases h
                  | cons v xs => exact congrArg Nat.succ (ih xs _ _ h)
              exact key is xs _ _ p1
            refine ⟨by rw [hxl]; exact hfs, fun p hp0 => ⟨p, xs, rfl, SqT.of upd_same, hxl, ?_⟩⟩
            have hpx : p ≠ x := fun z => by rw [z, hH1x] at hp0; cases hp0
            have hpd : p ≠ dx := fun z => by rw [z, hH1d] at hp0; cases hp0
            have hx3 : (upd H1 p (.tup xs)) x = some (.ins C dx []) := by rw [upd_ne (fun z => hpx z.symm)]; exact hH1x
            have hd3 : (upd H1 p (.tup xs)) dx = some (.own x) := by rw [upd_ne (fun z => hpd z.symm)]; exact hH1d
            refine gSlots_ok hxd rfl iC fs is xs _ [] (ys.map some) il isl (.inl ⟨hx3, rfl⟩) hne p1 ?_
            have eF : Same F2 (SlX.slH F2 x C dx (ys.map some)) := fun b u e => by
              rw [SlX.slH_ne (ne_of_none e hF2x) (ne_of_none e hF2d)]
              exact e
            have hB1 : ∀ {b : Addr}, B b ≠ none → (upd (upd B dx (.own x)) x (.ins C dx [])) b = B b ∧ b ≠ x ∧ b ≠ dx := fun {b} hb => by
              have h1 : b ≠ x := fun z => hb (by rw [z]; exact hBx)
              have h2 : b ≠ dx := fun z => hb (by rw [z]; exact hBd)
              exact ⟨by rw [upd_ne h1, upd_ne h2], h1, h2⟩
            refine po (SlX.slH F2 x C dx (ys.map some)) _ ((e1.trans e2).trans eF) (fun b h1 h3 => ?_) (fun b u e => ?_) (fun b u e => ?_) ⟨kp.nB, (s2.kp.nF.upd rfl).upd rfl, G.invI _ x dx C _ hx3 hd3 (G.invS _ _ (same_upd hp0) s2.kp.iv)⟩
              (.obj x dx C c ys os' hC (SlX.slH_slt hxd) (ry.mono eF))
            · obtain ⟨a1, a2, a3⟩ := hB1 h1
              rw [SlX.slH_ne a2 a3]
              have hb1 : (upd (upd B dx (.own x)) x (.ins C dx [])) b ≠ none := by rw [a1]; exact h1
              exact n2 b hb1 (n1 b hb1 h3)
            · obtain ⟨a1, a2, a3⟩ := hB1 (b := b) (by rw [e]; exact fun z => nomatch z)
              rw [SlX.slH_ne a2 a3]
              have hb : H1 b = some u := s1.bH b u (by rw [a1]; exact e)
              rw [upd_ne (ne_of_none hb hp0)]
              exact hb
            · by_cases b1 : b = x
              · subst b1
                have e : (upd (upd F2 dx (.xd [])) b (SlX.SlO b C dx (ys.map some))) b = some u := e
                rw [upd_same] at e
                show (upd (upd (upd H1 p (.tup xs)) dx (.xd [])) b (SlX.SlO b C dx (ys.map some))) b = some u
                rw [upd_same]
                exact e
              · by_cases b2 : b = dx
                · subst b2
                  have e : (upd (upd F2 b (.xd [])) x (SlX.SlO x C b (ys.map some))) b = some u := e
                  rw [upd_ne b1, upd_same] at e
                  show (upd (upd (upd H1 p (.tup xs)) b (.xd [])) x (SlX.SlO x C b (ys.map some))) b = some u
                  rw [upd_ne b1, upd_same]
                  exact e
                · rw [SlX.slH_ne b1 b2] at e ⊢
                  have hb : H1 b = some u := s2.fH b u e
                  rw [upd_ne (ne_of_none hb hp0)]
                  exact hb
  · exact po.elim
/-- __init__ keeps its promise -/
theorem mkInit {c : Nat} {is : List Nat} {fs : List Str} {ma : MA} (F : FunD G.K x qual params body scope [] [] f fd) (S : FnScope N ps scope) (hb : Binds G.K fd ps []) (hp : PlainA ma) (hI : ∀ C, G.clsA c = some C → IniF G.K C fs is) (hne : fs ≠ []) (hfs : fs.length ≤ sizeLine)
    (hbody : ∀ (X : Cx) (W : WX), Good G W k true N scope X → PSs X body (tIni G.K fs (tMA G none W ma))) : FnR G.P G.w G.K G.mg G.base (L2.CX G.P G.w) (k + 1) f (spI G c (iniFn N.length ps.length c is ma)) := by
  have F1 : FnOk G.P G.w G.K G.mg G.base (L2.CX G.P G.w) (k + 1) f fd ps (spI G c (iniFn N.length ps.length c is ma)) :=
    F.ok S (fun vs H Q E h => (ini_start (N := N) hp hI hne hfs h).1) fun cdv A outer s H vs Q E hr h => ⟨_, hbody _ _ (good_cx S hr), (ini_start (N := N) hp hI hne hfs h).2⟩
  have := FnOk.raw F1 hb .nil
  intro A outer s H us vs Q E r e0 rv hs
  exact this A outer s H us vs Q E r e0 rv (by show spI G c _ (vs ++ []) H Q E; rw [List.append_nil]; exact hs)
theorem PSs_ini1 {X : Cx} {st : Stmt} {t : TS} (h : PS X st t) : PSs X [st] t := pss_one h
theorem PSs_iniC {X : Cx} {pn : Option Addr} {W : WX} {fs : List Str} {e : Expr} {pos : Pos} {rest : List Stmt} {m : M} {ms : List M} {ma : MA} (he : PE X e (tM G pn W m)) (hs : swapsWith e none pos.line X.env = pure false) (hr : PSs X rest (tIni G.K fs (tMA G pn W (mPre ms ma)))) :
    PSs X (.Expr e pos :: rest) (tIni G.K fs (tMA G pn W (mPre (m :: ms) ma))) := PSs.imp (pss_cons (ps_expr he hs) hr) fun D σ H h => tM_mono (tMA_pre h) fun v H1 q => q
end
end Ev
set_option maxHeartbeats 2000000
/-! Ev, part N: own exceptions whose __init__ hands its argument up and keeps it. -/
namespace Ev
open PySem PySem.Spec PyProof.Rows L2 PySem.W PySem.Calls Builtin Builtin.ObjectAttr

/-- the body of such an __init__ -/
def supBody (slf gv fld : Str) (p : Nat → Pos) : List Stmt :=
  [.Expr (.Call (.Attribute (.Call (.Name "super" (p 0)) [] [] (p 1)) "__init__" (p 2)) [.Name gv (p 3)] [] (p 4)) (p 5), .Assign [.Attribute (.Name slf (p 6)) fld (p 7)] (.Name gv (p 8)) (p 9)]
/-- what the text says of the class -/
structure ExS (K : Frag) (P : Program) (C : Addr) (fld : Str) : Prop where
  ex : ∃ (B newId initId : String) (bmB : List Value) (fI cda cc : Addr) (x qual slf gv : Str) (params : Arguments) (p : Nat → Pos) (scope : Scope) (kV doc pm ct oc : Value) (an od : Option Addr) (osl : Array (Option Value)) (ccl cl : Value) (cdd cld : Option Addr) (vs : Array Value) (ccs csl : Array (Option Value)) (file : Str) (tf : Tok) (ar : Arg) (pl : Sem Bool),
    (∀ env : Env, eval (.Call (.Attribute (.Call (.Name "super" (p 0)) [] [] (p 1)) "__init__" (p 2)) [.Name gv (p 3)] [] (p 4)) env = (do
      let ov ← attributeBase (.Call (.Name "super" (p 0)) [] [] (p 1)) "__init__" env (eval (.Call (.Name "super" (p 0)) [] [] (p 1)) env)
      standAt (p 2).atName
      let (f, first) ← holding [ov] (getMethod ov "__init__" pl)
      callWith (p 4) f first (backTo (p 4) (starEach [.Name gv (p 3)] env)) [])) ∧ ExcBaseFacts B newId initId bmB ∧ KxsFacts B initId ∧ StoreFacts B bmB "object.__setattr__" "object" ∧ excInitIn K C bmB newId = true ∧ excOver K C bmB = true ∧
    findIn K (.ref C) "__init__" = some (some (.ref fI)) ∧ K.lookup fI = some ⟨oc, od, .func (ksFn x qual params (supBody slf gv fld p) scope .none kV doc pm an (.ref cda) ct cc), osl⟩ ∧ isFn K (.ref fI) = true ∧ codeIn K (.ref cda) qual = true ∧
    K.lookup cda = some ⟨ccl, cdd, .fields vs, ccs⟩ ∧ vs[2]? = some (.str file tf) ∧ ((P.main.file : Str) == file) = true ∧ K.lookup cc = some ⟨cl, cld, .cell (some (.ref C)), csl⟩ ∧
    ks_superIn K C C "__init__" = some (some (.builtin initId)) ∧ subIn K (.ref C) (.type B) = some true ∧ mroIn K C (.ref C) = some true ∧
    (params.posonlyargs ++ params.args).head? = some ar ∧ ar.arg = slf ∧ slf ≠ gv ∧
    scope.names.lookup ("super" : Str) = some .globalImplicit ∧ scope.names.lookup ("__class__" : Str) = some .free ∧ scope.names.lookup slf = some .local ∧ scope.names.lookup gv = some .local ∧ (∀ y ∈ scope.names, y.2 ≠ .cell) ∧ scope.kind = .function ∧ scope.isCoroutine = false ∧ scope.isGenerator = false ∧
    (slf == ("__debug__" : Str)) = false ∧ (gv == ("__debug__" : Str)) = false ∧ (∀ us : List Value, us.length = 2 → bindArgs (ksFn x qual params (supBody slf gv fld p) scope .none kV doc pm an (.ref cda) ct cc) ⟨us, []⟩ = pure ([slf, gv].zip us))
  hd : hasDictIn K C = true
  sa : findIn K (.ref C) "__setattr__" = some (some (.builtin "object.__setattr__"))
  tk : takerIn K C fld = some none
  op : nsIn K cStatics "thirdparty.any" = some none
  sg : nsIn K mainGlobals "super" = some none
  top : (P.main.scope.names.lookup ("super" : Str)).isSome = false
  kC : keepIn K (.ref C) = true
  exC : subIn K (.ref C) (.type "BaseException") = some true
  tyC : typeIn K (.ref C) = some (.type "type")

section
variable {prog : Program} {w : World} {A : Around} {E : Value → Shared → Prop} {h : Heap} {g : Array GenState} {d : Drawn} {t : Nat} {os : OsState} {K : Frag} {C : Addr}
/-- the first store into an exception -/
theorem osa_newX {x : Addr} {fv : Array Value} {name : Str} {tk : Tok} {v : Value} {B : String} {bmB : List Value} {R : Result → Shared → Prop} (SF : StoreFacts B bmB "object.__setattr__" "object") (X : K.In h) (hx : h.get? x = some { cls := .ref C, data := .fields fv })
    (hp : excOver K C bmB = true) (ht : takerIn K C name = some none) (hh : hasDictIn K C = true)
    (hq : ∀ h' tk' dx, (∀ b o, b ≠ x → h.get? b = some o → h'.get? b = some o) → h.objs.size ≤ dx → dx ≠ x → h'.get? x = some { cls := .ref C, dict := some dx, data := .fields fv } →
      h'.Ns1 dx (fun y => if y = name then some v else none) → R (.ok (.ret .none)) ⟨h', g, d, tk', os⟩) :
    codeAny (model prog w) A (.call (.builtin "object.__setattr__") ⟨[.ref x, .str name tk, v], []⟩) R ⟨h, g, d, t, os⟩ := by
  have hxs : x ≠ h.objs.size := Nat.ne_of_lt (Heap.lt_size hx)
  refine osa_openX (od := none) (s := ⟨h, g, d, t, os⟩) SF X ⟨hx, rfl, rfl, trivial⟩ hp ht fun b => ?_
  obtain ⟨cd, hc, hd'⟩ := any_some hh
  have hcls : Looks (model prog w) h (classData C) cd := looks_clsIn X hc
  obtain ⟨nm, bs, mro, ns, qn, hd, sn, sb, ab, col, del⟩ := cd
  have hd' : hd = true := hd'
  subst hd'
  show wpAny _ _ (storeInOwnDict (.ref x) (.ref C) (.str name tk) name v b) _ _ _
  unfold storeInOwnDict ownDictForStores
  repeat (first | with_reducible refine HandSPX.store_in_new ?_ ?_ | with_reducible refine wpAny_loadPart_at hx ?_ | with_reducible refine hcls.at ?_ | wp_step)
  · exact ⟨_, #[], _, (Heap.get?_update_ne _ _ _ _ hxs.symm).trans (Heap.get?_push_at rfl rfl), rfl, fun e he => absurd he (by simp), fun _ => rfl⟩
  · intro h' tk' hn' hs
    have hx₁ : (h.push { cls := .type "dict", data := .dict #[] }).get? x = some { cls := .ref C, data := .fields fv } := Heap.get?_push_of_some _ hx
    refine hq h' tk' h.objs.size (fun b o hb ho => ?_) (Nat.le_refl _) hxs.symm ?_ hn'
    · exact (hs.2 b (Nat.ne_of_lt (Heap.lt_size ho))).trans ((Heap.get?_update_ne _ _ _ _ hb).trans (Heap.get?_push_of_some _ ho))
    · exact (hs.2 x hxs).trans (Heap.get?_update_self _ hx₁ rfl)
/-- the method-wrapper called: the args are laid anew -/
theorem mw_call {u x t0 : Addr} {B newId i : String} {bmB : List Value} {rest : List Value} {Q : Value → Shared → Prop} (X : K.In h) (FB : ExcBaseFacts B newId i bmB) (q : excInitIn K C bmB newId = true) (hu : h.get? u = some (kxs_mw i x)) (he : h.get? x = some (excObj C t0 none .none)) (hz : rest.length ≤ sizeLine)
    (fin : ∀ h', (∀ b o, b ≠ x → h.get? b = some o → h'.get? b = some o) → h'.get? x = some (excObj C h.objs.size none .none) → Q .none ⟨h', g, d, t, os⟩) :
    wpAny (model prog w) A (call (.ref u) rest) Q E ⟨h, g, d, t, os⟩ := by
  obtain ⟨nm, N', qn, bs, bm, hdct, sn, sub, ab, col, dd, k0, k1, k2, k3, k5, hC, hT⟩ := excInit_of X q
  refine wpAny_call (codeAny_of_tree ?_)
  show wpAny _ A.in1 (callAny (.ref u) ⟨rest, []⟩) _ _ _
  simp only [callAny]
  refine wpAny_bind (wpAny_load hu ?_)
  simp only [kxs_mw, show (Value.type "method-wrapper" == Value.type "method" || Value.type "method-wrapper" == Value.type "builtin_function_or_method" || Value.type "method-wrapper" == Value.type "method-wrapper") = true by decide, if_true]
  refine KFB.if_so (by decide) ?_
  refine wpAny_bind (check_bound_init FB.toExcCallFacts hC he rfl ?_)
  refine wpAny_bind (wpAny_pure (wpAny_pure ?_))
  refine ⟨plainId_quiet FB.init.plain _, codeAny_builtin FB.initEntry ?_⟩
  exact exc_init_tree (cls := .ref C) (t0 := t0) (dv := none) (c2 := .none) (c3 := .none) (b4 := .bool false) he hz fun h' a b _ => fin h' a b
theorem sup_run {fld : Str} {mg mb : Str → Option Value} {e t0 : Addr} {u : Value} {R : Result → Shared → Prop} (T : ExS K prog C fld) (X : K.In h) (nl : h.NoLimit) (hg : h.Ns mainGlobals mg) (hms : mg "super" = none) (hb : h.Ns builtinsNs mb) (hbs : mb "super" = some (.type "super"))
    (he : h.get? e = some (excObj C t0 none .none)) (hKe : K.lookup e = none) (hdep : A.depth < recursionLimit)
    (hR : ∀ fI, findIn K (.ref C) "__init__" = some (some (.ref fI)) → ∀ h' t' dx t1, (∀ b o, b ≠ e → h.get? b = some o → h'.get? b = some o) → h.objs.size ≤ dx → dx ≠ e → h'.get? e = some (excObj C t1 (some dx) .none) → h'.Ns1 dx (fun y => if y = fld then some u else none) → R (.ok (.ret .none)) ⟨h', g, d, t', os⟩) :
    ∃ fI, findIn K (.ref C) "__init__" = some (some (.ref fI)) ∧ isFn K (.ref fI) = true ∧ codeAny (model prog w) A (.call (.ref fI) ⟨[.ref e, u], []⟩) R ⟨h, g, d, t, os⟩ := by
  obtain ⟨B, newId, initId, bmB, fI, cda, cc, x, qual, slf, gv, params, p, scope, kV, doc, pm, ct, oc, an, od, osl, ccl, cl, cdd, cld, vs, ccs, csl, file, tf, ar, pl, hev, FB, KF, SF, q1, q2, hi, hf, hoc, hcd, hcda, hvs, hfile, hcc, hsup, hB, hself, har, hslf, hne, n1, n2, n3, n4, ncell, hk, hco, hgen, dd1, dd2, hbind⟩ := T.ex
  refine ⟨fI, hi, hoc, ?_⟩
  refine ks_codeAny_call_defAt (fd := ksFn x qual params (supBody slf gv fld p) scope .none kV doc pm an (.ref cda) ct cc) (body := supBody slf gv fld p) (binds := [(slf, .ref e), (gv, u)]) hdep (X _ _ hf) rfl nl (codeRec_of X hcd) rfl (.of_eq (hbind [.ref e, u] rfl)) ncell (fun y hy => ?_) (fun h1 hns k1 => ?_) hco hgen hk
  · rcases List.mem_cons.mp hy with rfl | hy
    · exact n3
    · rw [List.mem_singleton.mp hy]; exact n4
  have X1 : K.In h1 := X.keeps k1
  have m1 : (fun x => ([(slf, Value.ref e), (gv, u)] : List (Str × Value)).reverse.lookup x) slf = some (.ref e) := by
    show ([(gv, u), (slf, Value.ref e)] : List (Str × Value)).lookup slf = _
    rw [List.lookup_cons, beq_eq_false_iff_ne.mpr hne]
    rw [List.lookup_cons, beq_self_eq_true]
  have m2 : (fun x => ([(slf, Value.ref e), (gv, u)] : List (Str × Value)).reverse.lookup x) gv = some u := by
    show ([(gv, u), (slf, Value.ref e)] : List (Str × Value)).lookup gv = _
    rw [List.lookup_cons, beq_self_eq_true]
  obtain ⟨cd, hcl⟩ : ∃ cd, clsIn K C = some cd := by
    unfold mroIn at hself
    cases q : clsIn K C with
    | none => rw [q] at hself; cases hself
    | some cd => exact ⟨cd, rfl⟩
  have hD : ∀ {hh : Heap}, K.In hh → ∃ oD, hh.get? C = some oD ∧ oD.data = .cls cd := fun {hh} XX => by
    have hD := hcl
    unfold clsIn at hD
    split at hD
    · rename_i c d cd' sl ho
      cases hD
      exact ⟨_, XX _ _ ho, rfl⟩
    · cases hD
  have he1 : h1.get? e = some (excObj C t0 none .none) := k1 _ _ he
  have hint : interactive (callEnv (ksFn x qual params (supBody slf gv fld p) scope .none kV doc pm an (.ref cda) ct cc) h.objs.size fI) = false := by
    show (scope.kind == .module && _) = false
    rw [hk]
    rfl
  refine ks_wpAt_execs_cons (ks_wpAt_Expr_any (hi := hint) (ks_wpAt_MethodCall (pl := pl) ?_ (hev _)))
  obtain ⟨oD, hD1, hD2⟩ := hD X1
  refine ks_wpAt_super_base (env := ksEnv qual scope h.objs.size fI (.ref cda) cc) n1 n2 (by decide +kernel) rfl (X1 _ _ hf) rfl har rfl (X1 _ _ hcda) rfl hvs hfile T.top ?_
  refine ks_loadName_global hk n1 (loadGlobal_builtin (env := ksEnv qual scope h.objs.size fI (.ref cda) cc) (hg.keeps k1) hms (hb.keeps k1) hbs ⟨rfl, ?_⟩)
  refine wpAny_loadName_free hk n2 rfl ⟨_, X1 _ _ hcc, rfl⟩ ?_
  rw [hslf]
  refine wpAny_loadName_local hk n3 hns m1 ?_
  refine ks_wpAny_isType_cls hD1 hD2 ⟨rfl, ?_⟩
  refine ks_wpAny_call_super hD1 hD2 he1 rfl (fun c z => by cases z) (looks_mroIn X1 hself) (fun h2 e2 k2 => ?_)
  have X2 : K.In h2 := X1.keeps k2
  have he2 : h2.get? e = some (excObj C t0 none .none) := k2 _ _ he1
  have I2 : InstAt h2 e (excObj C t0 none .none) C none := ⟨he2, rfl, rfl, trivial⟩
  have hsup2 : alongIn K "__init__" ((cd.mro.dropWhile (· != .ref C)).drop 1) = some (some (.builtin initId)) := by
    unfold ks_superIn at hsup
    rw [hcl] at hsup
    exact hsup
  refine kxs_getMethod KF e2 (looks_opaque X2 T.op) (l₀ := cd.mro) (fun A Q E s k q => wpAny_bind ((looks_clsIn X2 hcl) A _ E s k (wpAny_pure q))) rfl X2 hsup2 (I2.type.andThen (looks_subIn X2 hB)) (ks_ne X2 I2 hcl) (by decide +kernel) ?_
  have k3 : ∀ b o, h2.get? b = some o → (h2.push (kxs_mw initId e)).get? b = some o := fun b o z => Heap.get?_push_of_some _ z
  refine kxs_callWith (i := initId) (x := e) rfl ?_
  refine evalArgs_plain (spliced_cons ?_)
  refine ESX.ldL (env := ksEnv qual scope h.objs.size fI (.ref cda) cc) (m := fun x => ([(slf, Value.ref e), (gv, u)] : List (Str × Value)).reverse.lookup x) ((hns.keeps k2).keeps k3) m2 ?_ hk n4 dd2
  refine spliced_nil ⟨Heap.get?_push_at rfl rfl, ?_⟩
  have X3 : K.In (h2.push (kxs_mw initId e)) := X2.keeps k3
  show wpAny _ _ (call (.ref h2.objs.size) [u]) _ _ _
  refine mw_call X3 FB q1 (Heap.get?_push_at rfl rfl) (k3 _ _ he2) (by show 1 ≤ sizeLine; rw [sizeLine_eq]; omega) fun h4 k4 he4 => ?_
  have ne1 : ∀ {b : Addr} {o : Obj}, h.get? b = some o → b ≠ h.objs.size := fun {b o} z => Nat.ne_of_lt (Heap.lt_size z)
  have ke : ∀ b o, b ≠ e → h1.get? b = some o → h4.get? b = some o := fun b o hb z => k4 b o hb (k3 _ _ (k2 _ _ z))
  have hL : h.objs.size ≠ e := fun z => absurd (Heap.lt_size he) (by rw [z]; exact Nat.lt_irrefl _)
  have X4 : K.In h4 := fun a o z => ke a o (fun q => by rw [q, hKe] at z; cases z) (X1 a o z)
  have hL4 : h4.Ns h.objs.size (fun x => ([(slf, Value.ref e), (gv, u)] : List (Str × Value)).reverse.lookup x) := by
    obtain ⟨oL, es, ep, z, r⟩ := hns
    exact ⟨oL, es, ep, ke _ _ hL z, r⟩
  refine ks_wpAt_execs_cons (ks_wpAt_Assign_Attr (wpAt_of_wpAny ?_))
  refine ESX.ldL (s := ⟨h4, g, d, _, os⟩) (env := ksEnv qual scope h.objs.size fI (.ref cda) cc) (m := fun x => ([(slf, Value.ref e), (gv, u)] : List (Str × Value)).reverse.lookup x) hL4 m2 ?_ hk n4 dd2
  refine ESX.ldL (s := ⟨h4, g, d, _, os⟩) (env := ksEnv qual scope h.objs.size fI (.ref cda) cc) (m := fun x => ([(slf, Value.ref e), (gv, u)] : List (Str × Value)).reverse.lookup x) hL4 m1 ?_ hk n3 dd1
  refine set_plain (od := none) X4 ⟨he4, rfl, rfl, trivial⟩ T.sa (osa_newX SF X4 he4 q2 T.tk T.hd fun h5 t5 dx k5 hdx hdxe he5 hns5 => ?_)
  show _root_.PySem.wpAt _ _ _ (execs [] _) _ _ _
  refine wpAt_of_wpAny (wpAny_execs_nil ?_)
  refine hR fI hi h5 t5 dx _ (fun b o hb z => k5 b o hb (ke b o hb (k1 _ _ z))) ?_ hdxe he5 hns5
  obtain ⟨oL, _, _, z, _⟩ := hL4
  exact Nat.le_trans (Nat.le_of_lt (Heap.lt_size z)) hdx
end
/-- X(e), X's __init__ handing e up and keeping it in the field fld -/
theorem pmk_sup {X : Cx} {x fld : Str} {C : Addr} {e : Expr} {te : TE} {p pos : Pos} {k : Nat} (T : ExS X.K X.prog C fld) (hr : Room (k + 1) X.A) (hg : Gl X x) (gC : X.mg x = some (.ref C)) (he : PE X e te)
    (hs : starEach [e] X.env = (false, eval e X.env) :: starEach [] X.env) (hdb : (x == ("__debug__" : Str)) = false) :
    PMk X (.Call (.Name x p) [e] [] pos) (fun σ H Q => te σ H fun v H1 => ∀ dd, H1 dd = none → Q (.ref C) (some dd) (upd H1 dd (.xd [(fld, v)]))) := by
  intro pins s σ H Q I h
  refine wpAny_Call_Name_kw (ld_glob I hg gC ?_ hdb)
  refine PySem.W.callWith_K (h₀ := X.base) I.ok.mod.kin T.kC ?_ hs (by rfl)
  rw [hs]
  show wpAny _ _ (spliced ((false, eval e X.env) :: backTo pos (starEach [] X.env))) _ _ s
  refine Calls.spliced_cons (thn (he.run pins s σ H _ I h) fun u s1 ⟨v, H1, I1, rv, q1⟩ => ?_)
  refine Calls.spliced_nil ⟨I1.kIn, ?_⟩
  show wpAny _ _ (call (.ref C) [u]) _ _ _
  obtain ⟨mb, hb1, hb2⟩ := I1.mod.blt
  have hmsup : X.mg "super" = none := mg_none_of I1.mod.kin I1.mod.glob T.sg
  obtain ⟨B, newId, initId, bmB, fI, cda, cc, xn, qual, slf, gv, params, pp, scope, kV, doc, pm, ct, oc, an, od, osl, ccl, cl, cdd, cld, vs, ccs, csl, file, tf, ar, pl, hev, FB, KF, SF, ex1, ex2, hi, hf, hfn, rest⟩ := T.ex
  have I1' := I1
  obtain ⟨hp, g, d, tk, os⟩ := s1
  have X0 : X.K.In hp := I1.kIn
  have bk : ∀ b o, X.base.get? b = some o → hp.get? b = some o := I1.bk
  have nl : hp.NoLimit := I1.nolimit
  obtain ⟨nm, N', qn, bs, bm, hdct, sn, sub, ab, col, dd, k0, k1, k2, k3, k5, hC, hT⟩ := excInit_of X0 ex1
  have kp : ∀ b o, hp.get? b = some o → ((hp.push (PySem.W.kdv_tup [u])).push (PySem.HandSPX.excO C hp.objs.size)).get? b = some o := fun b o z => Heap.get?_push_of_some _ (Heap.get?_push_of_some _ z)
  have hget : ((hp.push (PySem.W.kdv_tup [u])).push (PySem.HandSPX.excO C hp.objs.size)).get? (hp.objs.size + 1) = some (excObj C hp.objs.size none .none) := by heap_get
  have hKe : X.K.lookup (hp.objs.size + 1) = none := by
    cases q : X.K.lookup (hp.objs.size + 1) with
    | none => rfl
    | some o =>
      exact absurd (Heap.lt_size (X0 _ _ q)) (Nat.not_lt.mpr (Nat.le_succ _))
  have szb : ∀ {b : Addr} {o : Obj}, hp.get? b = some o → b ≠ hp.objs.size + 1 := fun {b o} z => by
    intro q
    rw [q] at z
    exact absurd (Heap.lt_size z) (Nat.not_lt.mpr (Nat.le_succ _))
  obtain ⟨oI, hoI, hcI⟩ : ∃ oI, hp.get? fI = some oI ∧ oI.cls = .type "function" := by
    obtain ⟨o, ho, hc⟩ := Option.map_eq_some_iff.mp (show (X.K.lookup fI).map (·.cls) = some (.type "function") from beq_iff_eq.mp hfn)
    exact ⟨o, X0 _ _ ho, hc⟩
  refine wpAny_call (PySem.HandSPX.call_own FB hT hC (looks_findIn X0 hi) (fun self => exc_bind hoI hcI self) (by show 1 ≤ sizeLine; rw [sizeLine_eq]; omega) ?_)
  have key : ∀ (h' : Heap) (t' dx : Nat) (t1 : Addr), (∀ b o, b ≠ hp.objs.size + 1 → ((hp.push (PySem.W.kdv_tup [u])).push (PySem.HandSPX.excO C hp.objs.size)).get? b = some o → h'.get? b = some o) → ((hp.push (PySem.W.kdv_tup [u])).push (PySem.HandSPX.excO C hp.objs.size)).objs.size ≤ dx → dx ≠ hp.objs.size + 1 →
      h'.get? (hp.objs.size + 1) = some (excObj C t1 (some dx) .none) → h'.Ns1 dx (fun y => if y = fld then some u else none) → MkP X pins σ Q (.ref (hp.objs.size + 1)) ⟨h', g, d, t', os⟩ := by
    intro h' t' dx t1 kk hdx hdxe he5 hns5
    obtain ⟨G, g1, g2⟩ := restrict h' fun b => decide (b ≠ hp.objs.size + 1)
    have gk : ∀ b, b ≠ hp.objs.size + 1 → G.get? b = h'.get? b := fun b hb => g1 b (by simpa using hb)
    have ge : G.get? (hp.objs.size + 1) = none := g2 _ (by simp)
    have hsz : hp.objs.size ≤ dx := by
      rw [Heap.size_push, Heap.size_push] at hdx
      omega
    have hnd : H1 dx = none := I1.hok.fresh hsz
    have hne : H1 (hp.objs.size + 1) = none := I1.hok.fresh (Nat.le_succ _)
    have J : Inv X pins σ (upd H1 dx (.xd [(fld, v)])) ⟨G, g, d, t', os⟩ := I1.laid (t' := t') (a := dx) (o := .xd [(fld, v)]) (h' := G) (fun b o z => by
      rw [gk b (szb z)]
      exact kk b o (szb z) (kp b o z)) hsz ⟨_, hns5.at fun o y => (gk dx hdxe).trans y, relO_put (fs := []) rv fun g => True.intro⟩
    refine ⟨hp.objs.size + 1, excObj C t1 (some dx) .none, _, ⟨G, g, d, t', os⟩, _, .ref C, some dx, rfl, J, fun b o z => ?_, ge, he5, ⟨rfl, rfl⟩, rfl, rfl, ?_, rfl, I1.bare, raises_own T.exC T.tyC, q1 dx hnd⟩
    · by_cases hb : b = hp.objs.size + 1
      · rw [hb, ge] at z; cases z
      · exact (gk b hb).symm.trans z
    · rw [upd_ne (Ne.symm hdxe)]; exact hne
  obtain ⟨fI', hi', _, run⟩ := sup_run (g := g) (d := d) (t := tk) (os := os) (w := X.w) (A := X.A.under (.builtin "type.__call__" ⟨.ref C :: [u], []⟩)) (u := u)
    (R := PySem.W.InitBack (hp.objs.size + 1) fun r s' => match r with | .ok (.ret v) => MkP X pins σ Q v s' | .ok _ => False | .error e => X.xe e s') T (X0.keeps kp) (nl.keeps kp) ((I1.mod.glob.keeps bk).keeps kp) hmsup ((hb1.keeps bk).keeps kp) ((hb2 _ (by decide)).trans (by decide +kernel)) hget hKe
    (hr.make C [u] []).depth (fun _ _ h' t' dx t1 kk hdx hdxe he5 hns5 => ⟨rfl, key h' t' dx t1 kk hdx hdxe he5 hns5⟩)
  rw [hi] at hi'
  cases hi'
  exact run
end Ev
set_option maxHeartbeats 2000000
/-! Ev, part O: raising, and clauses of which some name what they caught. -/
namespace Ev
open PySem PySem.Spec PyProof.Rows L2

/-! ### raising -/
/-- an own class made with a text -/
structure ExP (K : PySem.W.Frag) (C : Addr) : Prop where
  ex : ∃ (B newId initId : String) (bmB : List Value), ExcBaseFacts B newId initId bmB ∧ PySem.W.excIn K C bmB newId = true
  kC : PySem.W.keepIn K (.ref C) = true
  exC : PySem.W.subIn K (.ref C) (.type "BaseException") = some true
  tyC : PySem.W.typeIn K (.ref C) = some (.type "type")
def sRaise0 (c : Nat) (m : M) : MS := fun r => bindS (m r) fun _ r1 => .exn ⟨c, none⟩ r1
def sRaise1 (c : Nat) (m : M) : MS := fun r => bindS (m r) fun o r1 => match frz r1 o with
  | some (d, r2) => .exn ⟨c, some d⟩ r2
  | none => .stuck
section
variable {G : Gam} {pn : Option Addr} {W : WX} {X : Cx} {B F F' H H' : Hp} {σ : L2.St} {r : Rho}
theorem PS_raise0 {c : Nat} {C : Addr} {x : Str} {e : Expr} {m : M} {p pos pos' : Pos} (hK : X.K = G.K) (hC : G.clsA c = some C) (T : ExP G.K C) (hc : X.calm = true) (tk : Takes X W) (hg : Gl X x) (gC : X.mg x = some (.ref C)) (he : PE X e (tM G pn W m))
    (hs : starEach [e] X.env = (false, eval e X.env) :: starEach [] X.env) (hdb : (x == ("__debug__" : Str)) = false) : PS X (.Raise (some (.Call (.Name x p) [e] [] pos)) none pos') (tS G pn W (sRaise0 c m)) := by
  rw [← hK] at T
  obtain ⟨B, newId, initId, bmB, FB, q⟩ := T.ex
  refine PS.imp (ps_raise hc tk (SkE.pmk_own1 FB q gC T.kC (raises_own T.exC T.tyC) hg he hs hdb)) fun D σ H h => ?_
  refine tM_mono (tS_bindM (f := fun _ r1 => .exn ⟨c, none⟩ r1) h) fun v H1 ⟨B, F, F1, o, r1, e1, n1, st, oo, p⟩ => ?_
  exact p (.ref C) none σ F1 H1 e1 n1 st ⟨⟨C, hC, rfl⟩, True.intro⟩
theorem PS_raise1 {c : Nat} {C : Addr} {x : Str} {e : Expr} {m : M} {p pos pos' : Pos} {k : Nat} (hK : X.K = G.K) (hP : X.prog = G.P) (hC : G.clsA c = some C) (T : ExS G.K G.P C (G.fldA c)) (hr : Room (k + 1) X.A) (hc : X.calm = true) (tk : Takes X W) (hg : Gl X x) (gC : X.mg x = some (.ref C)) (he : PE X e (tM G pn W m))
    (hs : starEach [e] X.env = (false, eval e X.env) :: starEach [] X.env) (hdb : (x == ("__debug__" : Str)) = false) : PS X (.Raise (some (.Call (.Name x p) [e] [] pos)) none pos') (tS G pn W (sRaise1 c m)) := by
  rw [← hK, ← hP] at T
  refine PS.imp (ps_raise hc tk (pmk_sup T hr hg gC he hs hdb)) fun D σ H h => ?_
  refine tM_mono (tS_bindM (f := fun o r1 => match frz r1 o with
    | some (d, r2) => .exn ⟨c, some d⟩ r2
    | none => .stuck) h) fun v H1 ⟨B, F, F1, o, r1, e1, n1, st, oo, p⟩ dd hdd => ?_
  revert p
  cases q : frz r1 o with
  | none => exact fun p => p.elim
  | some dr =>
    obtain ⟨d, r2⟩ := dr
    intro p
    obtain ⟨F2, e2, n2, s2, h2⟩ := st.frz oo q
    have s3 : Sta G pn B F2 (upd H1 dd (.xd [(G.fldA c, v)])) σ r2 := s2.grow (Same.refl _) (same_upd hdd) (s2.fH.trans (same_upd hdd)) (NewO.refl _ _) s2.kp.nF
    exact p (.ref C) (some dd) σ F2 _ (e1.trans e2) (n1.trans n2) s3 ⟨⟨C, hC, rfl⟩, dd, v, rfl, upd_same, h2⟩
end

/-! ### clauses -/
/-- the clauses' readings: the class, what the suite's frame is made of, the suite -/
inductive Cl where
  | plain (c : Value) (ts : Addr → Value → Option Addr → TS)
  | named (c : Value) (i : Nat) (ts : Addr → Value → Option Addr → TS)
def unname (i : Nat) (D : Ends) : Ends where
  nx := fun σ H => D.nx (σ.set i none) H
  rt := D.rt
  bk := fun σ H => D.bk (σ.set i none) H
  ct := fun σ H => D.ct (σ.set i none) H
def wMix (K : PySem.W.Frag) (Wout : WX) (D : Ends) : List Cl → WX
  | [] => Wout
  | .plain c ts :: r => fun cls d σ H => ∃ b, PySem.W.exmOne K cls c = some b ∧ (b = true → ∀ a, H a = none → ts a cls d D σ H) ∧ (b = false → wMix K Wout D r cls d σ H)
  | .named c i ts :: r => fun cls d σ H => ∃ b, PySem.W.exmOne K cls c = some b ∧ (b = true → ∀ a, H a = none → i < σ.length → ts a cls d (unname i D) (σ.set i (some (.ref a))) H) ∧ (b = false → wMix K Wout D r cls d σ H)
inductive ClsOk (X : Cx) : List ExceptHandler → List Cl → Prop
  | nil : ClsOk X [] []
  | plain {x : Str} {c : Value} {ts : Addr → Value → Option Addr → TS} {b₀ : Stmt} {suite : List Stmt} {np pos' : Pos} {hds : List ExceptHandler} {l : List Cl} (hc : Names X x c)
      (hsu : ∀ (a : Addr) (oe : Obj) (cls : Value) (d : Option Addr) (pn : List (Addr × Obj)), Zc cls d oe → (∃ vs, oe.data = .fields vs) → PSs (X.suite a ((a, oe) :: pn)) (b₀ :: suite) (ts a cls d)) (r : ClsOk X hds l) :
      ClsOk X (.ExceptHandler (some (.Name x np)) none (b₀ :: suite) pos' :: hds) (.plain c ts :: l)
  | named {x n : Str} {i : Nat} {c : Value} {ts : Addr → Value → Option Addr → TS} {b₀ : Stmt} {suite : List Stmt} {np pos' : Pos} {hds : List ExceptHandler} {l : List Cl} (hN : X.N.Nodup) (hi : X.N[i]? = some n) (hln : X.env.kindOf n = some .local) (hc : Names X x c)
      (hsu : ∀ (a : Addr) (oe : Obj) (cls : Value) (d : Option Addr) (pn : List (Addr × Obj)), Zc cls d oe → (∃ vs, oe.data = .fields vs) → PSs (X.suite a ((a, oe) :: pn)) (b₀ :: suite) (ts a cls d)) (r : ClsOk X hds l) :
      ClsOk X (.ExceptHandler (some (.Name x np)) (some n) (b₀ :: suite) pos' :: hds) (.named c i ts :: l)
section
variable {X : Cx} {body : List Stmt} {h₀ : ExceptHandler} {hds : List ExceptHandler} {l : List Cl} {pos : Pos} {tb : WX → TS} {Wout : WX}
/-- the class of a clause is looked up -/
theorem clause_class {x : Str} {c : Value} {np : Pos} {a : Addr} {pins : List (Addr × Obj)} {σ : L2.St} {H : Hp} {s : Shared} {Q : Value → Shared → Prop} {E : Value → Shared → Prop} (hc : Names X x c) (S : Inv (X.suite a pins) [] σ H s) (q : Q c s) : wpAny (model X.prog X.w) (X.suite a pins).A (eval (.Name x np) X.env) Q E s := by
  obtain ⟨hg, hdbg, hm | ⟨hm, hv, hnn⟩⟩ := hc
  · exact ld_glob (X := X.suite a pins) S hg hm q hdbg
  · exact ld_blt (X := X.suite a pins) S hg hm hv q hnn hdbg
theorem ps_try_mix (hs : X.stack = X.env :: X.outer) (hf : X.env.frame = some X.env.locals) (tk : Takes X Wout)
    (hb : ∀ (W : WX) (pn : List (Addr × Obj)) (xe : Value → Shared → Prop), Takes (X.tr pn xe) W → PassesOwn (model X.prog X.w) X.A X.env xe → PSs (X.tr pn xe) body (tb W))
    (hh : ClsOk X (h₀ :: hds) l) : PS X (.Try body (h₀ :: hds) [] [] pos) (fun D σ H => tb (wMix X.K Wout D l) D σ H) := by
  constructor
  intro pins s σ H D I h
  have ok := I.ok
  have hfr : X.A.frames = some (X.env :: X.outer) := ok.frames.trans (congrArg some hs)
  -- what is wished of an exception: noted, landed, then the clauses
  let xe : Value → Shared → Prop := fun e s₁ => wpAny (model X.prog X.w) X.A (noteFrame e X.env) (fun _ s₂ => wpAny (model X.prog X.w) X.A (setFlight e none) (fun _ s₃ => wpAny (model X.prog X.w) X.A (handleBy e X.env (h₀ :: hds)) (SP X pins D) X.xe s₃) X.xe s₂) X.xe s₁
  have catches : Takes (X.tr (X.pn ++ pins) xe) (wMix X.K Wout D l) := by
    intro u s' xx
    obtain ⟨a, B, sI, pins', σ', H', cls, d, rfl, J', nb, up, sky, na, os, ag, w⟩ := xx
    have J : Inv X pins σ' H' sI := J'.ofTry ok
    replace sky : Sky B (X.env :: X.outer) a (Zc cls d) X.env.locals s'.heap := hs ▸ sky
    show wpAny _ X.A (noteFrame (.ref a) X.env) _ _ _
    refine Sky.land Zc.steady hfr hf sky fun h3 fl3 up3 => ?_
    have up' := up.trans up3
    have J3 : Inv X pins σ' H' { s' with heap := h3 } := J.landed nb fl3.1 up' os ag
    obtain ⟨oe3, vs3, he3, hz3, hd3⟩ := fl3.there
    have nfr : a ∉ frs (X.env :: X.outer) := by
      intro hm
      obtain ⟨_, o', e', hnf⟩ := fl3.2.2.1.mem hm
      rw [he3] at e'
      cases e'
      exact hnf _ hd3
    have nL : a ≠ X.env.locals := by
      intro z
      exact nfr (List.mem_filterMap.mpr ⟨X.env, List.mem_cons_self, by rw [hf, z]⟩)
    have nF : a ∉ X.fs := by
      intro hm
      obtain ⟨e, he, q⟩ := List.mem_filterMap.mp hm
      exact nfr (List.mem_filterMap.mpr ⟨e, List.mem_cons_of_mem _ he, q⟩)
    have S3 := J3.suite he3 hd3 na nL nF
    have LT : PySem.W.Looks (model X.prog X.w) h3 (typeOf (.ref a)) cls := by
      intro A Q E s k q
      exact wpAny_typeOf_ref (k _ _ he3) (by rw [hz3.1]; exact q)
    -- the suite's ground
    have ground : ∀ {h4 : Heap}, HandSPX.FlyingZ B (X.env :: X.outer) a (Zc cls d) h4 → h3.UpToSlots h4 → ∃ oe4, Zc cls d oe4 ∧ (∃ vs, oe4.data = .fields vs) ∧ Inv (X.suite a ((a, oe4) :: (X.pn ++ pins))) [] σ' H' { s' with heap := h4 } := by
      intro h4 fl4 up4
      have J4 : Inv X pins σ' H' { s' with heap := h4 } := J.landed nb fl4.1 (up'.trans up4) os ag
      obtain ⟨oe4, vs4, he4, hz4, hd4⟩ := fl4.there
      exact ⟨oe4, hz4, ⟨_, hd4⟩, J4.suite he4 hd4 na nL nF⟩
    have go : ∀ (hds' : List ExceptHandler) (l' : List Cl), ClsOk X hds' l' → wMix X.K Wout D l' cls d σ' H' → wpAny (model X.prog X.w) X.A (handleBy (.ref a) X.env hds') (SP X pins D) X.xe { s' with heap := h3 } := by
      intro hds' l' hk
      induction hk with
      | nil =>
        intro w
        obtain ⟨k1, k2, k3, oe, vs, T, oT, ts', he, hz, hd, h1, hr⟩ := id fl3
        refine wpAny_handleBy_nil ?_
        unfold PySem.passOn
        refine wpAny_bind (wpAny_field he hd h1 ?_)
        rw [if_neg (by simp)]
        refine wpAny_bind ?_
        rw [hf]
        refine HandSPX.setFlight_upZ fl3 fun h4 hh4 up4 => ?_
        exact wpAny_throw (tk _ _ ⟨a, B, sI, pins, σ', H', cls, d, rfl, J, nb, up'.trans up4, .inr (.inr (hs ▸ hh4)), na, os, ag, w⟩)
      | @plain x c ts b₀ suite np pos' hds2 l2 hc hsu r ih =>
        rintro ⟨b, hb1, hyes, hno⟩
        refine wpAny_handleBy_cons (codeAny_handlers_test (clause_class hc S3 ((PySem.W.exm_one (M := model X.prog X.w) J3.kIn LT hb1).here ?_))) (by intro q; cases q)
        cases b with
        | false => exact ih (hno rfl)
        | true =>
          refine codeAny_handlers_suite (HandSPX.lands_againZ fl3 fun h4 fl4 up4 => ?_)
          obtain ⟨oe4, hz4, hd4, S4⟩ := ground fl4 up4
          refine wpAny_mono ((hsu a oe4 cls d _ hz4 hd4).run [] _ _ H' _ S4 (hyes rfl a na)) (fun f s6 hsp => ?_) fun _ _ z => z.elim
          cases f with
          | ret u =>
            obtain ⟨v6, σ6, H6, S6, r6, q6⟩ := hsp
            exact ⟨v6, σ6, H6, S6.unsuite ok, r6, q6⟩
          | _ =>
            obtain ⟨σ6, H6, S6, q6⟩ := hsp
            exact ⟨σ6, H6, S6.unsuite ok, q6⟩
      | @named x n i c ts b₀ suite np pos' hds2 l2 hN hi hln hc hsu r ih =>
        rintro ⟨b, hb1, hyes, hno⟩
        refine wpAny_handleBy_cons (codeAny_handlers_test (clause_class hc S3 ((PySem.W.exm_one (M := model X.prog X.w) J3.kIn LT hb1).here ?_))) (by intro q; cases q)
        cases b with
        | false => exact ih (hno rfl)
        | true =>
          refine codeAny_handlers_suite_as (HandSPX.lands_againZ fl3 fun h4 fl4 up4 => ?_)
          obtain ⟨oe4, hz4, hd4, S4⟩ := ground fl4 up4
          have hlt : i < σ'.length := by
            rw [S4.len]
            exact (List.getElem?_eq_some_iff.mp hi).1
          refine store_ok (X := X.suite a ((a, oe4) :: (X.pn ++ pins))) (v := .ref a) S4 hN hi (.inl hln) rfl (fun s5 S5 => ?_) (.inr hln)
          refine wpAny_mono ((hsu a oe4 cls d _ hz4 hd4).run [] s5 _ H' _ S5 (hyes rfl a na hlt)) (fun f s6 hsp => ?_) fun _ _ z => z.elim
          cases f with
          | ret u =>
            obtain ⟨v6, σ6, H6, S6, r6, q6⟩ := hsp
            exact gone_ok (S6.unsuite ok) hN hi hln fun s7 J7 => ⟨v6, _, H6, J7, r6, q6⟩
          | _ =>
            obtain ⟨σ6, H6, S6, q6⟩ := hsp
            exact gone_ok (S6.unsuite ok) hN hi hln fun s7 J7 => ⟨_, H6, J7, q6⟩
    exact go _ _ hh w
  refine wpAny_Try_except (wpAny_mono ((hb (wMix X.K Wout D l) (X.pn ++ pins) xe catches PassesOwn.looking).run [] s σ H D (I.toTry _) h) (fun f s1 hsp => ?_) fun e s1 he => he)
  cases f with
  | next =>
    obtain ⟨σ', H', J', q⟩ := hsp
    exact wpAny_execs_nil ⟨σ', H', J'.ofTry ok, q⟩
  | ret u =>
    obtain ⟨v, σ', H', J', r, q⟩ := hsp
    exact ⟨v, σ', H', J'.ofTry ok, r, q⟩
  | _ =>
    obtain ⟨σ', H', J', q⟩ := hsp
    exact ⟨σ', H', J'.ofTry ok, q⟩
end
end Ev
set_option maxHeartbeats 2000000
/-! Ev, part P: a lambda handed to a def that tells how its call ends. -/
namespace Ev
open PySem PySem.Spec PyProof.Rows L2 LamX

/-- what is made of a text -/
inductive Sh where
  | one | t0 | t1 (b : Str)
def Sh.d (s : Str) : Sh → D
  | .one => .str s
  | .t0 => .tup [.str s]
  | .t1 b => .tup [.str b, .str s]
structure Hdl where
  c : Nat
  sh : Sh
  txt : Str
  named : Bool
def reprD : D → Option Str
  | .int i => if i.natAbs.log2 < 1920 then some (toString i) else none
  | _ => none
def joinT (a b : Str) : Option Str := if a.length + b.length ≤ sizeLine then some (a ++ b) else none
def hdlD (h : Hdl) (x : Xn) : Option D := if h.named = true then (if x.c = h.c then ((x.p.bind reprD).bind (joinT h.txt)).map fun s => h.sh.d s else none) else some (h.sh.d h.txt)
def clausesD (sub : Nat → Nat → Bool) : List Hdl → Xn → Option D
  | [], _ => none
  | h :: hs, x => if sub x.c h.c = true then hdlD h x else clausesD sub hs x
def mMet (exs : List Nat) (sub : Nat → Nat → Bool) (hs : List Hdl) (fsh : Sh) (ftxt : Str) (body : M) : M := fun r => match body r with
  | .ok _ r1 => .ok (.val (fsh.d ftxt)) r1
  | .exn x r1 => if exs.contains x.c = true then opt ((clausesD sub hs x).map Opd.val) r1 else .stuck
  | .stuck => .stuck

/-! ### readings -/
def tSh (sh : Sh) (te : TE) : TE := match sh with
  | .one => te
  | .t0 => tTup (tCons te tNil)
  | .t1 b => tTup (tCons (tC (.str b)) (tCons te tNil))
inductive ShE : Sh → Expr → Expr → Prop
  | one (e : Expr) : ShE .one e e
  | t0 (e : Expr) (k : Nat) (pos : Pos) : ShE .t0 e (.Tuple [e] k pos)
  | t1 (b : Str) (e : Expr) (j : Nat) (p : Pos) (k : Nat) (pos : Pos) : ShE (.t1 b) e (.Tuple [.Constant (.str b) j p, e] k pos)
abbrev rRepr : List V → Hp → VK → Prop := fun xs H Q => ∃ i, xs = [.int i] ∧ i.natAbs.log2 < 1920 ∧ Q (.str (toString i)) H
abbrev rCatS : R2 := fun x y H Q => ∃ i j, x = .str i ∧ y = .str j ∧ i.length + j.length ≤ sizeLine ∧ Q (.str (i ++ j)) H
/-- the reading of what a naming clause tells: i is the slot of the name -/
def tTold (a : Addr) (cls : Value) (d : Option Addr) (C : Addr) (f txt : Str) (i : Nat) : TE := tOp rCatS (tC (.str txt)) (tCB rRepr (tCons (tXf a cls d C f (tVar i)) tNil))
section
variable {X : Cx}
theorem PE_sh {sh : Sh} {e e' : Expr} {te : TE} (h : ShE sh e e') (he : PE X e te) (hs : starEach [e] X.env = (false, eval e X.env) :: starEach [] X.env) : PE X e' (tSh sh te) := by
  cases h with
  | one e => exact he
  | t0 e k pos => exact pe_tup (pa_cons he pa_nil hs)
  | t1 b e j p k pos => exact pe_tup (pa_cons pe_str (pa_cons he pa_nil hs) (by rfl))
/-- txt + repr(err.f) -/
theorem PE_told {a C : Addr} {oe : Obj} {cls : Value} {d : Option Addr} {pn : List (Addr × Obj)} {f txt n : Str} {i j : Nat} {p1 p2 p3 p4 p5 p6 : Pos} (T : XfC X.K C) (hno : PySem.W.findIn X.K (.ref C) f = some none) (hz : Zc cls d oe) (hf : ∃ vs, oe.data = .fields vs)
    (hN : X.N[i]? = some n) (hv : Vis X.env.scope n) (hd : (n == ("__debug__" : Str)) = false) (hcd : (n == ("__classdict__" : Str)) = false) (hg : Gl X "repr") (hm : X.mg "repr" = none)
    (hb : attributeBase (.Name n p1) f X.env (eval (.Name n p1) X.env) = eval (.Name n p1) X.env) :
    PE (X.suite a ((a, oe) :: pn)) (.BinOp (.Constant (.str txt) j p2) .Add (.Call (.Name "repr" p3) [.Attribute (.Name n p1) f p4] [] p5) p6) (tTold a cls d C f txt i) := by
  refine pe_op op_add_str pe_str (pe_callB (id := "repr") SkE.call_repr_int hg hm (by decide +kernel) (pa_cons (pe_xf T hno hz hf (pe_var hN hv hd hcd) hb) pa_nil ?_) (by decide) (by decide) ?_ ?_)
  · rfl
  · rfl
  · rfl
end
/-! ### the clauses of such a def -/
structure HdS where
  cC : Value
  sh : Sh
  txt : Str
  named : Option (Addr × Str × Nat)
def HdS.cl (h : HdS) : Cl := match h.named with
  | none => .plain h.cC fun _ _ _ D σ H => tSh h.sh (tC (.str h.txt)) σ H D.rt
  | some (C, f, i) => .named h.cC i fun a cls d D σ H => tSh h.sh (tTold a cls d C f h.txt i) σ H D.rt
/-- what each clause asks of what it caught -/
def askH (K : PySem.W.Frag) : List HdS → Value → Option Addr → Hp → VK → Prop
  | [], _, _, _, _ => False
  | h :: r, cls, d, H, Q => ∃ b, PySem.W.exmOne K cls h.cC = some b ∧ (b = true → match h.named with
      | none => ∀ σ : L2.St, tSh h.sh (tC (.str h.txt)) σ H Q
      | some (C, f, i) => ∀ (a : Addr) (σ : L2.St), i < σ.length → tSh h.sh (tTold a cls d C f h.txt i) (σ.set i (some (.ref a))) H Q) ∧ (b = false → askH K r cls d H Q)
/-- what the def makes of the lambda's reading -/
def TTmet (K : PySem.W.Frag) (hs : List HdS) (fsh : Sh) (ftxt : Str) : (XK → Hp → VK → Prop) → Hp → VK → Prop := fun tl H Q => tl (fun cls d H' => askH K hs cls d H' Q) H (fun _ H' => tSh fsh (tC (.str ftxt)) [] H' Q)
theorem askH_wMix {K : PySem.W.Frag} {D : Ends} {cls : Value} {d : Option Addr} {σ : L2.St} {H : Hp} : ∀ {hs : List HdS}, askH K hs cls d H D.rt → wMix K (fun _ _ _ _ => False) D (hs.map HdS.cl) cls d σ H
  | [], h => h
  | h :: r, ⟨b, h1, h2, h3⟩ => by
    have rest : b = false → wMix K (fun _ _ _ _ => False) D (r.map HdS.cl) cls d σ H := fun hb => askH_wMix (h3 hb)
    obtain ⟨cC, sh, txt, named⟩ := h
    cases named with
    | none => exact ⟨b, h1, fun hb a _ => h2 hb σ, rest⟩
    | some q =>
      obtain ⟨C, f, i⟩ := q
      exact ⟨b, h1, fun hb a _ hl => h2 hb a σ hl, rest⟩
section
variable {X : Cx}
/-- try: a() / except ..: return .. / return .. -/
theorem met_gives {Ng : List Str} {x a q : Str} {sg : Scope} {g : Addr} {cdg : Value} {h₀ : ExceptHandler} {hds : List ExceptHandler} {hs : List HdS} {fsh : Sh} {ftxt : Str} {fe : Expr} {fj : Nat} {fp p1 p2 p3 p4 p5 : Pos} (h0 : ∀ f : Addr, (L2.start Ng [V.ref f])[0]? = some (some (V.ref f))) 
    (hcl : ∀ (s : Shared) (H : Hp), ClsOk (cxOf C8.CX0 X.prog X.w X.K X.mg X.base Ng x sg g cdg X.A X.stack s H C8.E0).nox (h₀ :: hds) (hs.map HdS.cl)) (hfe : ShE fsh (.Constant (.str ftxt) fj fp) fe) :
    GivesTo X Ng x sg g cdg [.Try [.Expr (.Call (.Name a p1) [] [] p2) p3] (h₀ :: hds) [] [] p4, .Return (some fe) p5] a q (TTmet X.K hs fsh ftxt) := by
  intro f c' s H Q tl act hc h
  refine ⟨_, pss_cons (ps_try_mix (X := (cxOf C8.CX0 X.prog X.w X.K X.mg X.base Ng x sg g cdg X.A X.stack s H C8.E0).nox)
      (tb := fun W D σ H => ∃ Ech : XK, (∀ cls d σ' H', Ech cls d H' → W cls d σ' H') ∧ σ[0]? = some (some (.ref f)) ∧ H c' = some (CodeO c' q) ∧ tl Ech H (fun _ H' => D.nx σ H'))
      rfl rfl takes0 (fun W pn xe tk _ => ?_) (hcl s H)) (pss_one (ps_ret (PE_sh hfe pe_str (by rfl)))), ?_⟩
  · refine ⟨fun pins s' σ H' D I h' => ?_⟩
    obtain ⟨Ech, hW, h1, h2, h3⟩ := h'
    exact (pss_one (ps_expr (pos := p3) (act W pn xe Ech p1 p2 tk hW) (by rfl))).run pins s' σ H' D I ⟨h1, h2, h3⟩
  · have e : ∀ (v : V) (H' : Hp), tSh fsh (tC (.str ftxt)) [] H' Q = tSh fsh (tC (.str ftxt)) (L2.start Ng [V.ref f]) H' Q := fun v H' => by cases fsh <;> rfl
    have e2 : (fun (v : V) (H' : Hp) => tSh fsh (tC (.str ftxt)) [] H' Q) = fun (v : V) (H' : Hp) => tSh fsh (tC (.str ftxt)) (L2.start Ng [V.ref f]) H' Q := by
      funext v H'
      exact e v H'
    unfold TTmet at h
    rw [e2] at h
    exact ⟨_, fun cls d σ' H' hq => askH_wMix hq, h0 f, hc, h⟩
end
/-! ### the Ev reading of such a call -/
/-- a clause and its reading -/
structure HRel (G : Gam) (h : Hdl) (s : HdS) : Prop where
  sh : s.sh = h.sh
  txt : s.txt = h.txt
  ex : ∃ C, G.clsA h.c = some C ∧ s.cC = .ref C ∧ ((h.named = false ∧ s.named = none) ∨ (h.named = true ∧ ∃ i, s.named = some (C, G.fldA h.c, i)))
inductive HRels (G : Gam) : List Hdl → List HdS → Prop
  | nil : HRels G [] []
  | cons {h : Hdl} {s : HdS} {hs : List Hdl} {ss : List HdS} (r : HRel G h s) (t : HRels G hs ss) : HRels G (h :: hs) (s :: ss)
section
variable {G : Gam} {pn : Option Addr} {W : WX} {B F F' H H' : Hp} {σ : L2.St} {r : Rho}
theorem Sta.ext {T : List (Addr × Str)} (hT : ∀ H, Tabs T H → G.inv H) (s : Sta G pn B F H σ r) (e : ExtN H H') (t : Tabs T H') : Sta G pn B F H' σ r := by
  have key : ∀ {b : Addr} {o : HO}, H b = some o → isT (some o) = false → H' b = some o := fun {b o} h n => e b o h fun ps z => by
    subst z
    cases n
  refine ⟨fun b o h => key (s.bH b o h) (by rw [← h]; exact s.kp.nB b), fun b o h => key (s.fH b o h) (by rw [← h]; exact s.kp.nF b), ⟨s.kp.nB, s.kp.nF, hT _ t⟩, s.len, s.val, fun i d h => ?_, s.dis, s.pin⟩
  obtain ⟨a, ha, o⟩ := s.own i d h
  cases o with
  | lst xs ds hb hf hh rr => exact ⟨a, ha, .lst xs ds hb hf (key hh rfl) rr⟩
/-- what is made of a text, at the end -/
theorem sh_end {sh : Sh} {txt : Str} {Q : VK} (s : Sta G pn B F H σ r) (p : ∀ (v : V) (F' H' : Hp), Same F F' → NewO B F F' → Sta G pn B F' H' σ r → Rep G F' v (sh.d txt) → Q v H') {te : TE} {σ' : L2.St} (hte : ∀ Q', Q' (.str txt) H → te σ' H Q') : tSh sh te σ' H Q := by
  have h2 : 2 ≤ sizeLine := by rw [sizeLine_eq]; omega
  have tupQ : ∀ (xs : List V) (ds : List D), sh.d txt = .tup ds → Reps G F xs ds → ∀ a, H a = none → Q (.ref a) (upd H a (.tup xs)) := fun xs ds e rr a ha => by
    have hf : F a = none := s.fH.free ha
    have s2 : Sta G pn B (upd F a (.tup xs)) (upd H a (.tup xs)) σ r := s.grow (same_upd hf) (same_upd ha) (same_both s.fH) (NewO.upd ha) (s.kp.nF.upd rfl)
    refine p (.ref a) _ _ (same_upd hf) (NewO.upd (s.bH.free ha)) s2 ?_
    rw [e]
    exact .tup a xs ds (SqT.of upd_same) (rr.mono (same_upd hf))
  cases sh with
  | one => exact hte _ (p (.str txt) F H (Same.refl _) (NewO.refl _ _) s (.str txt))
  | t0 => exact hte _ ⟨by show 1 ≤ sizeLine; omega, fun a ha => tupQ _ [.str txt] rfl (.one (.str txt)) a ha⟩
  | t1 b => exact hte _ ⟨h2, fun a ha => tupQ _ [.str b, .str txt] rfl (.two (.str b) (.str txt)) a ha⟩
theorem ask_ok {sub : Nat → Nat → Bool} {x : Xn} {cls : Value} {d : Option Addr} {dd : D} {Q : VK} (s : Sta G pn B F H σ r) (ex : ExnR G F H x cls d)
    (p : ∀ (v : V) (F' H' : Hp), Same F F' → NewO B F F' → Sta G pn B F' H' σ r → Rep G F' v dd → Q v H') : ∀ {hs : List Hdl} {ss : List HdS}, HRels G hs ss → (∀ h ∈ hs, ∀ C Cx, G.clsA h.c = some C → G.clsA x.c = some Cx → PySem.W.exmOne G.K (.ref Cx) (.ref C) = some (sub x.c h.c)) →
    clausesD sub hs x = some dd → askH G.K ss cls d H Q
  | _, _, .nil, _, e => by cases e
  | _, _, .cons (h := h) (s := hS) (hs := hs) (ss := ss) q t, hx, e => by
    obtain ⟨⟨Cx, hCx, rfl⟩, pay⟩ := ex
    have ex' : ExnR G F H x (.ref Cx) d := ⟨⟨Cx, hCx, rfl⟩, pay⟩
    obtain ⟨qs, qt, C, hC, hcC, qn⟩ := q
    have hb := hx h List.mem_cons_self C Cx hC hCx
    refine ⟨sub x.c h.c, by rw [hcC]; exact hb, fun hb1 => ?_, fun hb0 => ?_⟩
    · have e : hdlD h x = some dd := by
        have e : (if sub x.c h.c = true then hdlD h x else clausesD sub hs x) = some dd := e
        rw [if_pos hb1] at e
        exact e
      unfold hdlD at e
      rcases qn with ⟨n1, n2⟩ | ⟨n1, i, n2⟩
      · rw [n1, if_neg Bool.false_ne_true] at e
        cases e
        rw [n2]
        intro σ'
        rw [qs, qt]
        exact sh_end s p fun Q' q => q
      · rw [n1, if_pos rfl] at e
        split at e
        · rename_i hcc
          rw [n2]
          intro a σ' hi
          rw [qs, qt]
          cases q1 : x.p with
          | none => rw [q1] at e; cases e
          | some pd =>
            rw [q1] at e pay
            have e : (((reprD pd).bind (joinT h.txt)).map fun s => h.sh.d s) = some dd := e
            obtain ⟨da, v, rfl, hdd, hv⟩ := pay
            cases pd with
            | int n =>
              have e : (((if n.natAbs.log2 < 1920 then some (toString n) else none : Option Str).bind (joinT h.txt)).map fun s => h.sh.d s) = some dd := e
              split at e
              · rename_i hlog
                have e : (joinT h.txt (toString n)).map (fun s => h.sh.d s) = some dd := e
                unfold joinT at e
                split at e
                · rename_i hlen
                  cases e
                  cases hv
                  have hCC : Cx = C := by
                    rw [hcc, hC] at hCx
                    exact (Option.some.inj hCx).symm
                  subst hCC
                  refine sh_end s p fun Q' q => ?_
                  refine ⟨.ref a, List.getElem?_set_self hi, rfl, rfl, da, [(G.fldA x.c, V.int n)], V.int n, rfl, hdd, ?_, n, rfl, hlog, _, _, rfl, rfl, hlen, q⟩
                  rw [hcc, List.lookup_cons, beq_self_eq_true]
                · cases e
              · cases e
            | _ => cases e
        · cases e
    · refine ask_ok s ex' p t (fun h' hm => hx h' (List.mem_cons_of_mem _ hm)) ?_
      have e : (if sub x.c h.c = true then hdlD h x else clausesD sub hs x) = some dd := e
      rw [hb0, if_neg Bool.false_ne_true] at e
      exact e
theorem tM_lam {T : List (Addr × Str)} {exs : List Nat} {sub : Nat → Nat → Bool} {hs : List Hdl} {ss : List HdS} {fsh : Sh} {ftxt : Str} {body : M} {Q : VK} (hT : ∀ H, Tabs T H → G.inv H) (hT2 : ∀ H, G.inv H → Tabs T H) (hr : HRels G hs ss)
    (hx : ∀ c ∈ exs, ∀ h ∈ hs, ∀ C Cx, G.clsA h.c = some C → G.clsA c = some Cx → PySem.W.exmOne G.K (.ref Cx) (.ref C) = some (sub c h.c))
    (h : tM G pn W (mMet exs sub hs fsh ftxt body) σ H Q) : tLam T (TTmet G.K ss fsh ftxt) (fun E => tM G pn (fun cls d _ H => E cls d H) body) σ H Q := by
  obtain ⟨B, F, r, s, p⟩ := h
  refine ⟨hT2 _ s.kp.iv, fun H1 eN T1 => ⟨B, F, r, s.ext hT eN T1, ?_⟩⟩
  unfold mMet at p
  revert p
  cases body r with
  | stuck => exact id
  | ok o r1 =>
    intro p v F1 H2 e1 n1 s1 o1
    exact sh_end s1 (fun v F' H' e n st rr => p v F' H' (e1.trans e) (n1.trans n) st rr) fun Q' q => q
  | exn x r1 =>
    intro p cls d F1 H2 e1 n1 s1 x1
    simp only at p
    split at p
    · rename_i hc
      cases q : clausesD sub hs x with
      | none => rw [q] at p; exact p.elim
      | some dd =>
        rw [q] at p
        exact ask_ok s1 x1 (fun v F' H' e n st rr => p v F' H' (e1.trans e) (n1.trans n) st rr) hr (hx x.c (by simpa using hc)) q
    · exact p.elim
end
end Ev
set_option maxHeartbeats 2000000
/-! Ev, part Q: bit_length, t[::-1], sorted(.., reverse=True), enumerate, zip, least and greatest pairs. -/
namespace Ev
open PySem PySem.Spec PyProof.Rows L2

section
variable {G : Gam} {pn : Option Addr} {W : WX} {X : Cx} {B F F' H H' : Hp} {σ : L2.St} {r : Rho}
/-! ### x.bit_length() -/
def pBits : D → Option Opd
  | .int i => some (.val (.int (Builtin.Int.intBits i : Nat)))
  | _ => none
theorem PE_bits {o : Expr} {m : M} {apos pos : Pos} (ho : PE X o (tM G pn W m)) (hbase : attributeBase o "bit_length" X.env (eval o X.env) = eval o X.env) (hline : (apos.endLine == pos.line) = true) : PE X (.Call (.Attribute o "bit_length" apos) [] [] pos) (tM G pn W (mOp (one pBits) [m])) := by
  refine PE.imp (pe_bits ho hbase hline) fun σ H Q h => ?_
  have hop : Op1 G (fun x H Q => ∃ i, x = .int i ∧ Q (.int (Builtin.Int.intBits i : Nat)) H) pBits := by
    intro F H x d o Q s rx e fin
    cases d with
    | int i => cases e; exact ⟨i, rx.int, fin.val s (.int _)⟩
    | _ => cases e
  refine tM_mono (op1 hop.ops h) fun x H1 ⟨y, ey, q⟩ => ?_
  cases ey
  exact q

/-! ### t[::-1] -/
def pRev : D → Option Opd
  | .tup xs => if xs.length ≤ sizeLine then some (.val (.tup xs.reverse)) else none
  | .lst xs => some (.fresh (.lst xs.reverse))
  | _ => none
theorem rev_places (n : Nat) : Builtin.Slice.slicePlaces ((n : Int) - 1) (-1) (-1) = n := by
  unfold Builtin.Slice.slicePlaces
  rw [if_neg (by decide)]
  by_cases h : (n : Int) - 1 > -1
  · rw [if_pos h]
    have : ((n : Int) - 1 - -1 - 1) / (- -1) = (n : Int) - 1 := by
      rw [show (- -1 : Int) = 1 by decide, Int.ediv_one]
      omega
    rw [this]
    omega
  · rw [if_neg h]
    omega
theorem fm_congr {α β : Type} {f g : α → Option β} : ∀ {l : List α}, (∀ a ∈ l, f a = g a) → l.filterMap f = l.filterMap g
  | [], _ => rfl
  | a :: l, h => by
    rw [List.filterMap_cons, List.filterMap_cons, h a List.mem_cons_self, fm_congr fun b hb => h b (List.mem_cons_of_mem _ hb)]
theorem rev_pick (xs : Array Value) : ((List.range xs.size).filterMap fun (k : Nat) => xs[((xs.size : Int) - 1 + (k : Int) * (-1)).toNat]?).toArray = xs.toList.reverse.toArray := by
  have e : ((List.range xs.size).filterMap fun (k : Nat) => xs[((xs.size : Int) - 1 + (k : Int) * (-1)).toNat]?) = ((List.range xs.size).map fun k => xs.size - 1 - k).filterMap (xs[·]?) := by
    rw [List.filterMap_map]
    apply fm_congr
    intro k hk
    have := List.mem_range.mp hk
    have e : ((xs.size : Int) - 1 + (k : Int) * (-1)).toNat = xs.size - 1 - k := by omega
    show xs[((xs.size : Int) - 1 + (k : Int) * (-1)).toNat]? = xs[xs.size - 1 - k]?
    rw [e]
  rw [e, PySem.W.krv_range, List.filterMap_reverse, PySem.W.krv_all]
theorem getItem_tup_rev {prog : Program} {w : World} {A : Around} {E : Value → Shared → Prop} {s : Shared} {t sl : Addr} {items : Array Value} {vs : Value} {Q : Value → Shared → Prop} (ht : IsTup s.heap t items) (hs : s.heap.IsSliceOf sl .none .none vs) (ps : IsPart vs (some (-1)))
    (h : Q (.ref s.heap.objs.size) { s with heap := s.heap.push { cls := .type "tuple", data := .seq items.toList.reverse.toArray } }) (hsz : items.size ≤ sizeLine) : wpAny (model prog w) A (getItem (.ref t) (.ref sl)) Q E s := by
  have hso : sizeOk (.seq items.toList.reverse.toArray) := by
    show items.toList.reverse.toArray.size ≤ sizeLine
    rw [List.size_toArray, List.length_reverse, Array.length_toList]
    exact hsz
  obtain ⟨os, hos, hcs, hds⟩ := id hs
  have hT : s.TypeIs (.ref sl) "slice" := ⟨os, hos, hcs⟩
  have applied : ∀ {A : Around} {E : Value → Shared → Prop} {Q : Int × Int × Nat → Shared → Prop}, Q ((items.size : Int) - 1, -1, items.size) s → wpAny (model prog w) A (Builtin.Slice.sliceApplied (.ref sl) (pure (items.size : Int))) Q E s := by
    intro A E Q q
    unfold Builtin.Slice.sliceApplied Builtin.Slice.sliceFields
    refine wpAny_bind (wpAny_bind (wpAny_field hos hds (x := Value.none) rfl (wpAny_bind (wpAny_field hos hds (x := Value.none) rfl (wpAny_bind (wpAny_field hos hds (x := vs) rfl (wpAny_pure ?_)))))))
    refine wpAny_bind (HT.slicePart_ ps ?_)
    show wpAny _ _ (if ((-1 : Int) == 0) = true then _ else _) _ _ s
    rw [if_neg (by decide)]
    refine wpAny_bind (slicePart_none (wpAny_bind (slicePart_none (wpAny_bind (wpAny_pure ?_)))))
    show wpAny _ _ (pure ((items.size : Int) - 1, (-1 : Int), Builtin.Slice.slicePlaces ((items.size : Int) - 1) (-1) (-1))) _ _ s
    rw [rev_places]
    exact wpAny_pure q
  unfold getItem
  try with_reducible refine wpAny_holding ?_
  first | refine wpAny_bind (wpAny_pure ?_) | skip
  refine wpAny_bind (wpAny_sequenceKey ht.typeIs (by decide) ?_)
  refine wpAny_bind (wpAny_callSpecial?_slot (name := Str.ofString "__getitem__") ht.typeIs PyProof.Rows.slot_tuple_getitem (wpAny_call_entry PyProof.Rows.slot_tuple_getitem ht.typeIs PyProof.Rows.entry_tuple_getitem ?_ (PyProof.Rows.args_tuple_getitem _ _)))
  show wpAny _ _ (Builtin.Tuple.tupleItemsOf (.ref t) >>= _) _ _ s
  refine wpAny_bind (PyProof.Rows.tupleItemsOf_ ht (wpAny_bind (wpAny_typeOf hT ?_)))
  rw [if_pos (by decide)]
  refine wpAny_bind (applied ?_)
  show wpAny _ _ (if ((items.size : Int) - 1 == 0 && (-1 : Int) == 1 && items.size == items.size) = true then _ else _) _ _ s
  rw [if_neg (by simp), rev_pick]
  first
    | exact wpAny_bind (m := Builtin.Tuple.tupleExact _) (wpAny_newObj_type (wpAny_pure ⟨_, rfl, wpAny_pure h⟩) hso)
    | exact wpAny_bind (wpAny_bind (m := Builtin.Tuple.tupleExact _) (wpAny_newObj_type (wpAny_pure (wpAny_pure ⟨_, rfl, wpAny_pure h⟩)) hso))
def tRevT (K : PySem.W.Frag) (te : TE) : TE := fun σ H Q => te σ H fun x H1 => ∃ a xs, x = .ref a ∧ SqT K H1 a xs ∧ xs.length ≤ sizeLine ∧ ∀ p, H1 p = none → Q (.ref p) (upd H1 p (.tup xs.reverse))
theorem pe_revT {e : Expr} {te : TE} {k : Nat} {p1 p2 p3 pos : Pos} (he : PE X e te) : PE X (.Subscript e (.Slice none none (some (.UnaryOp .USub (.Constant (.int 1) k p1) p2)) p3) pos) (tRevT X.K te) := by
  constructor
  intro pins s σ H Q I h
  refine Subscript_ (thn (he.run pins s σ H _ I h) fun v s1 ⟨x, H1, I1, r1, a, xs, ex, hx, hsz, q⟩ => ?_)
  subst ex
  cases r1
  have hst : PO X (some (.UnaryOp .USub (.Constant (.int 1) k p1) p2)) (tPart (tUn (rU fun i => .int (-i)) (tC (.int 1)))) := po_some (pe_un un_neg pe_int)
  refine wpAny_Slice (thn (po_none.run pins s1 σ H1 (fun o H2 => o = none ∧ H2 = H1) I1 ⟨rfl, rfl⟩) fun vl s2 ⟨l, H2, I2, pl, el, e2⟩ => ?_)
  subst el e2
  refine thn (po_none.run pins s2 σ H2 (fun o H3 => o = none ∧ H3 = H2) I2 ⟨rfl, rfl⟩) fun vu s3 ⟨u, H3, I3, pu, eu, e3⟩ => ?_
  subst eu e3
  refine thn (hst.run pins s3 σ H3 (fun o H4 => o = some (-1) ∧ H4 = H3) I3 ⟨1, rfl, -1, rfl, rfl, rfl⟩) fun vs s4 ⟨o, H4, I4, ps, eo, e4⟩ => ?_
  subst eo e4
  have I5 : Inv X pins σ H4 { s4 with heap := s4.heap.push { cls := .type "slice", data := .fields #[vl, vu, vs] } } := I4.kept (t' := s4.toks) fun b ob q => Heap.get?_push_of_some _ q
  obtain ⟨its, rr, ht, hz⟩ := I5.tuple hx
  cases pl
  cases pu
  show wpAny _ _ (subscriptTail e (.Slice none none (some (.UnaryOp .USub (.Constant (.int 1) k p1) p2)) p3) (.ref a) (.ref s4.heap.objs.size)) _ _ _
  refine tail_any (ops := [.ref a, .ref s4.heap.objs.size]) ht.typeIs PyProof.Rows.slot_tuple_getitem.lookup ?_ (by with_unfolding_all rfl)
  refine getItem_tup_rev ht (Heap.IsSliceOf.new _ _ _ vs) ps ?_ (by rw [List.size_toArray, ← rr.length]; exact hsz)
  refine ⟨.ref _, _, I5.laid (t' := s4.toks) (o := .tup xs.reverse) (fun b ob q => Heap.get?_push_of_some _ q) (Nat.le_refl _) ?_, rfl, q _ (I5.hok.fresh (Nat.le_refl _))⟩
  exact ⟨by rw [List.length_reverse]; exact hsz, _, rr.reverse, IsTup.new _ _⟩
theorem PE_either {e : Expr} {t t' : TE} (h : PE X e t) (h' : PE X e t') : PE X e fun σ H Q => t σ H Q ∨ t' σ H Q := ⟨fun pins s σ H Q I q => by
  rcases q with q | q
  · exact h.run pins s σ H Q I q
  · exact h'.run pins s σ H Q I q⟩
def mRev (m : M) : M := fun r => bindR (m r) fun o r1 => opt ((peek r1 o).bind pRev) r1
theorem tM_rev {m : M} {Q : VK} (h : tM G pn W (mRev m) σ H Q) : tRevL G.K (tM G pn W m) σ H Q ∨ tRevT G.K (tM G pn W m) σ H Q := by
  obtain ⟨B, F, r, s, p⟩ := h
  unfold mRev at p
  cases e : m r with
  | stuck => rw [e] at p; exact p.elim
  | exn x r1 =>
    rw [e] at p
    refine .inl ⟨B, F, r, s, ?_⟩
    rw [e]
    exact p
  | ok o r1 =>
    rw [e] at p
    replace p : PostE G pn W B F σ Q (opt ((peek r1 o).bind pRev) r1) := p
    cases q : peek r1 o with
    | none => rw [q] at p; exact p.elim
    | some d =>
      rw [q] at p
      replace p : PostE G pn W B F σ Q (opt (pRev d) r1) := p
      have fin : ∀ {o2 : Opd} {F1 H1 : Hp}, pRev d = some o2 → Same F F1 → NewO B F F1 → Sta G pn B F1 H1 σ r1 → Fin G F1 H1 o2 Q := fun {o2 F1 H1} e2 e1 n1 s1 => by
        rw [e2] at p
        exact s1.fin fun v F' H' e n st oo => p v F' H' (e1.trans e) (n1.trans n) st oo
      cases d with
      | tup xs =>
        refine .inr ⟨B, F, r, s, ?_⟩
        rw [e]
        intro v F1 H1 e1 n1 s1 o1
        obtain ⟨a, vs, rfl, h1, h2⟩ := (s1.peek o1 q).tup
        by_cases hsz : xs.length ≤ sizeLine
        · have e2 : pRev (.tup xs) = some (.val (.tup xs.reverse)) := by show (if xs.length ≤ sizeLine then _ else _) = _; rw [if_pos hsz]
          exact ⟨a, vs, rfl, sqt_mono s1.fH h1, by rw [h2.length]; exact hsz, fun l hl => (fin e2 e1 n1 s1).tup s1.fH h2.reverse hl⟩
        · have e2 : pRev (.tup xs) = none := by show (if xs.length ≤ sizeLine then _ else _) = _; rw [if_neg hsz]
          rw [e2] at p
          exact p.elim
      | lst xs =>
        refine .inl ⟨B, F, r, s, ?_⟩
        rw [e]
        intro v F1 H1 e1 n1 s1 o1
        obtain ⟨a, vs, rfl, h1, h2⟩ := (s1.peek o1 q).lst s1.fH
        exact ⟨a, vs, rfl, SqL.of h1, fun l hl => (fin rfl e1 n1 s1).lst s1.fH h2.reverse hl⟩
      | _ => exact p.elim
theorem PE_rev {e : Expr} {m : M} {k : Nat} {p1 p2 p3 pos : Pos} (hK : X.K = G.K) (he : PE X e (tM G pn W m)) : PE X (.Subscript e (.Slice none none (some (.UnaryOp .USub (.Constant (.int 1) k p1) p2)) p3) pos) (tM G pn W (mRev m)) :=
  PE.imp (PE_either (pe_revL he) (pe_revT he)) fun σ H Q h => by rw [hK]; exact tM_rev h

/-! ### sorted(xs, reverse=True) -/
theorem PE_sortedR {e : Expr} {m : M} {x : Str} {kp kp2 p pos : Pos} {j : Nat} (hK : X.K = G.K) (hx : x = "sorted") (hg : Gl X x) (hm : X.mg x = none) (he : PE X e (tM G pn W m))
    (h1 : starEach [e] X.env = (false, eval e X.env) :: starEach [] X.env) (h2 : backTo pos (starEach [e] X.env) = (false, eval e X.env) :: backTo pos (starEach [] X.env)) (h3 : (backTo pos (starEach [e] X.env)).any (·.1) = false) :
    PE X (.Call (.Name x p) [e] [⟨some "reverse", .Constant (.bool true) j kp, kp2⟩] pos) (tM G pn W (mOp (one pSortedR) [m])) := by
  subst hx
  refine PE.imp (pe_callBK (id := "sorted") (cr_sortedRev (b := true)) hg hm (by decide +kernel) (pa_cons he pa_nil h1) (pk_cons pe_bl pk_nil) (by decide) (by decide) h2 h3 (by rfl) (by rfl) (by rfl)) fun σ H Q h => ?_
  refine tM_mono (op1 op_sortedR h) fun y H1 ⟨a, ns, ey, hs, q⟩ => ?_
  cases ey
  exact ⟨a, ns, rfl, rfl, by rw [hK]; exact hs, fun ns' l hp ho hl => q ns' l hp ho hl⟩
end
end Ev
set_option maxHeartbeats 2000000
/-! Ev, part R: enumerate of lists, tuples, texts; zip. -/
namespace Ev
open PySem PySem.Spec PyProof.Rows L2

theorem meets_enum1 {v : Value} {o : Obj} {H : Heap → Prop} (B : Begins v o H) : Meets (Builtin.«enumerate.__new__» ⟨[.type "enumerate", v], []⟩) (fun _ R s => H s.heap ∧ R (.ok (.ret (.ref (s.heap.push o).objs.size))) { s with heap := (s.heap.push o).push { cls := .type "enumerate", data := .fields #[.none, .bool false, .ref s.heap.objs.size, rawInt 0, .none, .none] } }) :=
  .of_wp fun prog w A R s h => by
    obtain ⟨hp, g, d, tk, os⟩ := s
    obtain ⟨h1, h⟩ := h
    have hsub := sub_enumerate
    have begins : ∀ {A' : Around} {E : Value → Shared → Prop} {Q : Value → Shared → Prop}, Q (.ref hp.objs.size) ⟨hp.push o, g, d, tk, os⟩ → wpAny (model prog w) A' (pyIter v) Q E ⟨hp, g, d, tk, os⟩ := fun q => B.iter prog w _ _ ⟨hp, g, d, tk, os⟩ _ h1 q
    wp_walk using begins
    refine wpAny_stack_any fun st => wpAny_pure ?_
    split
    · rename_i c _ _ _ _ _
      cases (c == Value.type "enumerate")
      all_goals
        wp_walk using begins
        exact ⟨_, rfl, h⟩
    · wp_walk using begins
      exact ⟨_, rfl, h⟩
theorem call_enum1 {prog : Program} {w : World} {A : Around} {E : Value → Shared → Prop} {s : Shared} {v : Value} {o : Obj} {H : Heap → Prop} {Q : Value → Shared → Prop} (B : Begins v o H) (h1 : H s.heap)
    (h : ∀ h', IsEnum h' (s.heap.objs.size + 1) s.heap.objs.size 0 .none → h'.get? s.heap.objs.size = some o → (∀ b o, s.heap.get? b = some o → h'.get? b = some o) → Q (.ref (s.heap.objs.size + 1)) { s with heap := h' }) : wpAny (model prog w) A (call (.type "enumerate") [v]) Q E s := by
  refine callType_new F.called_enumerate (by decide) (F.typeCall_enumerate_1 _) (F.newCall_enumerate_1 _) (fun obj => F.args_object_init_2 obj _) F.entry_enumerate_new (meets_enum1 B) ⟨h1, ?_⟩
  have hz : (s.heap.push o).objs.size = s.heap.objs.size + 1 := Heap.size_push ..
  show _ ∧ _
  rw [hz]
  have he : ((s.heap.push o).push { cls := .type "enumerate", data := .fields #[.none, .bool false, .ref s.heap.objs.size, rawInt 0, .none, .none] }).get? (s.heap.objs.size + 1) = some { cls := .type "enumerate", data := .fields #[.none, .bool false, .ref s.heap.objs.size, rawInt 0, .none, .none] } := by
    rw [← hz]
    exact Heap.get?_push_size _ rfl
  exact ⟨⟨_, he, rfl⟩, h _ he (Heap.get?_push_of_some _ (Heap.get?_push_size _ B.free)) fun b o x => Heap.get?_push_of_some _ (Heap.get?_push_of_some _ x)⟩

/-- what is walked inside: S holds of the heap, xs its items, it the iterator -/
structure ESrc (P : Program) (w : World) (K : PySem.W.Frag) (S : Hp → Prop) (xs : List V) (it : Addr) (tn : Nat → Heap → Prop) : Prop where
  obj : ∀ i h, tn i h → ∃ o, h.get? it = some o ∧ ∀ v, o.data ≠ .cell v
  keep : ∀ i h h', tn i h → (∀ o, h.get? it = some o → h'.get? it = some o) → tn i h'
  draws : ∀ (X : Cx), X.prog = P → X.w = w → X.K = K → ∀ (pins : List (Addr × Obj)) (σ : L2.St) (H : Hp) (s : Shared), Inv X pins σ H s → S H → ∀ i, tn i s.heap → ∀ A : Around, A.handled = none →
    ∃ (fp : List Addr) (Pp : Nat → Value → Prop) (St : Nat → Heap → Prop), Draws P w A it fp xs.length Pp St ∧ (∀ i, tn i s.heap → St i s.heap) ∧ (∀ i h', St i h' → tn i h') ∧ (∀ i u, Pp i u → ∃ x, xs[i]? = some x ∧ RelV x u) ∧ ∀ b ∈ fp, b = it ∨ ∃ o, s.heap.get? b = some o ∧ o.cls ≠ .type "enumerate"
def IteS (S : Hp → Prop) (xs : List V) : It := ⟨fun i H => i < xs.length ∧ S H, fun i H v H' => ∃ T x, v = .ref T ∧ H T = none ∧ H' = upd H T (.tup [.int (i : Nat), x]) ∧ xs[i]? = some x, fun i H => i = xs.length ∧ S H⟩
theorem walk_enumS {S : Hp → Prop} {xs : List V} : Walk (IteS S xs) xs.length S (YPair (fun i => some (.int (i : Nat))) (fun i => xs[i]?)) :=
  ⟨fun i _ hi q => ⟨hi, q⟩, fun _ q => ⟨rfl, q⟩, fun i H v H' _ q ⟨T, x, h1, h2, h3, h4⟩ => ⟨T, .int (i : Nat), x, h1, h2, h3, rfl, h4⟩⟩
theorem turn_enumS {P : Program} {w : World} {K : PySem.W.Frag} {elts : List Expr} {kk : Nat} {tpos : Pos} {S : Hp → Prop} {xs : List V} {e it : Addr} {tn : Nat → Heap → Prop} (C : ESrc P w K S xs it tn) :
    Turn P w K (.Tuple elts kk tpos) (IteS S xs) [e, it] e (fun i h => (∃ old, IsEnum h e it ((i : Nat) : Int) old) ∧ tn i h ∧ e ≠ it) where
  mem := by simp
  obj := fun i h st b hb => by
    obtain ⟨⟨old, he⟩, ht, _⟩ := st
    rcases (by simpa using hb : b = e ∨ b = it) with rfl | rfl
    · exact ⟨_, he, fun v q => nomatch q⟩
    · exact C.obj i h ht
  keep := fun i h h' st k => by
    obtain ⟨⟨old, he⟩, ht, hne⟩ := st
    exact ⟨⟨old, k e (by simp) _ he⟩, C.keep i h h' ht (k it (by simp)), hne⟩
  item := by
    intro X hP hw hKX hc i pins s σ H E I hf st hg
    obtain ⟨⟨old, he⟩, ht, hne⟩ := st
    obtain ⟨hi, hS⟩ := hg
    obtain ⟨fp, Pp, St, D, a1, a2, a3, a4⟩ := C.draws X hP hw hKX pins σ H s I hS _ ht X.A.in1 (I.ok.hd hc)
    subst hP hw hKX
    have hel : e < s.heap.objs.size := Heap.lt_size he
    obtain ⟨oi, hoi, _⟩ := C.obj i _ ht
    have hil : it < s.heap.objs.size := Heap.lt_size hoi
    have hef : e ∉ fp := fun z => by
      rcases a4 e z with z | ⟨o, z1, z2⟩
      · exact hne z
      · rw [show s.heap.get? e = some _ from he] at z1
        cases z1
        exact z2 rfl
    refine wpAny_pyNext_enum_itemD D he (a1 i ht) hi hne hef fun u h' tk hP ho st' hT hsz hk => ?_
    obtain ⟨x, hx, ru⟩ := a3 i u hP
    refine ⟨_, rfl, wpAny_letOwnedTupleGo_enum (s := { s with heap := h', toks := tk + 1 }) ho fun h'' he' sb => ?_⟩
    have hT2 : h''.get? s.heap.objs.size = some { cls := .type "tuple", data := .seq #[.int i tk, u] } := (sb.2 _ (Nat.ne_of_gt hel)).trans hT
    have new : ObjOk X.prog X.w (upd H s.heap.objs.size (.tup [.int (i : Nat), x])) h'' s.heap.objs.size (.tup [.int (i : Nat), x]) :=
      ⟨by show 2 ≤ sizeLine; decide, [.int i tk, u], .cons ⟨_, rfl⟩ (.cons ru .nil), ⟨_, hT2, rfl, _, rfl⟩⟩
    have I1 : Inv X pins σ (upd H s.heap.objs.size (.tup [.int (i : Nat), x])) { s with heap := h'', toks := tk + 1 } :=
      I.turnedNew (ch := [e, it]) (fun b ob hb q => (sb.2 b (fun z => hb (by simp [z]))).trans (hk b ob (fun z => hb (by simp [z])) (fun z => hb (by simp [z])) q)) hf (Nat.le_refl _) new
    refine ⟨.ref s.heap.objs.size, _, I1, rfl, ⟨_, x, rfl, I.hok.fresh (Nat.le_refl _), rfl, hx⟩, ⟨⟨u, ?_⟩, C.keep _ _ _ (a2 _ _ st') fun o q => (sb.2 it (Ne.symm hne)).trans q, hne⟩, fun b hb => ?_⟩
    · have e1 : ((i + 1 : Nat) : Int) = (i : Int) + 1 := by omega
      rw [e1]; exact he'
    · have hb' : b < s.heap.objs.size := by
        rcases (by simpa using hb : b = e ∨ b = it) with rfl | rfl
        · exact hel
        · exact hil
      rw [upd_ne (Nat.ne_of_lt hb')]
      exact (hf b hb).1
  done := by
    intro X hP hw hKX hc i pins s σ H E I hf st hg
    obtain ⟨⟨old, he⟩, ht, hne⟩ := st
    obtain ⟨rfl, hS⟩ := hg
    obtain ⟨fp, Pp, St, D, a1, a2, a3, a4⟩ := C.draws X hP hw hKX pins σ H s I hS _ ht X.A.in1 (I.ok.hd hc)
    subst hP hw hKX
    obtain ⟨f0, f1, f2, f3, f4, f5⟩ := hf it (by simp)
    exact wpAny_pyNext_enum_endD D he (a1 _ ht) fun h' eb => ⟨rfl, I.turned (t' := s.toks) (fun b o hb q => eb b o hb q) f0 f1 f3 f4 f5⟩
  self := fun A i s Q E st h => by
    obtain ⟨⟨_, he⟩, _⟩ := st
    exact wpAny_pyIter_enum he h
def chars (z : Str) : List V := z.cps.toList.map fun c => V.str ⟨#[c]⟩
theorem rel_at {xs : List V} {its : List Value} (rv : Vals xs its) {i : Nat} {u : Value} (h : its.toArray[i]? = some u) : ∃ x, xs[i]? = some x ∧ RelV x u := by
  have hi : i < its.length := by
    have := (Array.getElem?_eq_some_iff.mp h).1
    simpa using this
  have hx : i < xs.length := by rw [rv.length]; exact hi
  obtain ⟨u', hu, ru⟩ := rv.get (List.getElem?_eq_getElem hx)
  refine ⟨_, List.getElem?_eq_getElem hx, ?_⟩
  have : its[i]? = some u := by simpa using h
  rw [this] at hu
  cases hu
  exact ru
section
variable {P : Program} {w : World} {K : PySem.W.Frag} {a it : Addr} {xs : List V}
theorem src_list : ESrc P w K (fun H => SqL K H a xs) xs it (fun i h => h.IsListIter it a i) where
  obj := fun i h st => by
    obtain ⟨o, ho, hc, hd⟩ := st
    exact ⟨o, ho, fun v q => by rw [hd] at q; cases q⟩
  keep := fun i h h' st k => st.at k
  draws := fun X hP hw hKX pins σ H s I hS i ht A hh => by
    subst hP hw hKX
    obtain ⟨its, rv, p, hz⟩ := I.list hS
    obtain ⟨oi, hoi, hci, hdi⟩ := id ht
    obtain ⟨ol, hol, hcl, rest⟩ := id p.isList
    have hne : a ≠ it := fun z => by
      subst z
      rw [hoi] at hol
      cases hol
      rw [hci] at hcl
      exact absurd hcl (by decide +kernel)
    have hla : its.toArray.size = xs.length := by rw [List.size_toArray]; exact rv.length.symm
    refine ⟨[it, a], _, _, hla ▸ Draws.list hh it a hne its.toArray, fun j hj => ⟨hj, p.isList⟩, fun j h' hj => hj.1, fun j u hu => rel_at rv hu, fun b hb => ?_⟩
    rcases (by simpa using hb : b = it ∨ b = a) with rfl | rfl
    · exact .inl rfl
    · exact .inr ⟨_, hol, by rw [hcl]; decide +kernel⟩
theorem src_tup : ESrc P w K (fun H => SqT K H a xs) xs it (fun i h => h.IsTupleIter it a i) where
  obj := fun i h st => by
    obtain ⟨o, ho, hc, hd⟩ := st
    exact ⟨o, ho, fun v q => by rw [hd] at q; cases q⟩
  keep := fun i h h' st k => st.at k
  draws := fun X hP hw hKX pins σ H s I hS i ht A hh => by
    subst hP hw hKX
    obtain ⟨its, rv, p, hz⟩ := I.tuple hS
    obtain ⟨oi, hoi, hci, hdi⟩ := id ht
    have pt : s.heap.IsTuple a its.toArray := p
    obtain ⟨ol, hol, hcl, rest⟩ := id pt
    have hne : a ≠ it := fun z => by
      subst z
      rw [hoi] at hol
      cases hol
      rw [hci] at hcl
      exact absurd hcl (by decide +kernel)
    have hla : its.toArray.size = xs.length := by rw [List.size_toArray]; exact rv.length.symm
    refine ⟨[it, a], _, _, hla ▸ Draws.tuple hh it a hne its.toArray, fun j hj => ⟨hj, pt⟩, fun j h' hj => hj.1, fun j u hu => rel_at rv hu, fun b hb => ?_⟩
    rcases (by simpa using hb : b = it ∨ b = a) with rfl | rfl
    · exact .inl rfl
    · exact .inr ⟨_, hol, by rw [hcl]; decide +kernel⟩
theorem src_str {z : Str} {t : Tok} : ESrc P w K (fun _ => True) (chars z) it (fun i h => h.IsStrIter it (strIterType z) z t i) where
  obj := fun i h st => by
    obtain ⟨o, ho, hc, hd⟩ := st
    exact ⟨o, ho, fun v q => by rw [hd] at q; cases q⟩
  keep := fun i h h' st k => by
    obtain ⟨o, ho, hc, hd⟩ := st
    exact ⟨o, k o ho, hc, hd⟩
  draws := fun X hP hw hKX pins σ H s I hS i ht A hh => by
    subst hP hw hKX
    have hl : z.cps.size = (chars z).length := by
      unfold chars
      rw [List.length_map, Array.length_toList]
    refine ⟨[it], _, _, hl ▸ Draws.text hh it z t, fun j hj => hj, fun j h' hj => hj, fun j u hu => ?_, fun b hb => .inl (by simpa using hb)⟩
    obtain ⟨c, tk, hc, rfl⟩ := hu
    refine ⟨.str ⟨#[c]⟩, ?_, tk, rfl⟩
    unfold chars
    rw [List.getElem?_map, Array.getElem?_toList, hc]
    rfl
end
def iEnumS (K : PySem.W.Frag) (ta : TA) : TI := fun σ H R => ta σ H fun vs H1 => (∃ a xs, vs = [.ref a] ∧ SqL K H1 a xs ∧ R (IteS (fun H => SqL K H a xs) xs) H1) ∨ (∃ a xs, vs = [.ref a] ∧ SqT K H1 a xs ∧ R (IteS (fun H => SqT K H a xs) xs) H1) ∨ ∃ z, vs = [.str z] ∧ R (IteS (fun _ => True) (chars z)) H1
theorem pi_enumS {X : Cx} {e : Expr} {ta : TA} {p pos tpos : Pos} {elts : List Expr} {kk : Nat} (hg : Gl X "enumerate") (hm : X.mg "enumerate" = none) (ha : PA X [e] ta) (hs : starEach [e] X.env = [(false, eval e X.env)]) :
    PI X (.Tuple elts kk tpos) (.Call (.Name "enumerate" p) [e] [] pos) (iEnumS X.K ta) := by
  constructor
  intro pins s σ H R I h
  refine Call_ (ld_blt I hg hm boot_enumerate (PyProof.Rows.callWith_type1 (thn (ha.run pos pins s σ H _ I h) fun us s1 ⟨vs, H1, I1, r1, q1⟩ => ?_) hs rfl))
  have fin : ∀ {v : Value} {o : Obj} {Hh : Heap → Prop} {S : Hp → Prop} {xs : List V} {tn : Addr → Nat → Heap → Prop}, Begins v o Hh → Hh s1.heap → (∀ h' : Heap, h'.get? s1.heap.objs.size = some o → tn s1.heap.objs.size 0 h') → ESrc X.prog X.w X.K S xs s1.heap.objs.size (tn s1.heap.objs.size) → R (IteS S xs) H1 →
      wpAny (model X.prog X.w) X.A (call (.type "enumerate") [v]) (fun v s1 => wpAny (model X.prog X.w) X.A (pyIter v) (PIE X pins σ (.Tuple elts kk tpos) R) X.xe s1) X.xe s1 := by
    intro v o Hh S xs tn B hH htn C q
    refine call_enum1 B hH fun h' he hit hk => wpAny_pyIter_enum he ?_
    have I2 : Inv X pins σ H1 { s1 with heap := h' } := I1.kept (t' := s1.toks) hk
    refine ⟨s1.heap.objs.size + 1, [s1.heap.objs.size + 1, s1.heap.objs.size], _, _, H1, rfl, I2, turn_enumS C, ⟨⟨.none, he⟩, htn h' hit, Nat.succ_ne_self _⟩, fun b hb => ?_, q⟩
    have hle : s1.heap.objs.size ≤ b := by
      rcases (by simpa using hb : b = s1.heap.objs.size + 1 ∨ b = s1.heap.objs.size) with rfl | rfl
      · exact Nat.le_succ _
      · exact Nat.le_refl _
    exact I1.fpOk hle (I1.hok.fresh hle)
  rcases q1 with ⟨a, xs, rfl, hq, q⟩ | ⟨a, xs, rfl, hq, q⟩ | ⟨z, rfl, q⟩
  · obtain ⟨u, rfl, ru⟩ := r1.one
    obtain rfl : u = Value.ref a := ru
    obtain ⟨its, rv, p', hz⟩ := I1.list hq
    exact fin (begins_list a its.toArray) p'.isList (tn := fun it i h => h.IsListIter it a i) (fun h' hit => ⟨_, hit, rfl, rfl⟩) src_list q
  · obtain ⟨u, rfl, ru⟩ := r1.one
    obtain rfl : u = Value.ref a := ru
    obtain ⟨its, rv, p', hz⟩ := I1.tuple hq
    exact fin (begins_tuple a its.toArray) p' (tn := fun it i h => h.IsTupleIter it a i) (fun h' hit => ⟨_, hit, rfl, rfl⟩) src_tup q
  · obtain ⟨u, rfl, ru⟩ := r1.one
    obtain ⟨t, rfl⟩ := (show ∃ t, u = Value.str z t from ru)
    exact fin (begins_text z t) True.intro (tn := fun it i h => h.IsStrIter it (strIterType z) z t i) (fun h' hit => ⟨_, hit, rfl, rfl⟩) src_str q
end Ev
set_option maxHeartbeats 2000000
/-! Ev, part S: enumerate and zip as sources; the least and the greatest of tuples of ints. -/
namespace Ev
open PySem PySem.Spec PyProof.Rows L2 RZ

/-! ### enumerate, zip -/
def enumD : Nat → List D → List D
  | _, [] => []
  | i, d :: ds => .tup [.int (i : Nat), d] :: enumD (i + 1) ds
theorem enumD_length : ∀ (ds : List D) (i : Nat), (enumD i ds).length = ds.length
  | [], _ => rfl
  | d :: ds, i => congrArg Nat.succ (enumD_length ds (i + 1))
theorem enumD_get : ∀ {ds : List D} {i k : Nat} {d : D}, (enumD i ds)[k]? = some d → ∃ e, ds[k]? = some e ∧ d = .tup [.int ((i + k : Nat) : Int), e]
  | [], _, _, _, h => by simp [enumD] at h
  | e :: ds, i, 0, d, h => by
    have h : some (D.tup [.int (i : Nat), e]) = some d := h
    cases h
    exact ⟨e, rfl, rfl⟩
  | e :: ds, i, k + 1, d, h => by
    obtain ⟨e', h1, h2⟩ := enumD_get (ds := ds) (i := i + 1) (k := k) (d := d) (by simpa [enumD] using h)
    have e3 : i + 1 + k = i + (k + 1) := by omega
    exact ⟨e', by simpa using h1, by rw [h2, e3]⟩
def charsD (z : Str) : List D := z.cps.toList.map fun c => D.str ⟨#[c]⟩
def itemsE : D → Option (List D)
  | .tup xs => some xs
  | .lst xs => some xs
  | .scr xs => some xs
  | .str z => some (charsD z)
  | _ => none
def srcD (ma : MA) (f : List D → Option (List D)) : MI := fun r => bindR (ma r) fun os r1 => match frzs r1 os with
  | some (ds, r2) => opt (f ds) r2
  | none => .stuck
def fEnum : List D → Option (List D)
  | [d] => (itemsE d).map (enumD 0)
  | _ => none
def zipD : List D → List D → List D
  | a :: as, b :: bs => .tup [a, b] :: zipD as bs
  | _, _ => []
def fZip : List D → Option (List D)
  | [.tup xs, .tup ys] => some (zipD xs ys)
  | [d, e] => match d, e with
    | .lst xs, .lst ys => some (zipD xs ys)
    | .scr xs, .lst ys => some (zipD xs ys)
    | .lst xs, .scr ys => some (zipD xs ys)
    | _, _ => none
  | _ => none
theorem zipD_length : ∀ (as bs : List D), (zipD as bs).length = min as.length bs.length
  | [], _ => by simp [zipD]
  | a :: as, [] => by simp [zipD]
  | a :: as, b :: bs => by
    show (zipD as bs).length + 1 = _
    rw [zipD_length as bs, List.length_cons, List.length_cons]
    omega
theorem zipD_get : ∀ {as bs : List D} {k : Nat} {d : D}, (zipD as bs)[k]? = some d → ∃ a b, as[k]? = some a ∧ bs[k]? = some b ∧ d = .tup [a, b]
  | [], _, _, _, h => by simp [zipD] at h
  | a :: as, [], _, _, h => by simp [zipD] at h
  | a :: as, b :: bs, 0, d, h => by
    have h : some (D.tup [a, b]) = some d := h
    cases h
    exact ⟨a, b, rfl, rfl, rfl⟩
  | a :: as, b :: bs, k + 1, d, h => by
    obtain ⟨x, y, h1, h2, h3⟩ := zipD_get (as := as) (bs := bs) (k := k) (d := d) (by simpa [zipD] using h)
    exact ⟨x, y, by simpa using h1, by simpa using h2, h3⟩
section
variable {G : Gam} {pn : Option Addr} {W : WX} {X : Cx} {B F F' H H' : Hp} {σ : L2.St} {r : Rho}
/-- what a source's rule asks, by frozen arguments -/
def SrcS (G : Gam) (S : List V → Hp → (It → Hp → Prop) → Prop) (f : List D → Option (List D)) : Prop := ∀ (F H : Hp) (vs : List V) (ds es : List D) (R : It → Hp → Prop), Same F H → Reps G F vs ds → f ds = some es → (∀ J, Drv G J F es → R J H) → S vs H R
theorem tI_src {ma : MA} {f : List D → Option (List D)} {S : List V → Hp → (It → Hp → Prop) → Prop} {R : It → Hp → Prop} (hp : PlainA ma) (hf : SrcS G S f) (h : tI G pn W (srcD ma f) σ H R) : tMA G pn W ma σ H fun vs H1 => S vs H1 R := by
  obtain ⟨B, F, r, s, p⟩ := h
  refine ⟨B, F, r, s, ?_⟩
  unfold srcD at p
  cases e : ma r with
  | stuck => rw [e] at p; exact p
  | exn x r1 => rw [e] at p; exact p
  | ok os r1 =>
    rw [e] at p
    intro vs F1 H1 e1 n1 s1 o1
    replace p : PostI G pn W B F σ R (match frzs r1 os with
      | some (ds, r2) => opt (f ds) r2
      | none => .stuck) := p
    cases q : frzs r1 os with
    | none => rw [q] at p; exact p.elim
    | some dr =>
      obtain ⟨ds, r2⟩ := dr
      rw [q] at p
      replace p : PostI G pn W B F σ R (opt (f ds) r2) := p
      obtain ⟨F2, e2, n2, s2, h2⟩ := s1.frzs (hp _ _ _ e) o1 q
      cases q2 : f ds with
      | none => rw [q2] at p; exact p.elim
      | some es =>
        rw [q2] at p
        exact hf F2 H1 vs ds es R s2.fH h2 q2 fun J dj => p J F2 H1 (e1.trans e2) (n1.trans n2) s2 dj
theorem drv_enum {S : Hp → Prop} {xs : List V} {ds : List D} (hS : ∀ H', Same F H' → S H') (rr : Reps G F xs ds) : Drv G (IteS S xs) F (enumD 0 ds) := by
  refine drv_pair (Gd := S) (f := fun i => some (.int (i : Nat))) (g := fun i => xs[i]?) (by rw [enumD_length, ← rr.length]; exact walk_enumS) hS fun k x y d h1 h2 h3 => ?_
  obtain ⟨e, h4, rfl⟩ := enumD_get h3
  obtain ⟨v, h5, h6⟩ := rr.get h4
  have h2 : xs[k]? = some y := h2
  rw [h5] at h2
  cases h2
  cases h1
  exact ⟨_, e, rfl, by rw [Nat.zero_add]; exact .int _, h6⟩
theorem reps_chars (z : Str) : Reps G F (chars z) (charsD z) := by
  unfold chars charsD
  generalize z.cps.toList = l
  induction l with
  | nil => exact .nil
  | cons c l ih => exact .cons _ _ _ _ (.str _) ih
theorem src_enum : SrcS G (fun vs H R => (∃ a xs, vs = [.ref a] ∧ SqL G.K H a xs ∧ R (IteS (fun H => SqL G.K H a xs) xs) H) ∨ (∃ a xs, vs = [.ref a] ∧ SqT G.K H a xs ∧ R (IteS (fun H => SqT G.K H a xs) xs) H) ∨ ∃ z, vs = [.str z] ∧ R (IteS (fun _ => True) (chars z)) H) fEnum := by
  intro F H vs ds es R s rs e k
  match ds, rs, e with
  | [d], rs, e =>
    obtain ⟨v, ws, rfl, h1, h2⟩ := rs.inv_cons
    cases h2
    cases d with
    | tup xs =>
      cases e
      obtain ⟨a, vs, rfl, h3, h4⟩ := RepO.tup (H := H) (.inl h1)
      exact .inr (.inl ⟨a, vs, rfl, sqt_mono s h3, k _ (drv_enum (fun H' e => sqt_mono e h3) h4)⟩)
    | lst xs =>
      cases e
      cases h1 with
      | lst a vs ds h3 h4 => exact .inl ⟨a, vs, rfl, SqL.of (s _ _ h3), k _ (drv_enum (fun H' e => SqL.of (e _ _ h3)) h4)⟩
    | scr xs =>
      cases e
      cases h1 with
      | scr a vs ds h3 h4 => exact .inl ⟨a, vs, rfl, s.seq h3, k _ (drv_enum (fun H' e => e.seq h3) h4)⟩
    | str z =>
      cases e
      cases h1
      exact .inr (.inr ⟨z, rfl, k _ (drv_enum (fun _ _ => True.intro) (reps_chars z))⟩)
    | _ => cases e
theorem PI_enum {e : Expr} {ma : MA} {p pos tpos : Pos} {elts : List Expr} {kk : Nat} (hK : X.K = G.K) (hg : Gl X "enumerate") (hm : X.mg "enumerate" = none) (hp : PlainA ma) (ha : PA X [e] (tMA G pn W ma)) (hs : starEach [e] X.env = [(false, eval e X.env)]) :
    PI X (.Tuple elts kk tpos) (.Call (.Name "enumerate" p) [e] [] pos) (tI G pn W (srcD ma fEnum)) := PI.imp (pi_enumS hg hm ha hs) fun σ H R h => by
  unfold iEnumS
  rw [hK]
  exact tI_src hp src_enum h
theorem drv_zipL {a b : Addr} {xs ys : List V} {ds es : List D} (ha : SqL G.K F a xs) (hb : SqL G.K F b ys) (r1 : Reps G F xs ds) (r2 : Reps G F ys es) : Drv G (Itz G.K a b) F (zipD ds es) := by
  refine drv_pair (Gd := fun H => SqL G.K H a xs ∧ SqL G.K H b ys) (f := fun i => xs[i]?) (g := fun i => ys[i]?) (walk_zip (by rw [zipD_length, r1.length, r2.length])) (fun H' e => ⟨e.seq ha, e.seq hb⟩) fun k x y d h1 h2 h3 => ?_
  obtain ⟨d1, d2, h4, h5, rfl⟩ := zipD_get h3
  obtain ⟨v, h6, h7⟩ := r1.get h4
  obtain ⟨w, h8, h9⟩ := r2.get h5
  have h1 : xs[k]? = some x := h1
  have h2 : ys[k]? = some y := h2
  rw [h6] at h1
  rw [h8] at h2
  cases h1
  cases h2
  exact ⟨d1, d2, rfl, h7, h9⟩
theorem walk_zipT {K : PySem.W.Frag} {a b : Addr} {xs ys : List V} {n : Nat} (hn : n = min xs.length ys.length) : Walk (ItzT K a b) n (fun H => SqT K H a xs ∧ SqT K H b ys) (YPair (fun i => xs[i]?) (fun i => ys[i]?)) := by
  subst hn
  constructor
  · intro i _ hi q
    have h1 : i < xs.length := by omega
    have h2 : i < ys.length := by omega
    exact ⟨xs, ys, xs[i], ys[i], q.1, q.2, List.getElem?_eq_getElem h1, List.getElem?_eq_getElem h2⟩
  · intro _ q
    exact ⟨xs, ys, q.1, q.2, by omega⟩
  · intro i H v H' _ q y
    obtain ⟨T, x, z, h1, h2, h3, h4, h5⟩ := y
    exact ⟨T, x, z, h1, h2, h3, h4 xs q.1, h5 ys q.2⟩
theorem drv_zipT {a b : Addr} {xs ys : List V} {ds es : List D} (ha : SqT G.K F a xs) (hb : SqT G.K F b ys) (r1 : Reps G F xs ds) (r2 : Reps G F ys es) : Drv G (ItzT G.K a b) F (zipD ds es) := by
  refine drv_pair (Gd := fun H => SqT G.K H a xs ∧ SqT G.K H b ys) (f := fun i => xs[i]?) (g := fun i => ys[i]?) (walk_zipT (by rw [zipD_length, r1.length, r2.length])) (fun H' e => ⟨sqt_mono e ha, sqt_mono e hb⟩) fun k x y d h1 h2 h3 => ?_
  obtain ⟨d1, d2, h4, h5, rfl⟩ := zipD_get h3
  obtain ⟨v, h6, h7⟩ := r1.get h4
  obtain ⟨w, h8, h9⟩ := r2.get h5
  have h1 : xs[k]? = some x := h1
  have h2 : ys[k]? = some y := h2
  rw [h6] at h1
  rw [h8] at h2
  cases h1
  cases h2
  exact ⟨d1, d2, rfl, h7, h9⟩
/-- a list, as it is frozen -/
theorem Rep.sql {v : V} {d : D} {ds : List D} (h : Rep G F v d) (e : d = .lst ds ∨ d = .scr ds) : ∃ a xs, v = .ref a ∧ SqL G.K F a xs ∧ Reps G F xs ds := by
  rcases e with rfl | rfl
  · cases h with
    | lst a xs ds h r => exact ⟨a, xs, rfl, SqL.of h, r⟩
  · cases h with
    | scr a xs ds h r => exact ⟨a, xs, rfl, h, r⟩
theorem src_zip : SrcS G (fun vs H R => ∃ a b xs ys, vs = [.ref a, .ref b] ∧ ((SqL G.K H a xs ∧ SqL G.K H b ys ∧ R (Itz G.K a b) H) ∨ (SqT G.K H a xs ∧ SqT G.K H b ys ∧ R (ItzT G.K a b) H))) fZip := by
  intro F H vs ds es R s rs e k
  have lists : ∀ (d1 d2 : D) (xs ys : List D), ds = [d1, d2] → (d1 = .lst xs ∨ d1 = .scr xs) → (d2 = .lst ys ∨ d2 = .scr ys) → es = zipD xs ys → ∃ a b xs ys, vs = [.ref a, .ref b] ∧ ((SqL G.K H a xs ∧ SqL G.K H b ys ∧ R (Itz G.K a b) H) ∨ (SqT G.K H a xs ∧ SqT G.K H b ys ∧ R (ItzT G.K a b) H)) := by
    intro d1 d2 xs ys ed e1 e2 ee
    subst ed ee
    obtain ⟨v, ws, rfl, h1, h2⟩ := rs.inv_cons
    obtain ⟨w, us, rfl, h3, h4⟩ := h2.inv_cons
    cases h4
    obtain ⟨a, vs, rfl, h5, h6⟩ := h1.sql e1
    obtain ⟨b, ws, rfl, h7, h8⟩ := h3.sql e2
    exact ⟨a, b, vs, ws, rfl, .inl ⟨s.seq h5, s.seq h7, k _ (drv_zipL h5 h7 h6 h8)⟩⟩
  unfold fZip at e
  split at e
  · rename_i xs ys
    cases e
    obtain ⟨v, ws, rfl, h1, h2⟩ := rs.inv_cons
    obtain ⟨w, us, rfl, h3, h4⟩ := h2.inv_cons
    cases h4
    obtain ⟨a, vs, rfl, h5, h6⟩ := RepO.tup (H := H) (.inl h1)
    obtain ⟨b, ws, rfl, h7, h8⟩ := RepO.tup (H := H) (.inl h3)
    exact ⟨a, b, vs, ws, rfl, .inr ⟨sqt_mono s h5, sqt_mono s h7, k _ (drv_zipT h5 h7 h6 h8)⟩⟩
  · split at e
    · cases e; exact lists _ _ _ _ rfl (.inl rfl) (.inl rfl) rfl
    · cases e; exact lists _ _ _ _ rfl (.inr rfl) (.inl rfl) rfl
    · cases e; exact lists _ _ _ _ rfl (.inl rfl) (.inr rfl) rfl
    · cases e
  · cases e
theorem PI_zip {e e2 : Expr} {ma : MA} {p pos tpos : Pos} {elts : List Expr} {kk : Nat} (hK : X.K = G.K) (hg : Gl X "zip") (hm : X.mg "zip" = none) (hp : PlainA ma) (ha : PA X [e, e2] (tMA G pn W ma)) (hs : starEach [e, e2] X.env = (false, eval e X.env) :: starEach [e2] X.env) (hpl : (backTo pos (starEach [e2] X.env)).any (·.1) = false) :
    PI X (.Tuple elts kk tpos) (.Call (.Name "zip" p) [e, e2] [] pos) (tI G pn W (srcD ma fZip)) := PI.imp (pi_zipA hg hm ha hs hpl) fun σ H R h => by
  unfold iZipA
  rw [hK]
  exact tI_src hp src_zip h

/-! ### the least, the greatest of tuples of ints -/
open PySem.W in
def tintsD : List D → Option (List (PySem.W.Tup Int))
  | [] => some []
  | d :: ds => match d with
    | .tup xs => (match intsD xs, tintsD ds with
      | some ns, some r => some (⟨ns⟩ :: r)
      | _, _ => none)
    | _ => none
def pMinT (d : D) : Option Opd := match d with
  | .lst ds => (match tintsD ds with
    | some (x :: xs) => some (.val (.tup ((PySem.W.minOf x xs).items.map .int)))
    | _ => none)
  | _ => none
def pMaxT (d : D) : Option Opd := match d with
  | .lst ds => (match tintsD ds with
    | some (x :: xs) => some (.val (.tup ((PySem.W.maxOf x xs).items.map .int)))
    | _ => none)
  | _ => none
theorem tintsD_ok : ∀ {ds : List D} {ts : List (PySem.W.Tup Int)}, tintsD ds = some ts → ds = ts.map fun t => D.tup (t.items.map .int)
  | [], ts, h => by cases h; rfl
  | d :: ds, ts, h => by
    unfold tintsD at h
    split at h
    · rename_i xs
      split at h
      · rename_i ns r h1 h2
        cases h
        rw [List.map_cons, ← tintsD_ok h2, intsD_ok h1]
      · cases h
    · cases h
theorem dpAll_tints {vs : List V} (s : Same F H) : ∀ {ts : List (PySem.W.Tup Int)} {vs : List V}, Reps G F vs (ts.map fun t => D.tup (t.items.map .int)) → DpAll G.K H vs (ts.map PySem.W.Datum.toD)
  | [], vs, h => by cases h; exact .nil
  | t :: ts, vs, h => by
    obtain ⟨v, ws, rfl, h1, h2⟩ := h.inv_cons
    refine .cons (h1.dp s ?_) (dpAll_tints (vs := vs) s h2)
    have key : ∀ ns : List Int, toPs (ns.map D.int) = some (ns.map PySem.W.Datum.toD) := by
      intro ns
      induction ns with
      | nil => rfl
      | cons n ns ih =>
        show (match toP (.int n), toPs (ns.map D.int) with
          | some p, some ps => some (p :: ps)
          | _, _ => none) = _
        rw [ih]
        rfl
    show (toPs (t.items.map D.int)).map PyData.tuple = some (PyData.tuple (t.items.map PySem.W.Datum.toD))
    rw [key]
    rfl
theorem tints_get {ts : List (PySem.W.Tup Int)} {i : Nat} {t : PySem.W.Tup Int} (h : ts[i]? = some t) : (ts.map fun t => D.tup (t.items.map .int))[i]? = some (D.tup (t.items.map .int)) := by
  rw [List.getElem?_map, h]
  rfl
/-- what min, max of a list of such tuples hand back: one of the items -/
def rBest (K : PySem.W.Frag) (best : PySem.W.Tup Int → List (PySem.W.Tup Int) → PySem.W.Tup Int) : List V → Hp → VK → Prop := fun vs H Q => ∃ (a : Addr) (xs : List V) (t : PySem.W.Tup Int) (ts : List (PySem.W.Tup Int)), vs = [V.ref a] ∧ SqL K H a xs ∧ DpAll K H xs ((t :: ts).map PySem.W.Datum.toD) ∧
  ∀ (i : Nat) (v : V), xs[i]? = some v → (t :: ts)[i]? = some (best t ts) → Q v H
theorem best_ix {h h' : Heap} {its : List Value} {ps : List PyData} {as bs : List Addr} (k : ∀ b o, h.get? b = some o → h'.get? b = some o) (rs : ReadsAll h its ps as) {i : Nat} {u : Value} {p : PyData} (hu : its.toArray[i]? = some u) (r : Reads h' u p bs) : ps[i]? = some p := by
  obtain ⟨cs, r1, hi, _, _⟩ := PySem.W.readsAll_at rs i u (by simpa using hu)
  obtain ⟨e, _⟩ := PyProof.Rows.reads_det (fun b o e _ => k b o e) r1 r
  rw [e, List.getD_eq_getElem?_getD, List.getElem?_eq_getElem hi]
  rfl
theorem map_toD_get {ts : List (PySem.W.Tup Int)} {i : Nat} {t : PySem.W.Tup Int} (h : (ts.map PySem.W.Datum.toD)[i]? = some (PySem.W.Datum.toD t)) : ts[i]? = some t := by
  rw [List.getElem?_map] at h
  cases q : ts[i]? with
  | none => rw [q] at h; cases h
  | some u =>
    rw [q] at h
    have e : PySem.W.Datum.toD u = PySem.W.Datum.toD t := Option.some.inj h
    have e2 := PySem.W.Datum.eqv u t
    rw [e, PySem.W.Datum.eqv t t, decide_eq_true rfl] at e2
    rw [of_decide_eq_true e2.symm]
theorem call_minT {k : Nat} (hr : Room k X.A) (hc : X.calm = true) : CallR X (.builtin "min") (rBest X.K PySem.W.minOf) := by
  intro pins s σ H vs us Q I r h
  obtain ⟨a, xs, t, ts, rfl, hs, hd, q⟩ := h
  obtain ⟨its, rv, hl, _⟩ := I.list hs
  obtain ⟨u, rfl, ru⟩ := r.one
  obtain rfl : u = Value.ref a := ru
  obtain ⟨as, rs⟩ := Dp.readsAll I _ xs its hd rv
  have hu := hr.units
  have hdep := PySem.W.depthAll_map (t :: ts)
  have hdep2 : PyData.depthAll (PySem.W.Datum.toD t :: ts.map PySem.W.Datum.toD) ≤ 60 := Nat.le_trans hdep (by decide +kernel)
  refine PySem.W.min_list_data (I.ok.hd hc) hl.isList rs (PySem.W.alikeAll_datum (t :: ts)) (by omega) fun i u h' tk bs hu r hk => ?_
  obtain ⟨x, hx, rx⟩ := rel_at rv hu
  rw [PySem.W.minD_map] at r
  exact ⟨x, H, I.kept hk, rx, q i x hx (map_toD_get (best_ix hk rs hu r))⟩
theorem call_maxT {k : Nat} (hr : Room k X.A) (hc : X.calm = true) : CallR X (.builtin "max") (rBest X.K PySem.W.maxOf) := by
  intro pins s σ H vs us Q I r h
  obtain ⟨a, xs, t, ts, rfl, hs, hd, q⟩ := h
  obtain ⟨its, rv, hl, _⟩ := I.list hs
  obtain ⟨u, rfl, ru⟩ := r.one
  obtain rfl : u = Value.ref a := ru
  obtain ⟨as, rs⟩ := Dp.readsAll I _ xs its hd rv
  have hu := hr.units
  have hdep := PySem.W.depthAll_map (t :: ts)
  have hdep2 : PyData.depthAll (PySem.W.Datum.toD t :: ts.map PySem.W.Datum.toD) ≤ 60 := Nat.le_trans hdep (by decide +kernel)
  refine PySem.W.max_list_data (I.ok.hd hc) hl.isList rs (PySem.W.alikeAll_datum (t :: ts)) (by omega) fun i u h' tk bs hu r hk => ?_
  obtain ⟨x, hx, rx⟩ := rel_at rv hu
  rw [PySem.W.maxD_map] at r
  exact ⟨x, H, I.kept hk, rx, q i x hx (map_toD_get (best_ix hk rs hu r))⟩
theorem op_best {best : PySem.W.Tup Int → List (PySem.W.Tup Int) → PySem.W.Tup Int} {f : D → Option Opd} (hf : ∀ d o, f d = some o → ∃ ds t ts, d = .lst ds ∧ tintsD ds = some (t :: ts) ∧ o = .val (.tup ((best t ts).items.map .int))) : OpS G (rBest G.K best) (one f) := by
  intro F H vs ds o Q s rs e fin
  match ds, rs, e with
  | [d], rs, e =>
    have e : f d = some o := e
    obtain ⟨ds, t, ts, rfl, h1, rfl⟩ := hf d o e
    cases rs with
    | cons v d vs ds' h t' =>
      cases t'
      obtain ⟨a, xs, rfl, h2, h3⟩ := h.lst s
      rw [tintsD_ok h1] at h3
      refine ⟨a, xs, t, ts, rfl, SqL.of h2, dpAll_tints (vs := xs) s h3, fun i v hv hb => ?_⟩
      obtain ⟨v', h4, h5⟩ := h3.get (tints_get hb)
      rw [hv] at h4
      cases h4
      exact fin.val s h5
theorem op_minT : OpS G (rBest G.K PySem.W.minOf) (one pMinT) := op_best fun d o e => by
  unfold pMinT at e
  split at e
  · rename_i ds
    split at e
    · rename_i t ts h
      cases e
      exact ⟨ds, t, ts, rfl, h, rfl⟩
    · cases e
  · cases e
theorem op_maxT : OpS G (rBest G.K PySem.W.maxOf) (one pMaxT) := op_best fun d o e => by
  unfold pMaxT at e
  split at e
  · rename_i ds
    split at e
    · rename_i t ts h
      cases e
      exact ⟨ds, t, ts, rfl, h, rfl⟩
    · cases e
  · cases e
end
end Ev
set_option maxHeartbeats 4000000
/-! Ev, part T: from a text to its semantics: expressions. -/
namespace Ev
open PySem PySem.Spec PyProof.Rows L2

/-! ### what a text is read in -/
/-- the def that gets a lambda, calls it and says what it met -/
structure LamE where
  x : Str
  exs : List Nat
  sub : Nat → Nat → Bool
  hs : List Hdl
  fsh : Sh
  ftxt : Str
structure CEnv where
  N : List Str
  sc : Scope
  top : Bool
  wr : Bool
  /-- defs, classes (by their __init__), exceptions without and with a kept argument, constants, classes' slots, properties, names -/
  fns : List (Str × Nat × Fn)
  mks : List (Str × Nat × Fn)
  exs0 : List (Str × Nat)
  exs1 : List (Str × Nat)
  cons : List (Str × D)
  slots : List (Str × List (Nat × Nat))
  props : List (Str × Nat × Fn)
  cls : List (Str × Nat)
  L : List Nat
  /-- built-in names that the module leaves alone -/
  free : List Str
  lam : Option LamE
/-- a constant's value, whatever is frozen -/
def constV : D → Option V
  | .non => some .non
  | .bl b => some (.bl b)
  | .int i => some (.int i)
  | .str x => some (.str x)
  | _ => none
theorem constV_ok {G : Gam} {d : D} {v : V} (h : constV d = some v) (F : Hp) : Rep G F v d := by
  cases d <;> cases h
  · exact .non
  · exact .bl _
  · exact .int _
  · exact .str _
/-- what the module says of these names -/
structure GOk (G : Gam) (k : Nat) (C : CEnv) : Prop where
  fns : ∀ x j f, (x, j, f) ∈ C.fns → ∃ a, G.mg x = some (.ref a) ∧ PySem.W.keepIn G.K (.ref a) = true ∧ FnR G.P G.w G.K G.mg G.base (L2.CX G.P G.w) k a (spF G f) ∧ G.fnA j = some a
  mks : ∀ x c f, (x, c, f) ∈ C.mks → f.wr = false ∧ (∀ ds, onlyVal (f.run ds) = f.run ds) ∧ ∃ A g k', k' + 1 ≤ k ∧ G.clsA c = some A ∧ G.mg x = some (.ref A) ∧ Mk G.K A g ∧ FnR G.P G.w G.K G.mg G.base (L2.CX G.P G.w) k' g (spI G c f.run)
  exs0 : ∀ x c, (x, c) ∈ C.exs0 → ∃ A, G.clsA c = some A ∧ G.mg x = some (.ref A) ∧ ExP G.K A
  exs1 : ∀ x c, (x, c) ∈ C.exs1 → 1 ≤ k ∧ ∃ A, G.clsA c = some A ∧ G.mg x = some (.ref A) ∧ ExS G.K G.P A (G.fldA c)
  cons : ∀ x d, (x, d) ∈ C.cons → ∃ v u, G.mg x = some u ∧ RelV v u ∧ ∀ F, Rep G F v d
  slots : ∀ f T, (f, T) ∈ C.slots → SlF G f T
  props : ∀ x c f, (x, c, f) ∈ C.props → f.wr = false ∧ ∃ A p g k', k' + 1 ≤ k ∧ G.clsA c = some A ∧ SlX.SCls G.K A ∧ PropOf G.K A x p g ∧ FnR G.P G.w G.K G.mg G.base (L2.CX G.P G.w) k' g (spF G f)
  cls : ∀ x c, (x, c) ∈ C.cls → ∃ A, G.clsA c = some A ∧ G.mg x = some (.ref A)
  gf : GF G C.L
  free : ∀ x ∈ C.free, G.mg x = none
structure LamOk (G : Gam) (k : Nat) (C : CEnv) (l : LamE) (X : Cx) : Prop where
  ex : ∃ (T : List (Addr × Str)) (a : Str) (g c P : Addr) (k2 : Nat) (pg : Arguments) (bg : List Stmt) (sg : Scope) (dV kV doc pm cdv ct oc : Value) (an od : Option Addr) (osl : Array (Option Value)) (Ng : List Str) (ss : List HdS),
    ((∀ H, LamX.Tabs T H → G.inv H) ∧ (∀ H, G.inv H → LamX.Tabs T H) ∧ HRels G l.hs ss ∧ (∀ c ∈ l.exs, ∀ h ∈ l.hs, ∀ C Cx, G.clsA h.c = some C → G.clsA c = some Cx → PySem.W.exmOne G.K (.ref Cx) (.ref C) = some (l.sub c h.c))) ∧
    (X.mg l.x = some (.ref g) ∧ PySem.W.keepIn X.K (.ref g) = true ∧ X.K.lookup g = some ⟨oc, od, .func (PySem.W.fnOf l.x l.x pg bg sg dV kV doc pm an cdv ct), osl⟩ ∧ PySem.W.codeIn X.K cdv l.x = true ∧ L2.Binds X.K (PySem.W.fnOf l.x l.x pg bg sg dV kV doc pm an cdv ct) [a] []) ∧
    (FnScope Ng [a] sg ∧ Ng[0]? = some a ∧ Vis sg a ∧ LamX.GivesTo X Ng l.x sg g cdv bg a (X.env.qual ++ "<lambda>") (TTmet G.K ss l.fsh l.ftxt)) ∧
    (LamX.TabB X.base X.mg c P ∧ X.env.code = .ref c ∧ (P, X.env.qual ++ "<lambda>") ∈ T ∧ (∀ p ∈ T, p.1 = P → p.2 = X.env.qual ++ "<lambda>")) ∧
    (k2 + 2 ≤ k ∧ GOk G k2 C ∧ (a == ("__debug__" : Str)) = false ∧ (a == ("__classdict__" : Str)) = false)
structure Ctx (G : Gam) (k : Nat) (C : CEnv) (pn : Option Addr) (W : WX) (X : Cx) : Prop where
  good : Good G W k C.top C.N C.sc X
  glob : GOk G k C
  pin : C.wr = false → pn = none
  lam : ∀ l, C.lam = some l → LamOk G k C l X
/-- the place of a name -/
def ixN : List Str → Str → Option Nat
  | [], _ => none
  | y :: ys, x => if y = x then some 0 else (ixN ys x).map Nat.succ
theorem ixN_ok : ∀ {N : List Str} {x : Str} {i : Nat}, ixN N x = some i → N[i]? = some x
  | [], _, _, h => by cases h
  | y :: ys, x, i, h => by
    unfold ixN at h
    split at h
    · rename_i e
      cases h
      rw [e]
      rfl
    · cases q : ixN ys x with
      | none => rw [q] at h; cases h
      | some j =>
        rw [q] at h
        cases h
        have e := ixN_ok q
        show ys[j]? = some x
        exact e
def okName (x : Str) : Bool := !(x == ("__debug__" : Str)) && !(x == ("__classdict__" : Str)) && !decide (x = ("__name__" : Str))
theorem okName_ok {x : Str} (h : okName x = true) : (x == ("__debug__" : Str)) = false ∧ (x == ("__classdict__" : Str)) = false ∧ x ≠ "__name__" := by
  unfold okName at h
  rw [Bool.and_eq_true, Bool.and_eq_true] at h
  obtain ⟨⟨h1, h2⟩, h3⟩ := h
  exact ⟨by simpa using h1, by simpa using h2, by simpa using h3⟩
def visB (sc : Scope) (x : Str) : Bool := decide (sc.names.lookup x = some .local) || decide (sc.names.lookup x = some .cell) || decide (sc.names.lookup x = some .free)
theorem visB_ok {sc : Scope} {x : Str} (h : visB sc x = true) : Vis sc x := by
  unfold visB at h
  rw [Bool.or_eq_true, Bool.or_eq_true] at h
  rcases h with (h | h) | h
  · exact .inl (of_decide_eq_true h)
  · exact .inr (.inl (of_decide_eq_true h))
  · exact .inr (.inr (of_decide_eq_true h))
def glB (sc : Scope) (x : Str) : Bool := decide (sc.names.lookup x = some .globalImplicit)
def get1 {α : Type} : List (Str × α) → Str → Option α
  | [], _ => none
  | (y, a) :: r, x => if y = x then some a else get1 r x
theorem get1_ok {α : Type} : ∀ {l : List (Str × α)} {x : Str} {a : α}, get1 l x = some a → (x, a) ∈ l
  | [], _, _, h => by cases h
  | (y, b) :: r, x, a, h => by
    unfold get1 at h
    split at h
    · rename_i e
      cases h
      rw [e]
      exact List.mem_cons_self
    · exact List.mem_cons_of_mem _ (get1_ok h)
section
variable {G : Gam} {k : Nat} {C : CEnv} {pn : Option Addr} {W : WX} {X : Cx}
theorem Ctx.gl (c : Ctx G k C pn W X) {x : Str} (h : glB C.sc x = true) : Gl X x := by
  show X.env.scope.names.lookup x = _
  rw [c.good.sc]
  exact of_decide_eq_true h
theorem Ctx.vis (c : Ctx G k C pn W X) {x : Str} (h : visB C.sc x = true) : Vis X.env.scope x := by
  rw [c.good.sc]
  exact visB_ok h
theorem Ctx.ix (c : Ctx G k C pn W X) {x : Str} {i : Nat} (h : ixN C.N x = some i) : X.N[i]? = some x := by
  rw [c.good.names]
  exact ixN_ok h
theorem Ctx.mgn (c : Ctx G k C pn W X) {x : Str} (h : x ∈ C.free) : X.mg x = none := by
  rw [c.good.mg]
  exact c.glob.free x h

/-! ### names, constants -/
def cName (C : CEnv) (x : Str) : Option M := if okName x = true then (match ixN C.N x with
    | some i => if visB C.sc x = true then some (mVar i) else none
    | none => if glB C.sc x = true then (match get1 C.cons x with
      | some d => some (mVal d)
      | none => (get1 C.fns x).map fun p => mVal (.fn p.1)) else none) else none
theorem cName_ok (c : Ctx G k C pn W X) {x : Str} {p : Pos} {m : M} (h : cName C x = some m) : PE X (.Name x p) (tM G pn W m) := by
  unfold cName at h
  split at h
  · rename_i hn
    obtain ⟨n1, n2, n3⟩ := okName_ok hn
    split at h
    · rename_i i hi
      split at h
      · rename_i hv
        cases h
        exact PE.imp (pe_var (c.ix hi) (c.vis hv) n1 n2) fun σ H Q q => tM_var q
      · cases h
    · split at h
      · rename_i hg
        split at h
        · rename_i d hd
          cases h
          obtain ⟨v, u, h1, h2, h3⟩ := c.glob.cons x d (get1_ok hd)
          exact PE_val (pe_glob (c.gl hg) (by rw [c.good.mg]; exact h1) h2 n1) h3
        · cases q : get1 C.fns x with
          | none => rw [q] at h; cases h
          | some jf =>
            obtain ⟨j, f⟩ := jf
            rw [q] at h
            cases h
            obtain ⟨a, h1, _, _, h4⟩ := c.glob.fns x j f (get1_ok q)
            exact PE_val (pe_glob (v := .ref a) (c.gl hg) (by rw [c.good.mg]; exact h1) rfl n1) fun F => .fn j a h4
      · cases h
  · cases h
def cConst : Const → Option M
  | .int i => some (mVal (.int i))
  | .bool b => some (mVal (.bl b))
  | .none => some (mVal .non)
  | .str x => some (mVal (.str x))
  | _ => none
theorem cConst_ok {q : Const} {j : Nat} {p : Pos} {m : M} (h : cConst q = some m) : PE X (.Constant q j p) (tM G pn W m) := by
  cases q with
  | int i => cases h; exact PE_val pe_int fun F => .int i
  | bool b => cases h; exact PE_val pe_bl fun F => .bl b
  | none => cases h; exact PE_val pe_non fun F => .non
  | str x => cases h; exact PE_val pe_str fun F => .str x
  | _ => cases h

/-! ### built-in functions by their names -/
def oMax : List D → Option Opd := orD (two pMax2) (orD (one pMax1) (one pMaxT))
def oMin : List D → Option Opd := orD (two pMin2) (orD (one pMin1) (one pMinT))
/-- true: a type -/
def bltL : List (Str × Bool × (List D → Option Opd)) := [("len", false, one pLen), ("int", true, one pInt1), ("abs", false, one pAbs), ("max", false, oMax), ("min", false, oMin), ("sum", false, one pSum), ("tuple", true, one pTuple), ("list", true, one pList), ("all", false, one pAll), ("any", false, one pAny), ("sorted", false, one pSorted), ("str", true, one pStrI)]
def bltF (x : Str) : Option (Bool × (List D → Option Opd)) := get1 bltL x
theorem mem_case {α : Type} {a b : α} {l : List α} {P : Prop} (h : a ∈ b :: l) (h1 : a = b → P) (h2 : a ∈ l → P) : P := by
  rcases List.mem_cons.mp h with h | h
  · exact h1 h
  · exact h2 h
theorem blt_ok {x : Str} {b : Bool} {f : List D → Option Opd} (h : bltF x = some (b, f)) (hr : Room k X.A) (hc : X.calm = true) (hK : X.K = G.K) :
    (b = false ∧ ∃ id R, bootBuiltins x = some (.builtin id) ∧ CallR X (.builtin id) R ∧ OpS G R f) ∨ (b = true ∧ ∃ T R, bootBuiltins x = some (.type T) ∧ CallR X (.type T) R ∧ OpS G R f) := by
  have h := get1_ok h
  unfold bltL at h
  refine mem_case h (fun e => ?_) (fun h => ?_)
  · cases e
    exact .inl ⟨rfl, "len", _, by decide +kernel, call_len, by rw [hK]; exact op_len⟩
  refine mem_case h (fun e => ?_) (fun h => ?_)
  · cases e
    exact .inr ⟨rfl, "int", _, by decide +kernel, call_int1, op_int1⟩
  refine mem_case h (fun e => ?_) (fun h => ?_)
  · cases e
    exact .inl ⟨rfl, "abs", _, by decide +kernel, call_abs, op_abs⟩
  refine mem_case h (fun e => ?_) (fun h => ?_)
  · cases e
    exact .inl ⟨rfl, "max", _, by decide +kernel, CallR.or (call_max2 hc) (CallR.or (cr_max hc) (call_maxT hr hc)), by rw [hK]; exact OpS.or op_max2 (OpS.or op_max1 op_maxT)⟩
  refine mem_case h (fun e => ?_) (fun h => ?_)
  · cases e
    exact .inl ⟨rfl, "min", _, by decide +kernel, CallR.or (call_min2 hc) (CallR.or (cr_min hc) (call_minT hr hc)), by rw [hK]; exact OpS.or op_min2 (OpS.or op_min1 op_minT)⟩
  refine mem_case h (fun e => ?_) (fun h => ?_)
  · cases e
    exact .inl ⟨rfl, "sum", _, by decide +kernel, cr_sum hc, by rw [hK]; exact op_sum⟩
  refine mem_case h (fun e => ?_) (fun h => ?_)
  · cases e
    exact .inr ⟨rfl, "tuple", _, by decide +kernel, call_tuple_of, by rw [hK]; exact op_tuple⟩
  refine mem_case h (fun e => ?_) (fun h => ?_)
  · cases e
    exact .inr ⟨rfl, "list", _, by decide +kernel, call_list_of, by rw [hK]; exact op_list⟩
  refine mem_case h (fun e => ?_) (fun h => ?_)
  · cases e
    exact .inl ⟨rfl, "all", _, by decide +kernel, cr_all hc, by rw [hK]; exact op_all⟩
  refine mem_case h (fun e => ?_) (fun h => ?_)
  · cases e
    exact .inl ⟨rfl, "any", _, by decide +kernel, cr_any hc, by rw [hK]; exact op_any⟩
  refine mem_case h (fun e => ?_) (fun h => ?_)
  · cases e
    exact .inl ⟨rfl, "sorted", _, by decide +kernel, cr_sortedI, by rw [hK]; exact op_sorted⟩
  refine mem_case h (fun e => ?_) (fun h => ?_)
  · cases e
    exact .inr ⟨rfl, "str", _, by decide +kernel, call_str_int, op_strI⟩
  · cases h
end
end Ev
set_option maxHeartbeats 4000000
/-! Ev, part U: from a text to its semantics: expressions, tests, sources. -/
namespace Ev
open PySem PySem.Spec PyProof.Rows L2

/-! ### what is said of a text's shape alone -/
def isStarB : Expr → Bool
  | .Starred .. => true
  | _ => false
theorem star_cons {e : Expr} {es : List Expr} {env : Env} (h : isStarB e = false) : starEach (e :: es) env = (false, eval e env) :: starEach es env := by
  cases e <;> first | rfl | cases h
theorem star_any {env : Env} {pos : Pos} : ∀ {es : List Expr}, es.all (fun e => !isStarB e) = true → (backTo pos (starEach es env)).any (·.1) = false
  | [], _ => rfl
  | e :: es, h => by
    rw [List.all_cons, Bool.and_eq_true] at h
    rw [star_cons (by simpa using h.1)]
    show (false || (backTo pos (starEach es env)).any (·.1)) = false
    rw [star_any h.2]
    rfl
def baseB : Expr → Bool
  | .Call (.Name _ _) [] [] _ => false
  | _ => true
theorem base_ok {o : Expr} {f : Str} {env : Env} (h : baseB o = true) : attributeBase o f env (eval o env) = eval o env := by
  unfold attributeBase
  split
  · cases h
  · rfl
def truthB : Expr → Bool
  | .UnaryOp .. => false
  | .BoolOp .. => false
  | .IfExp .. => false
  | .Compare .. => false
  | _ => true
theorem truth_ok {a : Expr} {env : Env} (h : truthB a = true) : ∀ whole, isTrue a env whole = (do let v ← whole; standAt a.pos; holding [v] (truthy v)) := by
  intro whole
  cases a <;> first | rfl | cases h
def ixB : Expr → Bool
  | .Slice .. => false
  | .Tuple .. => false
  | .Starred .. => false
  | _ => true
def markB (op : CmpOp) (e : Expr) : Bool := behindInMarks op e
def notCompB : Expr → Bool
  | .ListComp .. => false
  | .SetComp .. => false
  | .DictComp .. => false
  | _ => true
theorem swaps_ok {e : Expr} {t : Option Expr} {n : Nat} {env : Env} (h : notCompB e = true) : swapsWith e t n env = pure false := by
  unfold swapsWith
  cases e <;> first | rfl | cases h
def notSetB : Expr → Bool
  | .Set .. => false
  | _ => true
theorem set_ok {e : Expr} {env : Env} {x : Value} (h : notSetB e = true) : foldedSetIterable e env x = pure x := by
  unfold foldedSetIterable
  cases e <;> first | rfl | cases h
def relabS (scope sc : Scope) : Scope := { scope with names := scope.names.map fun (n, k) => if (k == .free && sc.kind == .function && sc.names.lookup n == some .cell) then (n, .cell) else (n, k) }
theorem relab_ok (scope : Scope) (env : Env) : relabel scope env = relabS scope env.scope := rfl

/-! ### arguments -/
def cMs (re : Expr → Option M) : List Expr → Option (List M)
  | [] => some []
  | e :: es => if isStarB e = true then none else (match re e, cMs re es with
    | some m, some ms => some (m :: ms)
    | _, _ => none)
def cAs (re : Expr → Option M) : List Expr → Option MA
  | [] => some (mArgs [])
  | e :: es => match e with
    | .Starred a _ => (match re a, cAs re es with
      | some m, some ma => some (mStar m ma)
      | _, _ => none)
    | e => (match re e, cAs re es with
      | some m, some ma => some (mCons m ma)
      | _, _ => none)
section
variable {G : Gam} {k : Nat} {C : CEnv} {pn : Option Addr} {W : WX} {X : Cx} {re : Expr → Option M}
theorem cMs_ok (hre : ∀ e m, re e = some m → PE X e (tM G pn W m)) : ∀ {es : List Expr} {ms : List M}, cMs re es = some ms → PA X es (tMA G pn W (mArgs ms)) ∧ es.all (fun e => !isStarB e) = true
  | [], ms, h => by cases h; exact ⟨PA_nil, rfl⟩
  | e :: es, ms, h => by
    unfold cMs at h
    split at h
    · cases h
    · rename_i hs
      have hs : isStarB e = false := by simpa using hs
      split at h
      · rename_i m ms' h1 h2
        cases h
        obtain ⟨a, b⟩ := cMs_ok hre h2
        exact ⟨PA_cons (hre e m h1) a (star_cons hs), by rw [List.all_cons, hs, b]; rfl⟩
      · cases h
theorem cAs_ok (hK : X.K = G.K) (hre : ∀ e m, re e = some m → PE X e (tM G pn W m)) : ∀ {es : List Expr} {ma : MA}, cAs re es = some ma → PA X es (tMA G pn W ma) ∧ PlainA ma
  | [], ma, h => by cases h; exact ⟨PA_nil, .nil⟩
  | e :: es, ma, h => by
    by_cases hs : isStarB e = true
    · cases e with
      | Starred a p =>
        have h : (match re a, cAs re es with
          | some m, some ma => some (mStar m ma)
          | _, _ => none) = some ma := h
        split at h
        · rename_i m ma' h1 h2
          cases h
          obtain ⟨a1, b⟩ := cAs_ok hK hre h2
          exact ⟨PA_star hK (hre a m h1) a1 rfl, .star b⟩
        · cases h
      | _ => cases hs
    · have hs : isStarB e = false := by simpa using hs
      have h : (match re e, cAs re es with
        | some m, some ma => some (mCons m ma)
        | _, _ => none) = some ma := by cases e <;> first | exact h | cases hs
      split at h
      · rename_i m ma' h1 h2
        cases h
        obtain ⟨a, b⟩ := cAs_ok hK hre h2
        exact ⟨PA_consG (hre e m h1) a (star_cons hs), .cons b⟩
      · cases h

/-! ### calls by a name -/
/-- the class that isinstance is asked for -/
def btOf (x : Str) : Option BT := get1 [("int", BT.int), ("bool", BT.bool), ("tuple", BT.tuple), ("list", BT.list), ("str", BT.str), ("dict", BT.dict)] x
theorem btOf_ok {x : Str} {b : BT} (h : btOf x = some b) : bootBuiltins x = some (.type (btS b)) := by
  have h := get1_ok h
  refine mem_case h (fun e => ?_) (fun h => ?_)
  · cases e; decide +kernel
  refine mem_case h (fun e => ?_) (fun h => ?_)
  · cases e; decide +kernel
  refine mem_case h (fun e => ?_) (fun h => ?_)
  · cases e; decide +kernel
  refine mem_case h (fun e => ?_) (fun h => ?_)
  · cases e; decide +kernel
  refine mem_case h (fun e => ?_) (fun h => ?_)
  · cases e; decide +kernel
  refine mem_case h (fun e => ?_) (fun h => ?_)
  · cases e; decide +kernel
  · cases h
def cIsi (C : CEnv) (re : Expr → Option M) (e : Expr) (t : Str) : Option M := if glB C.sc t = true ∧ okName t = true ∧ isStarB e = false then (match re e with
    | some m => (match get1 C.cls t with
      | some c => some (mOp (oIs1 (isiC C.L c)) [m])
      | none => (match btOf t with
        | some b => if C.free.contains t = true then some (mOp (oIs1 (isiB C.L b)) [m]) else none
        | none => none))
    | none => none) else none
theorem cIsi_ok (c : Ctx G k C pn W X) (hg : Gl X "isinstance") (hf : ("isinstance" : Str) ∈ C.free) (hre : ∀ e m, re e = some m → PE X e (tM G pn W m)) {e : Expr} {t : Str} {p q pos : Pos} {m : M} (h : cIsi C re e t = some m) :
    PE X (.Call (.Name "isinstance" p) [e, .Name t q] [] pos) (tM G pn W m) := by
  unfold cIsi at h
  split at h
  · rename_i hc
    obtain ⟨h1, h2, h3⟩ := hc
    obtain ⟨n1, n2, n3⟩ := okName_ok h2
    have s1 : starEach [e, .Name t q] X.env = (false, eval e X.env) :: starEach [.Name t q] X.env := star_cons h3
    split at h
    · rename_i m0 hm
      split at h
      · rename_i ci hci
        cases h
        obtain ⟨A, a1, a2⟩ := c.glob.cls t ci (get1_ok hci)
        refine PE_isi (u := .ref A) (cv := .ref A) c.good.K hg (c.mgn hf) (hre e _ hm) (pe_glob (c.gl h1) (by rw [c.good.mg]; exact a2) rfl n1) (fun F H v d kk Q s rx ee q => isC_sound c.glob.gf a1 s rx ee q) s1 rfl rfl
      · split at h
        · rename_i b hb
          split at h
          · rename_i hfr
            cases h
            exact PE_isi (u := .type (btS b)) (cv := .ty (btS b)) c.good.K hg (c.mgn hf) (hre e _ hm) (pe_bltn (c.gl h1) (c.mgn (by simpa using hfr)) (btOf_ok hb) rfl n3 n1) (fun F H v d kk Q s rx ee q => isB_sound c.glob.gf s rx ee q) s1 rfl rfl
          · cases h
        · cases h
    · cases h
  · cases h
def cCall (C : CEnv) (re : Expr → Option M) (x : Str) (es : List Expr) : Option M := if glB C.sc x = true ∧ okName x = true then (match get1 C.fns x with
    | some p => if es.all (fun e => !isStarB e) = true then (cAs re es).map (mCall p.2) else none
    | none => (match get1 C.mks x with
      | some p => if es.all (fun e => !isStarB e) = true ∧ es ≠ [] then (cAs re es).map (mCall p.2) else none
      | none => if C.free.contains x = true then (match bltF x with
          | some bf => if es = [] then none else (cMs re es).map (mOp bf.2)
          | none => if x = "isinstance" then (match es with
            | [e, .Name t _] => cIsi C re e t
            | _ => none) else none) else none)) else none
theorem cCall_ok (c : Ctx G k C pn W X) (hre : ∀ e m, re e = some m → PE X e (tM G pn W m)) {x : Str} {es : List Expr} {p pos : Pos} {m : M} (h : cCall C re x es = some m) : PE X (.Call (.Name x p) es [] pos) (tM G pn W m) := by
  have hK := c.good.K
  unfold cCall at h
  split at h
  · rename_i hc
    obtain ⟨h1, h2⟩ := hc
    obtain ⟨n1, n2, n3⟩ := okName_ok h2
    split at h
    · rename_i jf hjf
      obtain ⟨j, f⟩ := jf
      split at h
      · rename_i hst
        cases q : cAs re es with
        | none => rw [q] at h; cases h
        | some ma =>
          rw [q] at h
          cases h
          obtain ⟨hA, hP⟩ := cAs_ok hK hre q
          obtain ⟨a, a1, a2, a3, a4⟩ := c.glob.fns x j f (get1_ok hjf)
          have FR : FnR X.prog X.w X.K X.mg X.base (L2.CX G.P G.w) k a (spF G f) := by rw [c.good.prog, c.good.w, c.good.K, c.good.mg, c.good.base]; exact a3
          cases es with
          | nil =>
            refine PE.imp (pe_callRS0 FR c.good.room (c.gl h1) (by rw [c.good.mg]; exact a1) (by rw [hK]; exact a2) c.good.pa n1) fun σ H Q q => ?_
            cases (show some (mArgs []) = some ma by assumption)
            exact tMA_nil (tM_call hP q)
          | cons e es =>
            rw [List.all_cons, Bool.and_eq_true] at hst
            exact PE.imp (pe_callRS FR c.good.room (c.gl h1) (by rw [c.good.mg]; exact a1) (by rw [hK]; exact a2) c.good.pa hA n1 (star_cons (by simpa using hst.1)) (star_any hst.2)) fun σ H Q q => tM_call hP q
      · cases h
    · split at h
      · rename_i cf hcf
        obtain ⟨ci, f⟩ := cf
        split at h
        · rename_i hst
          obtain ⟨hst, hne⟩ := hst
          cases q : cAs re es with
          | none => rw [q] at h; cases h
          | some ma =>
            rw [q] at h
            cases h
            obtain ⟨hA, hP⟩ := cAs_ok hK hre q
            obtain ⟨b1, b2, A, g, k', b3, b4, b5, b6, b7⟩ := c.glob.mks x ci f (get1_ok hcf)
            have FR : FnR X.prog X.w X.K X.mg X.base (L2.CX G.P G.w) k' g (spI G ci f.run) := by rw [c.good.prog, c.good.w, c.good.K, c.good.mg, c.good.base]; exact b7
            cases es with
            | nil => exact absurd rfl hne
            | cons e es =>
              rw [List.all_cons, Bool.and_eq_true] at hst
              exact PE.imp (pe_makeS (by rw [hK]; exact b6) FR (c.good.room.mono b3) (c.gl h1) (by rw [c.good.mg]; exact b5) c.good.pa hA n1 (star_cons (by simpa using hst.1)) (star_any hst.2)) fun σ H Q q => tM_make b4 b1 b2 hP q
        · cases h
      · split at h
        · rename_i hfr
          have hfr : x ∈ C.free := by simpa using hfr
          split at h
          · rename_i bf hbf
            obtain ⟨b, f⟩ := bf
            split at h
            · cases h
            · rename_i hne
              cases q : cMs re es with
              | none => rw [q] at h; cases h
              | some ms =>
                rw [q] at h
                cases h
                obtain ⟨hA, hst⟩ := cMs_ok hre q
                cases es with
                | nil => exact absurd rfl hne
                | cons e es =>
                  rw [List.all_cons, Bool.and_eq_true] at hst
                  rcases blt_ok (G := G) hbf c.good.room c.good.calm hK with ⟨_, id, R, r1, r2, r3⟩ | ⟨_, T, R, r1, r2, r3⟩
                  · exact PE_callB r2 r3 (c.gl h1) (c.mgn hfr) r1 hA n3 n1 (star_cons (by simpa using hst.1)) (star_any hst.2)
                  · exact PE_callTy r2 r3 (c.gl h1) (c.mgn hfr) r1 hA n3 n1 (star_cons (by simpa using hst.1)) (star_any hst.2)
          · split at h
            · rename_i hx
              subst hx
              split at h
              · exact cIsi_ok c (c.gl h1) hfr hre h
              · cases h
            · cases h
        · cases h
  · cases h
end
end Ev
set_option maxHeartbeats 4000000
/-! Ev, part V: from a text to its semantics: subscripts, methods, targets, sources, comprehensions. -/
namespace Ev
open PySem PySem.Spec PyProof.Rows L2

/-! ### range -/
def rngL (lo c : Int) (n : Nat) : List D := (List.range n).map fun i => .int (lo + (i : Nat) * c)
def rngL1 (lo : Int) (n : Nat) : List D := (List.range n).map fun i => .int (lo + (i : Nat))
def in62 (i : Int) : Bool := decide (-(2 ^ 62) ≤ i) && decide (i < 2 ^ 62)
theorem in62_ok {i : Int} (h : in62 i = true) : -(2 ^ 62) ≤ i ∧ i < 2 ^ 62 := by
  unfold in62 at h
  rw [Bool.and_eq_true] at h
  exact ⟨of_decide_eq_true h.1, of_decide_eq_true h.2⟩
def fR1 : List D → Option (List D)
  | [.int j] => if in62 j = true then some (rngL1 0 j.toNat) else none
  | _ => none
def fR2 : List D → Option (List D)
  | [.int i, .int j] => if in62 i = true ∧ in62 j = true then some (rngL1 i (j - i).toNat) else none
  | _ => none
def fR3 : List D → Option (List D)
  | [.int i, .int j, .int c] => if c ≠ 0 ∧ c.natAbs < 1073741824 ∧ Builtin.Range.small i j c = true ∧ 0 ≤ Builtin.Range.rangeSize i j c then some (rngL i c (Builtin.Range.rangeSize i j c).toNat) else none
  | _ => none
section
variable {G : Gam} {k : Nat} {C : CEnv} {pn : Option Addr} {W : WX} {X : Cx} {re : Expr → Option M}
theorem src_r1 : SrcS G (fun vs H R => ∃ j : Int, vs = [.int j] ∧ -(2 ^ 62) ≤ j ∧ j < 2 ^ 62 ∧ R (Itr 0 j.toNat) H) fR1 := by
  intro F H vs ds es R s rs e q
  unfold fR1 at e
  split at e
  · rename_i j
    split at e
    · rename_i hc
      cases e
      obtain ⟨v, ws, rfl, h1, h2⟩ := rs.inv_cons
      cases h2
      cases h1
      exact ⟨j, rfl, (in62_ok hc).1, (in62_ok hc).2, q _ drv_range1⟩
    · cases e
  · cases e
theorem src_r2 : SrcS G (fun vs H R => ∃ i j : Int, vs = [.int i, .int j] ∧ (-(2 ^ 62) ≤ i ∧ i < 2 ^ 62 ∧ -(2 ^ 62) ≤ j ∧ j < 2 ^ 62) ∧ R (Itr i (j - i).toNat) H) fR2 := by
  intro F H vs ds es R s rs e q
  unfold fR2 at e
  split at e
  · rename_i i j
    split at e
    · rename_i hc
      cases e
      obtain ⟨v, ws, rfl, h1, h2⟩ := rs.inv_cons
      obtain ⟨w, us, rfl, h3, h4⟩ := h2.inv_cons
      cases h4
      cases h1
      cases h3
      exact ⟨i, j, rfl, ⟨(in62_ok hc.1).1, (in62_ok hc.1).2, (in62_ok hc.2).1, (in62_ok hc.2).2⟩, q _ drv_range1⟩
    · cases e
  · cases e
theorem src_r3 : SrcS G (fun vs H R => ∃ (i j c : Int) (n : Nat), vs = [.int i, .int j, .int c] ∧ RgC i j c n ∧ R (Itc i c n) H) fR3 := by
  intro F H vs ds es R s rs e q
  unfold fR3 at e
  split at e
  · rename_i i j c
    split at e
    · rename_i hc
      cases e
      obtain ⟨v, ws, rfl, h1, h2⟩ := rs.inv_cons
      obtain ⟨w, us, rfl, h3, h4⟩ := h2.inv_cons
      obtain ⟨z, us, rfl, h5, h6⟩ := h4.inv_cons
      cases h6
      cases h1
      cases h3
      cases h5
      exact ⟨i, j, c, _, rfl, ⟨hc.1, hc.2.1, hc.2.2.1, (Int.toNat_of_nonneg hc.2.2.2).symm⟩, q _ drv_range⟩
    · cases e
  · cases e

/-! ### subscripts -/
def isM1 : Expr → Bool
  | .UnaryOp .USub (.Constant (.int 1) _ _) _ => true
  | _ => false
def cSub (re : Expr → Option M) (a ix : Expr) : Option M := match ix with
  | .Slice none none none _ => (re a).map fun m => mSl m none none
  | .Slice (some lo) none none _ => (match re a, re lo with
    | some m, some l => some (mSl m (some l) none)
    | _, _ => none)
  | .Slice none (some hi) none _ => (match re a, re hi with
    | some m, some h => some (mSl m none (some h))
    | _, _ => none)
  | .Slice (some lo) (some hi) none _ => (match re a, re lo, re hi with
    | some m, some l, some h => some (mSl m (some (mIntA l)) (some h))
    | _, _, _ => none)
  | .Slice none none (some st) _ => if isM1 st = true then (re a).map mRev else none
  | ix => if ixB ix = true then (match re a, re ix with
    | some m, some i => some (mOp oIx [m, i])
    | _, _ => none) else none
theorem ixB_ok {b : Expr} (h : ixB b = true) : PlainIx b := by
  intro o i
  cases b <;> first | rfl | cases h
theorem cSub_ok (hK : X.K = G.K) (hre : ∀ e m, re e = some m → PE X e (tM G pn W m)) {a ix : Expr} {pos : Pos} {m : M} (h : cSub re a ix = some m) : PE X (.Subscript a ix pos) (tM G pn W m) := by
  unfold cSub at h
  split at h
  · cases q : re a with
    | none => rw [q] at h; cases h
    | some m1 => rw [q] at h; cases h; exact PE_sl0 hK (hre _ _ q)
  · split at h
    · rename_i m1 l h1 h2
      cases h
      exact PE_slL hK (hre _ _ h1) (hre _ _ h2)
    · cases h
  · split at h
    · rename_i m1 l h1 h2
      cases h
      exact PE_slH hK (hre _ _ h1) (hre _ _ h2)
    · cases h
  · split at h
    · rename_i m1 l1 l2 h1 h2 h3
      cases h
      exact PE_slB hK (hre _ _ h1) (hre _ _ h2) (hre _ _ h3)
    · cases h
  · split at h
    · rename_i st p2 hst
      unfold isM1 at hst
      split at hst
      · cases q : re a with
        | none => rw [q] at h; cases h
        | some m1 => rw [q] at h; cases h; exact PE_rev hK (hre _ _ q)
      · cases hst
    · cases h
  · split at h
    · rename_i hb
      split at h
      · rename_i m1 m2 h1 h2
        cases h
        exact PE_ix hK (hre _ _ h1) (hre _ _ h2) (ixB_ok hb)
      · cases h
    · cases h

/-! ### methods -/
def cMeth (C : CEnv) (re : Expr → Option M) (o : Expr) (f : Str) (es : List Expr) (line : Bool) : Option M := if line = false ∨ baseB o = false then none else
  if f = "bit_length" ∧ es = [] then (re o).map fun m => mOp (one pBits) [m]
  else (match o with
    | .Name x _ => if okName x = true ∧ visB C.sc x = true then (match ixN C.N x with
      | some i => if f = "append" then (match es with
          | [e] => if isStarB e = true then none else (re e).map (mAppend i)
          | _ => none)
        else if f = "extend" then (match es with
          | [e] => if isStarB e = true then none else (re e).map (mExtend i)
          | _ => none)
        else if f = "pop" then (match es with
          | [] => some (mPop i)
          | [e] => if isStarB e = true then none else (re e).map (mPopAt i)
          | _ => none)
        else none
      | none => none) else none
    | _ => none)
theorem cMeth_ok (c : Ctx G k C pn W X) (hre : ∀ e m, re e = some m → PE X e (tM G pn W m)) {o : Expr} {f : Str} {es : List Expr} {apos pos : Pos} {m : M} (h : cMeth C re o f es (apos.endLine == pos.line) = some m) : PE X (.Call (.Attribute o f apos) es [] pos) (tM G pn W m) := by
  have hK := c.good.K
  have one1 : ∀ {e : Expr} {m1 : M}, re e = some m1 → isStarB e = false → PA X [e] (tMA G pn W (mArgs [m1])) := fun {e m1} h1 h2 => PA_cons (hre _ _ h1) PA_nil (star_cons h2)
  unfold cMeth at h
  split at h
  · cases h
  · rename_i hlb
    rw [not_or] at hlb
    have hline : (apos.endLine == pos.line) = true := by simpa using hlb.1
    have hbase : baseB o = true := by simpa using hlb.2
    split at h
    · rename_i hfe
      obtain ⟨rfl, rfl⟩ := hfe
      cases q : re o with
      | none => rw [q] at h; cases h
      | some m1 => rw [q] at h; cases h; exact PE_bits (hre _ _ q) (base_ok hbase) hline
    · rename_i hneg
      split at h
      · rename_i x p
        split at h
        · rename_i hx
          obtain ⟨n1, n2, n3⟩ := okName_ok hx.1
          split at h
          · rename_i i hi
            have hv : PE X (.Name x p) (tVar i) := pe_var (c.ix hi) (c.vis hx.2) n1 n2
            split at h
            · rename_i hf
              subst hf
              split at h
              · rename_i e
                split at h
                · cases h
                · rename_i hs
                  have hs : isStarB e = false := by simpa using hs
                  cases q : re e with
                  | none => rw [q] at h; cases h
                  | some m1 =>
                    rw [q] at h
                    cases h
                    refine PE.imp (pe_bm PySem.F.plainAttrs_list PySem.F.slot_list_append PySem.F.type_list_append mt_append hv (one1 q hs) (base_ok hbase) (by rw [star_cons hs]; rfl) hline (star_cons hs) rfl) fun σ H Q h => ?_
                    rw [hK]
                    exact tM_append h
              · cases h
            · split at h
              · rename_i hf
                subst hf
                split at h
                · rename_i e
                  split at h
                  · cases h
                  · rename_i hs
                    have hs : isStarB e = false := by simpa using hs
                    cases q : re e with
                    | none => rw [q] at h; cases h
                    | some m1 =>
                      rw [q] at h
                      cases h
                      refine PE.imp (pe_bm PySem.F.plainAttrs_list PySem.F.slot_list_extend PySem.F.type_list_extend mt_extend hv (one1 q hs) (base_ok hbase) (by rw [star_cons hs]; rfl) hline (star_cons hs) rfl) fun σ H Q h => ?_
                      rw [hK]
                      exact tM_extend h
                · cases h
              · split at h
                · rename_i hf
                  subst hf
                  split at h
                  · cases h
                    refine PE.imp (pe_bm0 PySem.F.plainAttrs_list PySem.F.slot_list_pop PySem.F.type_list_pop mt_pop hv (base_ok hbase) hline) fun σ H Q h => ?_
                    rw [hK]
                    exact tM_pop h
                  · rename_i e
                    split at h
                    · cases h
                    · rename_i hs
                      have hs : isStarB e = false := by simpa using hs
                      cases q : re e with
                      | none => rw [q] at h; cases h
                      | some m1 =>
                        rw [q] at h
                        cases h
                        refine PE.imp (pe_bm PySem.F.plainAttrs_list PySem.F.slot_list_pop PySem.F.type_list_pop mt_popAt hv (one1 q hs) (base_ok hbase) (by rw [star_cons hs]; rfl) hline (star_cons hs) rfl) fun σ H Q h => ?_
                        rw [hK]
                        exact tM_popAt h
                  · cases h
                · cases h
          · cases h
        · cases h
      · cases h

/-! ### e.f -/
def cAttr (C : CEnv) (re : Expr → Option M) (o : Expr) (f : Str) : Option M := if baseB o = true then (match re o with
    | some m => (match get1 C.slots f with
      | some T => some (mOp (one (pSl T)) [m])
      | none => (get1 C.props f).map fun p => mProp p.1 p.2 m)
    | none => none) else none
theorem cAttr_ok (c : Ctx G k C pn W X) (hre : ∀ e m, re e = some m → PE X e (tM G pn W m)) {o : Expr} {f : Str} {pos : Pos} {m : M} (h : cAttr C re o f = some m) : PE X (.Attribute o f pos) (tM G pn W m) := by
  have hK := c.good.K
  unfold cAttr at h
  split at h
  · rename_i hb
    split at h
    · rename_i m1 h1
      split at h
      · rename_i T hT
        cases h
        exact PE_slot hK (c.glob.slots f T (get1_ok hT)) (hre _ _ h1) (base_ok hb)
      · cases q : get1 C.props f with
        | none => rw [q] at h; cases h
        | some cf =>
          obtain ⟨ci, fn⟩ := cf
          rw [q] at h
          cases h
          obtain ⟨b1, A, p, g, k', b2, b3, b4, b5, b6⟩ := c.glob.props f ci fn (get1_ok q)
          have FR : FnR X.prog X.w X.K X.mg X.base (L2.CX G.P G.w) k' g (spF G fn) := by rw [c.good.prog, c.good.w, c.good.K, c.good.mg, c.good.base]; exact b6
          have noE : ∀ (H : Hp) (s : Shared) (e : Value) (s' : Shared), L2.CX G.P G.w X.stack H s (fun _ _ _ => False) e s' → False := fun H s e s' z => by
            obtain ⟨_, _, _, _, _, _, _, _, _, _, _, _, z⟩ := z
            exact z
          exact PE.imp (SlX.pe_propSl (hre _ _ h1) (by rw [hK]; exact b4) (by rw [hK]; exact b5.at_) (by rw [hK]; exact b5.get) (by rw [hK]; exact b5.tak) (by rw [hK]; exact b5.rec_) FR (c.good.room.mono b2) noE (base_ok hb)) fun σ H Q q => tM_prop b3 b1 q
    · cases h
  · cases h
end
end Ev
set_option maxHeartbeats 4000000
/-! Ev, part W: from a text to its semantics: targets, sources, comprehensions, the whole of expressions. -/
namespace Ev
open PySem PySem.Spec PyProof.Rows L2

/-! ### targets -/
def locB (C : CEnv) (x : Str) : Bool := decide (C.sc.names.lookup x = some .local) || (C.top && decide (C.sc.names.lookup x = some .cell))
def pinB (C : CEnv) (i : Nat) : Bool := !C.wr || decide (i ≠ 0)
section
variable {G : Gam} {k : Nat} {C : CEnv} {pn : Option Addr} {W : WX} {X : Cx}
theorem Ctx.pin0 (c : Ctx G k C pn W X) {i : Nat} (h : pinB C i = true) : i ≠ 0 ∨ pn = none := by
  unfold pinB at h
  rw [Bool.or_eq_true] at h
  rcases h with h | h
  · exact .inr (c.pin (by simpa using h))
  · exact .inl (of_decide_eq_true h)
theorem Ctx.loc (c : Ctx G k C pn W X) {x : Str} (h : locB C x = true) : Loc X.env.scope x ∧ (X.fn x = true ∨ X.env.scope.names.lookup x = some .local) := by
  unfold locB at h
  rw [Bool.or_eq_true, Bool.and_eq_true] at h
  rw [c.good.sc]
  rcases h with h | ⟨h1, h2⟩
  · exact ⟨.inl (of_decide_eq_true h), .inr (of_decide_eq_true h)⟩
  · exact ⟨.inr (of_decide_eq_true h2), .inl (c.good.fn h1 x)⟩
theorem Ctx.nd (c : Ctx G k C pn W X) : X.N.Nodup := by rw [c.good.names]; exact c.good.nd
/-- the slot of a target -/
def cTg (C : CEnv) (x : Str) : Option Nat := if locB C x = true then (match ixN C.N x with
    | some i => if pinB C i = true then some i else none
    | none => none) else none
theorem cTg_ok (c : Ctx G k C pn W X) {x : Str} {i : Nat} (h : cTg C x = some i) : X.N[i]? = some x ∧ (i ≠ 0 ∨ pn = none) ∧ Loc X.env.scope x ∧ (X.fn x = true ∨ X.env.scope.names.lookup x = some .local) := by
  unfold cTg at h
  split at h
  · rename_i hl
    split at h
    · rename_i j hj
      split at h
      · rename_i hp
        cases h
        exact ⟨c.ix hj, c.pin0 hp, c.loc hl⟩
      · cases h
    · cases h
  · cases h
def cGs (f : Expr → Option (TF × List Nat)) : List Expr → Option (TFs × List Nat)
  | [] => some (tfNil, [])
  | e :: es => if isStarB e = true then none else (match f e, cGs f es with
    | some p, some q => some (tfCons p.1 q.1, p.2 ++ q.2)
    | _, _ => none)
def cG : Nat → CEnv → Expr → Option (TF × List Nat)
  | 0, _, _ => none
  | n + 1, C, e => match e with
    | .Name x _ => (cTg C x).map fun i => (tfName i, [i])
    | .Tuple es _ _ => (cGs (cG n C) es).map fun p => (tfTup es.length p.1, p.2)
    | _ => none
def gGs (f : Expr → TG) : List Expr → TGs
  | [] => gNil
  | e :: es => gCons (f e) (gGs f es)
def gG (K : PySem.W.Frag) : Nat → CEnv → Expr → TG
  | 0, _, _ => fun _ _ _ _ => False
  | n + 1, C, e => match e with
    | .Name x _ => (match cTg C x with
      | some i => gName i
      | none => fun _ _ _ _ => False)
    | .Tuple es _ _ => gAny K es.length (gGs (gG K n C) es)
    | _ => fun _ _ _ _ => False
theorem asg_cons {e : Expr} {es : List Expr} {env : Env} (h : isStarB e = false) : assignEach (e :: es) env = (false, assign e env) :: assignEach es env := by
  cases e <;> first | rfl | cases h
theorem asg_all {env : Env} : ∀ {es : List Expr}, es.all (fun e => !isStarB e) = true → (assignEach es env).length = es.length ∧ (assignEach es env).findIdx? (·.1) = none
  | [], _ => ⟨rfl, rfl⟩
  | e :: es, h => by
    rw [List.all_cons, Bool.and_eq_true] at h
    obtain ⟨h1, h2⟩ := asg_all (env := env) h.2
    rw [asg_cons (by simpa using h.1)]
    exact ⟨congrArg Nat.succ h1, by rw [List.findIdx?_cons, h2]; rfl⟩
theorem cGs_ok {f : Expr → Option (TF × List Nat)} {g : Expr → TG} (hf : ∀ e tf T, f e = some (tf, T) → PG X e (g e) ∧ TgOK G pn T tf (g e)) : ∀ {es : List Expr} {tfs : TFs} {T : List Nat}, cGs f es = some (tfs, T) → (PGs X es (gGs g es) ∧ TgsOK G pn T tfs (gGs g es)) ∧ es.all (fun e => !isStarB e) = true
  | [], tfs, T, h => by cases h; exact ⟨⟨pgs_nil, tgs_nil⟩, rfl⟩
  | e :: es, tfs, T, h => by
    unfold cGs at h
    split at h
    · cases h
    · rename_i hs
      have hs : isStarB e = false := by simpa using hs
      split at h
      · rename_i p q h1 h2
        cases h
        obtain ⟨a1, a2⟩ := hf e p.1 p.2 h1
        obtain ⟨⟨b1, b2⟩, b3⟩ := cGs_ok hf h2
        exact ⟨⟨pgs_cons a1 b1 (by rw [asg_cons hs]; rfl), tgs_cons a2 b2⟩, by rw [List.all_cons, hs, b3]; rfl⟩
      · cases h
theorem cG_ok (c : Ctx G k C pn W X) : ∀ {n : Nat} {e : Expr} {tf : TF} {T : List Nat}, cG n C e = some (tf, T) → PG X e (gG G.K n C e) ∧ TgOK G pn T tf (gG G.K n C e)
  | 0, _, _, _, h => by cases h
  | n + 1, e, tf, T, h => by
    unfold cG at h
    split at h
    · rename_i x p
      cases q : cTg C x with
      | none => rw [q] at h; cases h
      | some i =>
        rw [q] at h
        cases h
        obtain ⟨h1, h2, h3, h4⟩ := cTg_ok c q
        have e1 : gG G.K (n + 1) C (.Name x p) = gName i := by
          show (match cTg C x with
            | some i => gName i
            | none => fun _ _ _ _ => False) = _
          rw [q]
        rw [e1]
        exact ⟨pg_name c.nd h1 h3 h4, tg_name h2⟩
    · rename_i es kk p
      cases q : cGs (cG n C) es with
      | none => rw [q] at h; cases h
      | some r =>
        obtain ⟨tfs, T'⟩ := r
        rw [q] at h
        cases h
        obtain ⟨⟨b1, b2⟩, b3⟩ := cGs_ok (fun e tf T h => cG_ok c (n := n) h) q
        obtain ⟨a1, a2⟩ := asg_all (env := X.env) b3
        refine ⟨?_, tg_tup b2⟩
        have := PG_or (pg_tup (pos := p) (k := kk) c.good.calm b1 a1 a2) (pg_unl (pos := p) (k := kk) c.good.calm b1 a1 a2)
        rw [c.good.K] at this
        exact this
    · cases h

/-! ### sources -/
def isTupB : Expr → Bool
  | .Tuple .. => true
  | _ => false
def srcF (x : Str) (tup : Bool) (n : Nat) : Option (List D → Option (List D)) :=
  if x = "range" then (if n = 1 then some fR1 else if n = 2 then some fR2 else if n = 3 then some fR3 else none)
  else if x = "enumerate" then (if n = 1 ∧ tup = true then some fEnum else none)
  else if x = "zip" then (if n = 2 ∧ tup = true then some fZip else none) else none
def cSrcB (C : CEnv) (x : Str) : Bool := glB C.sc x && okName x && C.free.contains x
def cI (C : CEnv) (re : Expr → Option M) (tg iter : Expr) : Option MI := match iter with
  | .Call (.Name x _) es [] _ => (match (if cSrcB C x = true then srcF x (isTupB tg) es.length else none) with
    | some f => (cMs re es).map fun ms => srcD (mArgs ms) f
    | none => (re iter).map mIter)
  | _ => (re iter).map mIter
theorem cI_ok (c : Ctx G k C pn W X) {re : Expr → Option M} (hre : ∀ e m, re e = some m → PE X e (tM G pn W m)) {tg iter : Expr} {mi : MI} (h : cI C re tg iter = some mi) : PI X tg iter (tI G pn W mi) := by
  have hK := c.good.K
  have plain : (re iter).map mIter = some mi → PI X tg iter (tI G pn W mi) := fun h => by
    cases q : re iter with
    | none => rw [q] at h; cases h
    | some m => rw [q] at h; cases h; exact PI_iter hK (hre _ _ q)
  unfold cI at h
  split at h
  · rename_i x p es pos
    split at h
    · rename_i f hf
      split at hf
      · rename_i hb
        unfold cSrcB at hb
        rw [Bool.and_eq_true, Bool.and_eq_true] at hb
        obtain ⟨⟨hg, hn⟩, hfr⟩ := hb
        have hfr : x ∈ C.free := by simpa using hfr
        have hg := c.gl hg
        cases q : cMs re es with
        | none => rw [q] at h; cases h
        | some ms =>
          rw [q] at h
          cases h
          obtain ⟨hA, hst⟩ := cMs_ok hre q
          have hP := PlainA.args ms
          unfold srcF at hf
          split at hf
          · rename_i hx
            subst hx
            split at hf
            · rename_i hl
              cases hf
              match es, hl, hst, hA with
              | [a], _, hst, hA =>
                rw [List.all_cons, Bool.and_eq_true] at hst
                have sa : isStarB a = false := by simpa using hst.1
                exact PI.imp (pi_range1 hg (c.mgn hfr) hA (star_cons sa)) fun σ H R q => tI_src hP src_r1 q
            · split at hf
              · rename_i hl
                cases hf
                match es, hl, hst, hA with
                | [a, b], _, hst, hA =>
                  rw [List.all_cons, List.all_cons, Bool.and_eq_true, Bool.and_eq_true] at hst
                  have sa : isStarB a = false := by simpa using hst.1
                  have sb : isStarB b = false := by simpa using hst.2.1
                  exact PI.imp (pi_range2 hg (c.mgn hfr) hA (by rw [star_cons sa, star_cons sb]; rfl) (star_cons sb)) fun σ H R q => tI_src hP src_r2 q
              · split at hf
                · rename_i hl
                  cases hf
                  match es, hl, hst, hA with
                  | [a, b, d], _, hst, hA =>
                    rw [List.all_cons, Bool.and_eq_true] at hst
                    have sa : isStarB a = false := by simpa using hst.1
                    exact PI.imp (pi_range3 hg (c.mgn hfr) hA (star_cons sa) (star_any hst.2)) fun σ H R q => tI_src hP src_r3 q
                · cases hf
          · split at hf
            · rename_i hx
              subst hx
              split at hf
              · rename_i hl
                cases hf
                obtain ⟨hl, ht⟩ := hl
                cases tg <;> first | cases ht | skip
                match es, hl, hst, hA with
                | [a], _, hst, hA =>
                  rw [List.all_cons, Bool.and_eq_true] at hst
                  have sa : isStarB a = false := by simpa using hst.1
                  exact PI_enum hK hg (c.mgn hfr) hP hA (star_cons sa)
              · cases hf
            · split at hf
              · rename_i hx
                subst hx
                split at hf
                · rename_i hl
                  cases hf
                  obtain ⟨hl, ht⟩ := hl
                  cases tg <;> first | cases ht | skip
                  match es, hl, hst, hA with
                  | [a, b], _, hst, hA =>
                    rw [List.all_cons, Bool.and_eq_true] at hst
                    have sa : isStarB a = false := by simpa using hst.1
                    exact PI_zip hK hg (c.mgn hfr) hP hA (star_cons sa) (star_any hst.2)
                · cases hf
              · cases hf
      · cases hf
    · exact plain h
  · exact plain h
end
end Ev
set_option maxHeartbeats 4000000
/-! Ev, part X: from a text to its semantics: comprehensions, tests, expressions as a whole. -/
namespace Ev
open PySem PySem.Spec PyProof.Rows L2

structure CF where
  e : CEnv → Expr → Option M
  t : CEnv → Expr → Option MT
def SE (G : Gam) (k : Nat) (f : CEnv → Expr → Option M) : Prop := ∀ (C : CEnv) (e : Expr) (m : M), f C e = some m → ∀ (X : Cx) (pn : Option Addr) (W : WX), Ctx G k C pn W X → PE X e (tM G pn W m)
def ST (G : Gam) (k : Nat) (f : CEnv → Expr → Option MT) : Prop := ∀ (C : CEnv) (e : Expr) (m : MT), f C e = some m → ∀ (X : Cx) (pn : Option Addr) (W : WX), Ctx G k C pn W X → PT X e (tMT G pn W m)

/-! ### comprehensions -/
def ownOf (N : List Str) (scope : Scope) : List (Str × Nat) := scope.names.filterMap fun p => if decide (p.2 = .local) || decide (p.2 = .cell) then (ixN N p.1).map fun i => (p.1, i) else none
def inner (C : CEnv) (scope : Scope) : CEnv := { C with sc := relabS scope C.sc, top := false, lam := none }
def lcParts (cf : CF) (C : CEnv) (elt tg iter : Expr) (ifs : List Expr) (scope : Scope) : Option M :=
  if (blkC C.N C.sc scope (ownOf C.N scope) && notSetB iter && (!C.wr || decide (0 ∉ (ownOf C.N scope).map (·.2)))) = true then
    (match cI C (cf.e C) tg iter, cG 3 (inner C scope) tg, (match ifs with
        | [] => some mtYes
        | [c] => cf.t (inner C scope) c
        | _ => none), cf.e (inner C scope) elt with
      | some mi, some (tf, T), some tt, some el => if (T.all fun i => ((ownOf C.N scope).map (·.2)).contains i) = true then some (mLc ((ownOf C.N scope).map (·.2)) mi tf tt el) else none
      | _, _, _, _ => none) else none
section
variable {G : Gam} {k : Nat} {C : CEnv} {pn : Option Addr} {W : WX} {X : Cx}
theorem Ctx.inner (c : Ctx G k C pn W X) (scope : Scope) (s : Shared) (H : Hp) (A : Addr) (cl : List (Str × Addr)) (fp : List Addr) : Ctx G k (Ev.inner C scope) pn W0 (X.blk s H scope (compEnvC scope cl A X.env) fp) where
  good :=
    { prog := c.good.prog
      w := c.good.w
      K := c.good.K
      mg := c.good.mg
      base := c.good.base
      names := c.good.names
      nd := c.good.nd
      sc := by
        show relabel scope X.env = relabS scope C.sc
        rw [relab_ok, c.good.sc]
      calm := c.good.calm
      room := c.good.room
      own := fun h => by cases h
      pa := fun σ pins H s e s' _ z => by
        obtain ⟨_, _, _, _, _, _, _, _, _, _, _, _, z⟩ := z
        exact z.elim
      tk := LamX.takes0
      fn := fun h => by cases h
      stk := fun h => by cases h
      frm := fun h => by cases h }
  glob := ⟨c.glob.fns, c.glob.mks, c.glob.exs0, c.glob.exs1, c.glob.cons, c.glob.slots, c.glob.props, c.glob.cls, c.glob.gf, c.glob.free⟩
  pin := c.pin
  lam := fun l h => by cases h
/-- the parts of a comprehension -/
theorem lc_parts {cf : CF} (he : SE G k cf.e) (ht : ST G k cf.t) (c : Ctx G k C pn W X) {elt tg iter : Expr} {ifs : List Expr} {scope : Scope} {m : M} (h : lcParts cf C elt tg iter ifs scope = some m) :
    ∃ (own : List (Str × Nat)) (mi : MI) (tf : TF) (T : List Nat) (g : TG) (tt : MT) (el : M), m = mLc (own.map (·.2)) mi tf tt el ∧ PI X tg iter (tI G pn W mi) ∧ BlkOk X.N X.env.scope scope own ∧
      (∀ (s : Shared) (H : Hp) (A : Addr) (cl : List (Str × Addr)) (fp : List Addr), PG (X.blk s H scope (compEnvC scope cl A X.env) fp) tg g) ∧
      (∀ (s : Shared) (H : Hp) (A : Addr) (cl : List (Str × Addr)) (fp : List Addr), PTs (X.blk s H scope (compEnvC scope cl A X.env) fp) ifs (tMT G pn W0 tt)) ∧
      (∀ (s : Shared) (H : Hp) (A : Addr) (cl : List (Str × Addr)) (fp : List Addr), PE (X.blk s H scope (compEnvC scope cl A X.env) fp) elt (tM G pn W0 el)) ∧ TgOK G pn T tf g ∧ (∀ i ∈ T, i ∈ own.map (·.2)) ∧ (0 ∉ own.map (·.2) ∨ pn = none) ∧ ∀ x, foldedSetIterable iter X.env x = pure x := by
  unfold lcParts at h
  split at h
  · rename_i hb
    rw [Bool.and_eq_true, Bool.and_eq_true] at hb
    obtain ⟨⟨hb1, hb2⟩, hb3⟩ := hb
    have h0 : 0 ∉ (ownOf C.N scope).map (·.2) ∨ pn = none := by
      rw [Bool.or_eq_true] at hb3
      rcases hb3 with z | z
      · exact .inr (c.pin (by simpa using z))
      · exact .inl (of_decide_eq_true z)
    split at h
    · rename_i mi tf T tt el h1 h2 h3 h4
      split at h
      · rename_i hT
        cases h
        have hT' : ∀ i ∈ T, i ∈ (ownOf C.N scope).map (·.2) := fun i hi => by
          have := List.all_eq_true.mp hT i hi
          simpa using this
        refine ⟨ownOf C.N scope, mi, tf, T, gG G.K 3 (Ev.inner C scope) tg, tt, el, rfl, cI_ok c (fun e m hm => he C e m hm X pn W c) h1, by rw [c.good.names, c.good.sc]; exact blkOk_by hb1, fun s H A cl fp => (cG_ok (c.inner scope s H A cl fp) h2).1, fun s H A cl fp => ?_, fun s H A cl fp => he _ _ _ h4 _ pn W0 (c.inner scope s H A cl fp), (cG_ok (c.inner scope X.s_0 X.H_0 0 [] []) h2).2, hT', h0, fun x => set_ok hb2⟩
        split at h3
        · cases h3
          exact PTs_nil
        · exact PTs_one (ht _ _ _ h3 _ pn W0 (c.inner scope s H A cl fp))
        · cases h3
      · cases h
    · cases h
  · cases h
def cLc (cf : CF) (C : CEnv) (elt : Expr) (gens : List Comprehension) (scope : Scope) : Option M := match gens with
  | [⟨tg, iter, ifs, 0⟩] => lcParts cf C elt tg iter ifs scope
  | _ => none
theorem cLc_ok {cf : CF} (he : SE G k cf.e) (ht : ST G k cf.t) (c : Ctx G k C pn W X) {elt : Expr} {gens : List Comprehension} {scope : Scope} {pos : Pos} {m : M} (h : cLc cf C elt gens scope = some m) : PE X (.ListComp elt gens scope pos) (tM G pn W m) := by
  unfold cLc at h
  split at h
  · obtain ⟨own, mi, tf, T, g, tt, el, rfl, h1, h2, h3, h4, h5, h6, h7, h8, h9⟩ := lc_parts he ht c h
    exact PE_lc c.good.calm c.nd h1 h2 h3 h4 h5 h6 h7 h8 h9
  · cases h

/-! ### tests -/
def boT (op : BoolOp) (a b : MT) : MT := match op with
  | .And => mAnd a b
  | .Or => mOr a b
def boV (op : BoolOp) (a b : M) : M := match op with
  | .And => mAndV a b
  | .Or => mOrV a b
def cBT (ft : Expr → Option MT) (op : BoolOp) : List Expr → Option MT
  | [] => none
  | [e] => ft e
  | e :: es => (match ft e, cBT ft op es with
    | some a, some b => some (boT op a b)
    | _, _ => none)
theorem cBT_ok {ft : Expr → Option MT} (hft : ∀ e m, ft e = some m → PT X e (tMT G pn W m)) {op : BoolOp} {pos : Pos} : ∀ {es : List Expr} {m : MT}, cBT ft op es = some m → PW X (.BoolOp op es pos) (tMT G pn W m)
  | [], m, h => by cases h
  | [e], m, h => by
    have h : ft e = some m := h
    cases op with
    | And => exact PT_and1 (hft e m h)
    | Or => exact PT_or1 (hft e m h)
  | e :: e2 :: es, m, h => by
    have h : (match ft e, cBT ft op (e2 :: es) with
      | some a, some b => some (boT op a b)
      | _, _ => none) = some m := h
    split at h
    · rename_i a b h1 h2
      have ih := cBT_ok hft (pos := pos) h2
      cases op with
      | And => cases h; exact PT_and (hft e a h1) ih
      | Or => cases h; exact PT_or (hft e a h1) ih
    · cases h
def stepT (cf : CF) (C : CEnv) (e : Expr) : Option MT := match e with
  | .UnaryOp .Not a _ => (cf.t C a).map mNot
  | .BoolOp op es _ => cBT (cf.t C) op es
  | .Compare a [op] [b] _ => if behindInMarks op b = false then (match cf.e C a, cf.e C b with
    | some ma, some mb => some (mBool (mOp (cmpF op) [ma, mb]))
    | _, _ => none) else none
  | .Compare a [op, op'] [b, d] _ => if lastMarks [op, op'] [b, d] = false then (match cf.e C a, cf.e C b, cf.e C d with
    | some ma, some mb, some md => some (mBool (mChain (cmpF op) (cmpF op') ma mb md))
    | _, _, _ => none) else none
  | e => if truthB e = true then (cf.e C e).map mTruth else none
theorem stepT_ok {cf : CF} (he : SE G k cf.e) (ht : ST G k cf.t) : ST G k (stepT cf) := by
  intro C e m h X pn W c
  have hK := c.good.K
  have re : ∀ e m, cf.e C e = some m → PE X e (tM G pn W m) := fun e m hm => he C e m hm X pn W c
  have rt : ∀ e m, cf.t C e = some m → PT X e (tMT G pn W m) := fun e m hm => ht C e m hm X pn W c
  unfold stepT at h
  split at h
  · rename_i a p
    cases q : cf.t C a with
    | none => rw [q] at h; cases h
    | some t => rw [q] at h; cases h; exact PT_not (rt _ _ q)
  · exact (cBT_ok rt h).pt
  · rename_i a op b p
    split at h
    · rename_i hm
      split at h
      · rename_i ma mb h1 h2
        cases h
        obtain ⟨R, r1, f, r2, r3⟩ := cmp_ok (G := G) op c.good.room hK
        rw [r2]
        exact PT_cmp (OpR.lst r1) r3.ops (re _ _ h1) (re _ _ h2) hm
      · cases h
    · cases h
  · split at h
    · rename_i hm
      split at h
      · rename_i ma mb md h1 h2 h3
        cases h
        exact PT_chain c.good.room hK (re _ _ h1) (re _ _ h2) (re _ _ h3) hm
      · cases h
    · cases h
  · split at h
    · rename_i htr
      cases q : cf.e C e with
      | none => rw [q] at h; cases h
      | some m1 =>
        rw [q] at h
        cases h
        refine PT.imp (pt_truth (re _ _ q) (truth_ok htr)) fun σ H Q h => ?_
        rw [hK]
        exact tMT_truth h
    · cases h

/-! ### expressions -/
def cBV (f : Expr → Option M) (op : BoolOp) : List Expr → Option M
  | [] => none
  | [e] => f e
  | e :: es => (match f e, cBV f op es with
    | some a, some b => some (boV op a b)
    | _, _ => none)
theorem cBV_ok {f : Expr → Option M} (hf : ∀ e m, f e = some m → PE X e (tM G pn W m)) {op : BoolOp} {pos : Pos} : ∀ {es : List Expr} {m : M}, cBV f op es = some m → PE X (.BoolOp op es pos) (tM G pn W m)
  | [], m, h => by cases h
  | [e], m, h => by
    have h : f e = some m := h
    exact pe_one (hf e m h)
  | e :: e2 :: es, m, h => by
    have h : (match f e, cBV f op (e2 :: es) with
      | some a, some b => some (boV op a b)
      | _, _ => none) = some m := h
    split at h
    · rename_i a b h1 h2
      have ih := cBV_ok hf (pos := pos) h2
      cases op with
      | And => cases h; exact PE_and (hf e a h1) ih
      | Or => cases h; exact PE_or (hf e a h1) ih
    · cases h
end
end Ev
set_option maxHeartbeats 4000000
/-! Ev, part Y: from a text to its semantics: expressions as a whole. -/
namespace Ev
open PySem PySem.Spec PyProof.Rows L2

/-! ### a call of a local name that holds a def -/
def fnOf : List (Str × Nat × Fn) → Nat → Option (Str × Fn)
  | [], _ => none
  | (y, j, f) :: r, i => if j = i then some (y, f) else fnOf r i
theorem fnOf_ok : ∀ {l : List (Str × Nat × Fn)} {j : Nat} {x : Str} {f : Fn}, fnOf l j = some (x, f) → (x, j, f) ∈ l
  | [], _, _, _, h => by cases h
  | (y, i, g) :: r, j, x, f, h => by
    unfold fnOf at h
    split at h
    · rename_i e
      cases h
      rw [e]
      exact List.mem_cons_self
    · exact List.mem_cons_of_mem _ (fnOf_ok h)
def heldF (fs : List (Str × Nat × Fn)) (r : Rho) (i : Nat) : Option Fn := match r[i]? with
  | some (.val (.fn j)) => (fnOf fs j).map (·.2)
  | _ => none
def mHeld (fs : List (Str × Nat × Fn)) (i : Nat) (ma : MA) : M := fun r => match heldF fs r i with
  | some f => mCall f ma r
  | none => .stuck
def tHeld (G : Gam) (k i : Nat) (E : L2.St → XK) (t : TA) : TE := fun σ H Q => ∃ a sp, σ[i]? = some (some (.ref a)) ∧ FnR G.P G.w G.K G.mg G.base (L2.CX G.P G.w) k a sp ∧ PySem.W.keepIn G.K (.ref a) = true ∧ t σ H fun vs H1 => sp vs H1 Q (E σ)
section
variable {G : Gam} {k : Nat} {C : CEnv} {pn : Option Addr} {W : WX} {X : Cx}
theorem pe_held (c : Ctx G k C pn W X) {i : Nat} {x : Str} {p pos : Pos} {e : Expr} {es : List Expr} {t : TA} {E : L2.St → XK} (hN : X.N[i]? = some x) (hv : Vis X.env.scope x) (hx : ∀ σ, PassesAt (L2.CX G.P G.w) X σ (E σ)) (ha : PA X (e :: es) t)
    (hdb : (x == ("__debug__" : Str)) = false) (hcd : (x == ("__classdict__" : Str)) = false)
    (he : starEach (e :: es) X.env = (false, eval e X.env) :: starEach es X.env) (hpl : (backTo pos (starEach es X.env)).any (·.1) = false) : PE X (.Call (.Name x p) (e :: es) [] pos) (tHeld G k i E t) := by
  refine ⟨fun pins s σ H Q I h => ?_⟩
  obtain ⟨f, sp, hs, F, hk, ht⟩ := h
  have F : FnR X.prog X.w X.K X.mg X.base (L2.CX G.P G.w) k f sp := by rw [c.good.prog, c.good.w, c.good.K, c.good.mg, c.good.base]; exact F
  have hk : PySem.W.keepIn X.K (.ref f) = true := by rw [c.good.K]; exact hk
  refine wpAny_Call_Name_kw (thn ((pe_var (pos := p) hN hv hdb hcd).run pins s σ H (fun v H1 => v = .ref f ∧ H1 = H) I ⟨.ref f, hs, rfl, rfl⟩) fun u s1 ⟨v, H1, I1, r1, q1⟩ => ?_)
  obtain ⟨rfl, rfl⟩ := q1
  cases r1
  refine PySem.W.callWith_K (h₀ := X.base) I.ok.mod.kin hk (thn (ha.run pos pins s1 σ _ _ I1 ht) fun us s2 ⟨vs, H2, I2, r, q⟩ => ⟨I2.kIn, ?_⟩) he hpl
  exact run_fnRS F c.good.room (hx σ) I2 r q
theorem PE_held (c : Ctx G k C pn W X) {i : Nat} {x : Str} {p pos : Pos} {e : Expr} {es : List Expr} {ma : MA} (hN : X.N[i]? = some x) (hv : Vis X.env.scope x) (ha : PA X (e :: es) (tMA G pn W ma)) (hP : PlainA ma)
    (hdb : (x == ("__debug__" : Str)) = false) (hcd : (x == ("__classdict__" : Str)) = false)
    (he : starEach (e :: es) X.env = (false, eval e X.env) :: starEach es X.env) (hpl : (backTo pos (starEach es X.env)).any (·.1) = false) : PE X (.Call (.Name x p) (e :: es) [] pos) (tM G pn W (mHeld C.fns i ma)) := by
  refine PE.imp (pe_held c hN hv c.good.pa ha hdb hcd he hpl) fun σ H Q h => ?_
  obtain ⟨B, F, r, s, p⟩ := h
  unfold mHeld at p
  cases q : heldF C.fns r i with
  | none => rw [q] at p; exact p.elim
  | some f =>
    rw [q] at p
    unfold heldF at q
    split at q
    · rename_i j hj
      obtain ⟨v, h1, h2⟩ := s.val i _ hj
      cases q2 : fnOf C.fns j with
      | none => rw [q2] at q; cases q
      | some xf =>
        obtain ⟨y, f'⟩ := xf
        rw [q2] at q
        have q : f' = f := Option.some.inj q
        subst q
        obtain ⟨a, a1, a2, a3, a4⟩ := c.glob.fns y j f' (fnOf_ok q2)
        cases h2 with
        | fn j a' ha' =>
          rw [a4] at ha'
          cases ha'
          exact ⟨a, spF G f', h1, a3, a2, tM_call hP ⟨B, F, r, s, p⟩⟩
    · cases q

/-! ### {} -/
def mDct0 : M := fun r => .ok (.val (.dct [] [])) r
theorem PE_dct0 {pos : Pos} : PE X (.Dict [] [] pos) (tM G pn W mDct0) := PE.imp pe_dnewK fun σ H Q h => by
  obtain ⟨B, F, r, s, p⟩ := h
  have fin : Fin G F H (.val (.dct [] [])) Q := s.fin p
  exact fun p hp => fin (.ref p) (upd F p (.dK [])) (upd H p (.dK [])) (same_upd (s.fH.free hp)) (same_upd hp) (same_both s.fH) (NewO.upd hp) (.dct p [] [] [] upd_same .nil .nil)

/-! ### expressions -/
def cHeld (C : CEnv) (re : Expr → Option M) (x : Str) (es : List Expr) : Option M := if visB C.sc x = true ∧ okName x = true ∧ es ≠ [] ∧ es.all (fun e => !isStarB e) = true then (match ixN C.N x with
    | some i => (cAs re es).map (mHeld C.fns i)
    | none => none) else none
theorem cHeld_ok (c : Ctx G k C pn W X) {re : Expr → Option M} (hre : ∀ e m, re e = some m → PE X e (tM G pn W m)) {x : Str} {es : List Expr} {p pos : Pos} {m : M} (h : cHeld C re x es = some m) : PE X (.Call (.Name x p) es [] pos) (tM G pn W m) := by
  have hK := c.good.K
  unfold cHeld at h
  split at h
  · rename_i hc
    obtain ⟨h1, h2, h3, h4⟩ := hc
    obtain ⟨n1, n2, n3⟩ := okName_ok h2
    split at h
    · rename_i i hi
      cases q : cAs re es with
      | none => rw [q] at h; cases h
      | some ma =>
        rw [q] at h
        cases h
        obtain ⟨hA, hP⟩ := cAs_ok hK hre q
        cases es with
        | nil => exact absurd rfl h3
        | cons e es =>
          rw [List.all_cons, Bool.and_eq_true] at h4
          exact PE_held c (c.ix hi) (c.vis h1) hA hP n1 n2 (star_cons (by simpa using h4.1)) (star_any h4.2)
    · cases h
  · cases h
def cSortR (C : CEnv) (re : Expr → Option M) (x : Str) (e : Expr) : Option M := if x = "sorted" ∧ glB C.sc x = true ∧ C.free.contains x = true ∧ isStarB e = false then (re e).map fun m => mOp (one pSortedR) [m] else none
/-! ### x(lambda: ..) -/
def noParams : Arguments → Bool
  | ⟨[], [], none, [], [], none, []⟩ => true
  | _ => false
def lamC (C : CEnv) (scope : Scope) : CEnv := { C with sc := scope, top := false, lam := none }
def cLam (cf : CF) (C : CEnv) (x : Str) (params : Arguments) (body : Expr) (scope : Scope) : Option M := match C.lam with
  | some l => if x = l.x ∧ glB C.sc x = true ∧ okName x = true ∧ LamX.lamSB C.sc scope = true ∧ noParams params = true then (cf.e (lamC C scope) body).map (mMet l.exs l.sub l.hs l.fsh l.ftxt) else none
  | none => none
theorem Ctx.lamCtx (c : Ctx G k C pn W X) {k2 : Nat} (gl : GOk G k2 C) (scope : Scope) {A : Around} {outer : List Env} {s : Shared} {H : Hp} {E : XK} {f c' : Addr} (hr : Room k2 (A.deeper (LamX.lamEnv X scope s.heap.objs.size f c'))) :
    Ctx G k2 (lamC C scope) pn (fun cls d _ H => E cls d H) (LamX.lamCx X A outer s H E scope f c') where
  good :=
    { prog := c.good.prog
      w := c.good.w
      K := c.good.K
      mg := c.good.mg
      base := c.good.base
      names := c.good.names
      nd := c.good.nd
      sc := rfl
      calm := rfl
      room := hr
      own := fun h => by cases h
      pa := fun σ => by
        have := passAt (X := LamX.lamCx X A outer s H E scope f c') (W := fun cls d _ H => E cls d H) (takes_of rfl rfl rfl rfl) σ
        have e1 : X.prog = G.P := c.good.prog
        have e2 : X.w = G.w := c.good.w
        rw [← e1, ← e2]
        exact this
      tk := takes_of rfl rfl rfl rfl
      fn := fun h => by cases h
      stk := fun h => by cases h
      frm := fun h => by cases h }
  glob := ⟨gl.fns, gl.mks, gl.exs0, gl.exs1, gl.cons, gl.slots, gl.props, gl.cls, gl.gf, gl.free⟩
  pin := c.pin
  lam := fun l h => by cases h
theorem cLam_ok {cf : CF} (he : ∀ k, SE G k cf.e) (c : Ctx G k C pn W X) {x : Str} {params : Arguments} {body : Expr} {scope : Scope} {p lpos pos : Pos} {m : M} (h : cLam cf C x params body scope = some m) : PE X (.Call (.Name x p) [.Lambda params body scope lpos] [] pos) (tM G pn W m) := by
  unfold cLam at h
  split at h
  · rename_i l hl
    split at h
    · rename_i hc
      obtain ⟨hx, hg, hn, hs, hp⟩ := hc
      subst hx
      cases q : cf.e (lamC C scope) body with
      | none => rw [q] at h; cases h
      | some mb =>
        rw [q] at h
        cases h
        obtain ⟨n1, n2, n3⟩ := okName_ok hn
        obtain ⟨T, a, g, cc, P, k2, pg, bg, sg, dV, kV, doc, pm, cdv, ct, oc, an, od, osl, Ng, ss, ⟨t1, t2, t3, t4⟩, ⟨m1, m2, m3, m4, m5⟩, ⟨g1, g2, g3, g4⟩, ⟨b1, b2, b3, b4⟩, ⟨r1, r2, r3, r4⟩⟩ := (c.lam l hl).ex
        unfold noParams at hp
        split at hp
        · refine PE.imp (LamX.pe_lamcall (T := T) (TT := TTmet G.K ss l.fsh l.ftxt) (t := fun E => tM G pn (fun cls d _ H => E cls d H) mb) (c.gl hg) m1 m2 m3 m4 m5 g1 g2 g3 g4 b1 b2 b3 b4 (c.good.room.mono r1) (by rw [c.good.sc]; exact LamX.lamS_by hs) (by rfl) (fun _ _ _ _ _ => by rfl)
            (fun A outer s H E f c' hr => he k2 _ _ _ q _ _ _ (c.lamCtx r2 scope hr)) n1 r3 r4) fun σ H Q h => tM_lam t1 t2 t3 t4 h
        · cases hp
    · cases h
  · cases h
def stepE (cf : CF) (C : CEnv) (e : Expr) : Option M := match e with
  | .Call (.Name x _) [.Lambda params body scope _] [] _ => cLam cf C x params body scope
  | .Constant q _ _ => cConst q
  | .Name x _ => cName C x
  | .BinOp a op b _ => (match binF op, cf.e C a, cf.e C b with
    | some f, some ma, some mb => some (mOp f [ma, mb])
    | _, _, _ => none)
  | .UnaryOp .USub a _ => (cf.e C a).map fun m => mOp oNeg [m]
  | .UnaryOp .Not a _ => (cf.e C a).map mNotV
  | .BoolOp op es _ => cBV (cf.e C) op es
  | .Compare a [op] [b] _ => if behindInMarks op b = false then (match cf.e C a, cf.e C b with
    | some ma, some mb => some (mOp (cmpF op) [ma, mb])
    | _, _ => none) else none
  | .Compare a [op, op'] [b, d] _ => if lastMarks [op, op'] [b, d] = false then (match cf.e C a, cf.e C b, cf.e C d with
    | some ma, some mb, some md => some (mChain (cmpF op) (cmpF op') ma mb md)
    | _, _, _ => none) else none
  | .IfExp t a b _ => (match cf.t C t, cf.e C a, cf.e C b with
    | some tt, some ma, some mb => some (mIf tt ma mb)
    | _, _, _ => none)
  | .Tuple es _ _ => (cAs (cf.e C) es).map mTup
  | .List es _ => (cAs (cf.e C) es).map mLst
  | .Dict [] [] _ => some mDct0
  | .Subscript a ix _ => cSub (cf.e C) a ix
  | .Attribute o f _ => cAttr C (cf.e C) o f
  | .ListComp elt gens scope _ => cLc cf C elt gens scope
  | .Call (.Name x _) es [] _ => (match cCall C (cf.e C) x es with
    | some m => some m
    | none => cHeld C (cf.e C) x es)
  | .Call (.Name x _) [e] [⟨some "reverse", .Constant (.bool true) _ _, _⟩] _ => cSortR C (cf.e C) x e
  | .Call (.Attribute o f apos) es [] pos => cMeth C (cf.e C) o f es (apos.endLine == pos.line)
  | _ => none
theorem stepE_ok {cf : CF} (heA : ∀ k, SE G k cf.e) (htA : ∀ k, ST G k cf.t) : SE G k (stepE cf) := by
  intro C e m h X pn W c
  have he := heA k
  have ht := htA k
  have hK := c.good.K
  have re : ∀ e m, cf.e C e = some m → PE X e (tM G pn W m) := fun e m hm => he C e m hm X pn W c
  have rt : ∀ e m, cf.t C e = some m → PT X e (tMT G pn W m) := fun e m hm => ht C e m hm X pn W c
  unfold stepE at h
  split at h
  · exact cLam_ok heA c h
  · exact cConst_ok h
  · exact cName_ok c h
  · split at h
    · rename_i f ma mb h1 h2 h3
      cases h
      obtain ⟨r, r1, r2⟩ := bin_ok (X := X) (G := G) h1 hK
      exact PE_bin r1 r2 (re _ _ h2) (re _ _ h3)
    · cases h
  · rename_i a p
    cases q : cf.e C a with
    | none => rw [q] at h; cases h
    | some m1 => rw [q] at h; cases h; exact PE_un (un_ok (X := X) (G := G)).1 (un_ok (X := X) (G := G)).2 (re _ _ q)
  · rename_i a p
    cases q : cf.e C a with
    | none => rw [q] at h; cases h
    | some m1 => rw [q] at h; cases h; exact PE_not (re _ _ q)
  · exact cBV_ok re h
  · split at h
    · rename_i hm
      split at h
      · rename_i ma mb h1 h2
        cases h
        obtain ⟨R, r1, f, r2, r3⟩ := cmp_ok (G := G) _ c.good.room hK
        rw [r2]
        exact PE_cmp (OpR.lst r1) r3.ops (re _ _ h1) (re _ _ h2) hm
      · cases h
    · cases h
  · split at h
    · rename_i hm
      split at h
      · rename_i ma mb md h1 h2 h3
        cases h
        exact PE_chain c.good.room hK (re _ _ h1) (re _ _ h2) (re _ _ h3) hm
      · cases h
    · cases h
  · split at h
    · rename_i tt ma mb h1 h2 h3
      cases h
      exact PE_if (rt _ _ h1) (re _ _ h2) (re _ _ h3)
    · cases h
  · rename_i es j p
    cases q : cAs (cf.e C) es with
    | none => rw [q] at h; cases h
    | some ma =>
      rw [q] at h
      cases h
      obtain ⟨hA, hP⟩ := cAs_ok hK re q
      exact PE_tupD hP hA
  · rename_i es p
    cases q : cAs (cf.e C) es with
    | none => rw [q] at h; cases h
    | some ma =>
      rw [q] at h
      cases h
      obtain ⟨hA, hP⟩ := cAs_ok hK re q
      exact PE_lstD hP hA
  · cases h; exact PE_dct0
  · exact cSub_ok hK re h
  · exact cAttr_ok c re h
  · exact cLc_ok he ht c h
  · split at h
    · rename_i m1 q
      cases h
      exact cCall_ok c re q
    · exact cHeld_ok c re h
  · unfold cSortR at h
    split at h
    · rename_i hc
      obtain ⟨h1, h2, h3, h4⟩ := hc
      rename_i x p e j kp kp2 pos
      cases q : cf.e C e with
      | none => rw [q] at h; cases h
      | some m1 =>
        rw [q] at h
        cases h
        exact PE_sortedR hK h1 (c.gl h2) (c.mgn (by simpa using h3)) (re _ _ q) (star_cons h4) (by rw [star_cons h4]; rfl) (star_any (by rw [List.all_cons, h4]; rfl))
    · cases h
  · exact cMeth_ok c re h
  · cases h
def comp : Nat → CF
  | 0 => ⟨fun _ _ => none, fun _ _ => none⟩
  | n + 1 => ⟨stepE (comp n), stepT (comp n)⟩
theorem comp_ok : ∀ n : Nat, (∀ k, SE G k (comp n).e) ∧ (∀ k, ST G k (comp n).t)
  | 0 => ⟨fun _ _ _ _ h _ _ _ _ => (by cases h), fun _ _ _ _ h _ _ _ _ => (by cases h)⟩
  | n + 1 => ⟨fun k => stepE_ok (comp_ok n).1 (comp_ok n).2, fun k => stepT_ok ((comp_ok n).1 k) ((comp_ok n).2 k)⟩
end
end Ev
set_option maxHeartbeats 4000000
/-! Ev, part Z: from a text to its semantics: statements. -/
namespace Ev
open PySem PySem.Spec PyProof.Rows L2

/-! ### exchanged stores -/
def bkS (sc : Scope) : ScopeKind := if sc.kind.isAnnotationScope then .function else sc.kind
/-- does `name = comprehension` exchange its stores; none: not told -/
def swN (sc : Scope) (t : Str) (tl : Nat) : Expr → Option Bool
  | .ListComp _ _ s p => some (bkS sc == .function && sc.names.lookup t == some .local && tl == p.line && !(s.names.any fun (n, k) => n == t && (k == .local || k == .cell)))
  | .SetComp .. => none
  | .DictComp .. => none
  | _ => some false
theorem swN_ok {t : Str} {tp : Pos} {n : Nat} {env : Env} {e : Expr} {b : Bool} (h : swN env.scope t tp.line e = some b) : swapsWith e (some (.Name t tp)) n env = pure b := by
  cases e <;> first | (cases h; rfl) | cases h
theorem swT_ok {es : List Expr} {k : Nat} {p : Pos} {n : Nat} {env : Env} {e : Expr} : swapsWithSole [.Tuple es k p] e n env = pure false := by cases e <;> rfl
theorem swS_ok {a i : Expr} {p : Pos} {n : Nat} {env : Env} {e : Expr} : swapsWithSole [.Subscript a i p] e n env = pure false := by cases e <;> rfl
theorem stS_ok {a i : Expr} {p : Pos} {env : Env} {e : Expr} : swappedStores [.Subscript a i p] e env = pure none := by cases e <;> rfl
def starAny (vs : List Expr) : Bool := vs.any fun | .Starred .. => true | _ => false
def stNames (sc : Scope) (ts : List Expr) : List Str := ts.filterMap fun
    | .Name id pos => if sc.names.lookup id == some .local && pos.line == (ts.head?.map (·.pos.line)).getD 0 then some id else none
    | _ => none
/-- a, b = x, y: which names are stored the other way round; none: not told -/
def stT (sc : Scope) (ts : List Expr) : Expr → Option (Option (List Str))
  | .Tuple vs _ _ => if (!(ts.length == 2 || ts.length == 3) || vs.length != ts.length || bkS sc != .function) = true then some none
    else if starAny vs = true then some none
    else if (stNames sc ts).length ≠ ts.length ∨ (stNames sc ts).eraseDups.length ≠ (stNames sc ts).length then some none
    else if vs.all (foldedForSure 8) = true then some none
    else if vs.all (constantsAlone 8) = true then none
    else some (some (stNames sc ts))
  | .List .. => some none
  | _ => some none
theorem stT_ok {ts : List Expr} {k : Nat} {p : Pos} {env : Env} {e : Expr} {r : Option (List Str)} (h : stT env.scope ts e = some r) : swappedStores [.Tuple ts k p] e env = pure r := by
  cases e with
  | Tuple vs k2 p2 =>
    dsimp only [stT] at h
    unfold swappedStores
    dsimp only
    split at h
    · rename_i c
      cases h
      have c' : (!(ts.length == 2 || ts.length == 3) || vs.length != ts.length || env.blockKind != .function) = true := c
      rw [if_pos c']
    · rename_i c
      have c' : ¬ (!(ts.length == 2 || ts.length == 3) || vs.length != ts.length || env.blockKind != .function) = true := c
      rw [if_neg c']
      split at h
      · rename_i c2
        cases h
        have c2' : (vs.any fun | .Starred .. => true | _ => false) = true := c2
        exact if_pos c2'
      · rename_i c2
        have c2' : ¬ (vs.any fun | .Starred .. => true | _ => false) = true := c2
        refine (if_neg c2').trans ?_
        split at h
        · rename_i c3
          cases h
          refine if_pos ?_
          rw [Bool.or_eq_true]
          rcases c3 with c3 | c3
          · exact .inl (bne_iff_ne.mpr c3)
          · exact .inr (bne_iff_ne.mpr c3)
        · rename_i c3
          rw [not_or] at c3
          refine (if_neg ?_).trans ?_
          · rw [Bool.or_eq_true]
            rintro (c4 | c4)
            · exact bne_iff_ne.mp c4 |> c3.1
            · exact bne_iff_ne.mp c4 |> c3.2
          · split at h
            · rename_i c5
              cases h
              exact if_pos c5
            · rename_i c5
              refine (if_neg c5).trans ?_
              split at h
              · cases h
              · rename_i c6
                cases h
                exact if_neg c6
  | _ => cases h; rfl
/-! ### statements -/
def SS (G : Gam) (k : Nat) (f : CEnv → Stmt → Option MS) : Prop := ∀ (C : CEnv) (st : Stmt) (m : MS), f C st = some m → ∀ (X : Cx) (pn : Option Addr) (W : WX), Ctx G k C pn W X → PS X st (tS G pn W m)
def cSs (f : Stmt → Option MS) : List Stmt → Option MS
  | [] => some sPass
  | st :: r => (match f st, cSs f r with
    | some a, some b => some (sSeq a b)
    | _, _ => none)
def locS (C : CEnv) (x : Str) : Bool := decide (C.sc.names.lookup x = some .local)
def cAsg (cf : CF) (C : CEnv) (tg e : Expr) : Option MS := match tg with
  | .Name x p => (match cTg C x, swN C.sc x p.line e with
    | some i, some false => (cf.e C e).map (sSet i)
    | some i, some true => (match e with
      | .ListComp elt [⟨tg, iter, ifs, 0⟩] scope _ => if locS C x = true then (lcParts cf C elt tg iter ifs scope).map (sSet i) else none
      | _ => none)
    | _, _ => none)
  | .Subscript (.Name x _) a _ => if okName x = true ∧ visB C.sc x = true ∧ ixB a = true then (match ixN C.N x, cf.e C a, cf.e C e with
    | some i, some ma, some me => some (sSetIx i ma me)
    | _, _, _ => none) else none
  | .Tuple ts _ _ => (match stT C.sc ts e with
    | some none => (match cG 4 C tg, cf.e C e with
      | some (tf, _), some m => some (sUnp tf m)
      | _, _ => none)
    | some (some _) => (match ts, e with
      | [.Name x _, .Name y _], .Tuple [a, b] _ _ => if isStarB a = false ∧ isStarB b = false ∧ locS C x = true ∧ locS C y = true ∧ stT C.sc ts e = some (some [x, y]) then (match cTg C x, cTg C y, cf.e C a, cf.e C b with
        | some i, some j, some ma, some mb => if i ≠ j then some (sPar i j ma mb) else none
        | _, _, _, _ => none) else none
      | _, _ => none)
    | none => none)
  | _ => none
theorem asgSub_ok {o a : Expr} {p : Pos} {env : Env} (h : ixB a = true) : ∀ v, assign (.Subscript o a p) env v = (do
      let ov ← holding [v] (eval o env)
      let iv ← holding [v, ov] (eval a env)
      standAt p
      holding [v, ov, iv] (setItem ov iv v)
      release [v, ov, iv] []) := by
  intro v
  cases a <;> first | rfl | cases h
def isSliceB : Expr → Bool
  | .Slice .. => true
  | _ => false
theorem augStore_ok {a : Expr} (h : isSliceB a = false) : ∀ ov iv new, augStore a ov iv new = (do holding [new, ov, iv] (setItem ov iv new); release [new, ov, iv] []; pure .next) := by
  intro ov iv new
  cases a <;> first | rfl | cases h
def cAug (cf : CF) (C : CEnv) (tg : Expr) (op : Operator) (e : Expr) : Option MS := match tg with
  | .Name x _ => (match cTg C x, ipF op, cf.e C e with
    | some i, some f, some m => some (sAug f i m)
    | _, _, _ => none)
  | .Subscript (.Name x _) a _ => if okName x = true ∧ visB C.sc x = true ∧ isSliceB a = false then (match ixN C.N x, ipF op, cf.e C a, cf.e C e with
    | some i, some f, some ma, some me => some (sAugIx f i ma me)
    | _, _, _, _ => none) else none
  | _ => none
def cRaise (cf : CF) (C : CEnv) (x : Str) (e : Expr) : Option MS := if glB C.sc x = true ∧ okName x = true ∧ isStarB e = false then (match get1 C.exs0 x with
    | some c => (cf.e C e).map (sRaise0 c)
    | none => (match get1 C.exs1 x with
      | some c => (cf.e C e).map (sRaise1 c)
      | none => none)) else none
def stepS (cf : CF) (f : CEnv → Stmt → Option MS) (C : CEnv) (st : Stmt) : Option MS := match st with
  | .Pass _ => some sPass
  | .Break _ => some sBreak
  | .Continue _ => some sCont
  | .Expr e _ => if notCompB e = true then (cf.e C e).map sExpr else none
  | .Return (some e) _ => (cf.e C e).map sRet
  | .Return none _ => some sRetN
  | .If c a b _ => (match cf.t C c, cSs (f C) a, cSs (f C) b with
    | some t, some s1, some s2 => some (sIf t s1 s2)
    | _, _, _ => none)
  | .While c body [] _ => if C.top = true then (match cf.t C c, cSs (f C) body with
    | some t, some s1 => some (sWhile t s1)
    | _, _ => none) else none
  | .For tg iter body [] _ => if C.top = true ∧ notSetB iter = true then (match cI C (cf.e C) tg iter, cG 4 C tg, cSs (f C) body with
    | some mi, some (tf, _), some s1 => some (sFor mi tf s1)
    | _, _, _ => none) else none
  | .Assign [tg] e _ => cAsg cf C tg e
  | .AugAssign tg op e _ => cAug cf C tg op e
  | .Raise (some (.Call (.Name x _) [e] [] _)) none _ => cRaise cf C x e
  | _ => none
section
variable {G : Gam} {k : Nat} {C : CEnv} {pn : Option Addr} {W : WX} {X : Cx}
theorem cSs_ok {f : Stmt → Option MS} (hf : ∀ st m, f st = some m → PS X st (tS G pn W m)) : ∀ {sts : List Stmt} {m : MS}, cSs f sts = some m → PSs X sts (tS G pn W m)
  | [], m, h => by cases h; exact PSs_nil
  | st :: r, m, h => by
    unfold cSs at h
    split at h
    · rename_i a b h1 h2
      cases h
      exact PSs_cons (hf _ _ h1) (cSs_ok hf h2)
    · cases h
theorem locS_ok (c : Ctx G k C pn W X) {x : Str} (h : locS C x = true) : X.env.scope.names.lookup x = some .local := by
  rw [c.good.sc]
  exact of_decide_eq_true h
theorem cAsg_ok {cf : CF} (he : SE G k cf.e) (ht : ST G k cf.t) (c : Ctx G k C pn W X) {tg e : Expr} {pos : Pos} {m : MS} (h : cAsg cf C tg e = some m) : PS X (.Assign [tg] e pos) (tS G pn W m) := by
  have hK := c.good.K
  have re : ∀ e m, cf.e C e = some m → PE X e (tM G pn W m) := fun e m hm => he C e m hm X pn W c
  unfold cAsg at h
  split at h
  · rename_i x p
    split at h
    · rename_i i h1 h2
      obtain ⟨t1, t2, t3, t4⟩ := cTg_ok c h1
      cases q : cf.e C e with
      | none => rw [q] at h; cases h
      | some m1 =>
        rw [q] at h
        cases h
        exact PS_set t2 c.nd t1 t3 (re _ _ q) (swN_ok (by rw [c.good.sc]; exact h2)) t4
    · rename_i i h1 h2
      obtain ⟨t1, t2, t3, t4⟩ := cTg_ok c h1
      split at h
      · rename_i elt tg iter ifs scope p2
        split at h
        · rename_i hl
          cases q : lcParts cf C elt tg iter ifs scope with
          | none => rw [q] at h; cases h
          | some m1 =>
            rw [q] at h
            cases h
            obtain ⟨own, mi, tf, T, g, tt, el, rfl, a1, a2, a3, a4, a5, a6, a7, a8, a9⟩ := lc_parts he ht c q
            exact PS_setLc t2 c.good.calm c.nd t1 (locS_ok c hl) (swN_ok (by rw [c.good.sc]; exact h2)) a1 a2 a3 a4 a5 a6 a7 a8 a9
        · cases h
      · cases h
    · cases h
  · rename_i x p a p2
    split at h
    · rename_i hc
      obtain ⟨c1, c2, c3⟩ := hc
      obtain ⟨n1, n2, n3⟩ := okName_ok c1
      split at h
      · rename_i i ma me h1 h2 h3
        cases h
        refine PS.imp (ps_asg (re _ _ h3) (pg_sub (pe_var (c.ix h1) (c.vis c2) n1 n2) (re _ _ h2) set_list (asgSub_ok c3)) swS_ok stS_ok (by rfl)) fun D σ H h => ?_
        exact tS_setIx h
      · cases h
    · cases h
  · rename_i ts kk p
    split at h
    · rename_i h1
      split at h
      · rename_i tf T m1 h2 h3
        cases h
        obtain ⟨g1, g2⟩ := cG_ok c h2
        exact PS_unp (re _ _ h3) g1 g2 swT_ok (stT_ok (by rw [c.good.sc]; exact h1)) (by rfl)
      · cases h
    · split at h
      · rename_i x p1 y p2 a b k2 p3 _
        split at h
        · rename_i hc
          obtain ⟨c1, c2, c3, c4, c5⟩ := hc
          split at h
          · rename_i i j ma mb h1 h2 h3 h4
            split at h
            · rename_i hij
              cases h
              obtain ⟨t1, t2, t3, t4⟩ := cTg_ok c h1
              obtain ⟨u1, u2, u3, u4⟩ := cTg_ok c h2
              exact PS_par t2 u2 c.good.calm c.nd t1 u1 hij (locS_ok c c3) (locS_ok c c4) (re _ _ h3) (re _ _ h4) (star_cons c1) (star_cons c2) (stT_ok (by rw [c.good.sc]; exact c5)) swT_ok
            · cases h
          · cases h
        · cases h
      · cases h
    · cases h
  · cases h
theorem cAug_ok {cf : CF} (he : SE G k cf.e) (c : Ctx G k C pn W X) {tg e : Expr} {op : Operator} {pos : Pos} {m : MS} (h : cAug cf C tg op e = some m) : PS X (.AugAssign tg op e pos) (tS G pn W m) := by
  have hK := c.good.K
  have re : ∀ e m, cf.e C e = some m → PE X e (tM G pn W m) := fun e m hm => he C e m hm X pn W c
  unfold cAug at h
  split at h
  · split at h
    · rename_i i f m1 h1 h2 h3
      cases h
      obtain ⟨t1, t2, t3, t4⟩ := cTg_ok c h1
      exact PS_aug t2 c.nd t1 t3 (re _ _ h3) h2 t4
    · cases h
  · split at h
    · rename_i hc
      obtain ⟨c1, c2, c3⟩ := hc
      obtain ⟨n1, n2, n3⟩ := okName_ok c1
      split at h
      · rename_i i f ma me h1 h2 h3 h4
        cases h
        exact PS_augIx hK (c.ix h1) (c.vis c2) n1 n2 (re _ _ h3) (re _ _ h4) h2 (augStore_ok c3)
      · cases h
    · cases h
  · cases h
theorem cRaise_ok {cf : CF} (he : SE G k cf.e) (c : Ctx G k C pn W X) {x : Str} {e : Expr} {p p2 p3 : Pos} {m : MS} (h : cRaise cf C x e = some m) : PS X (.Raise (some (.Call (.Name x p) [e] [] p2)) none p3) (tS G pn W m) := by
  have hK := c.good.K
  have re : ∀ e m, cf.e C e = some m → PE X e (tM G pn W m) := fun e m hm => he C e m hm X pn W c
  unfold cRaise at h
  split at h
  · rename_i hc
    obtain ⟨c1, c2, c3⟩ := hc
    obtain ⟨n1, n2, n3⟩ := okName_ok c2
    split at h
    · rename_i ci hci
      cases q : cf.e C e with
      | none => rw [q] at h; cases h
      | some m1 =>
        rw [q] at h
        cases h
        obtain ⟨A, a1, a2, a3⟩ := c.glob.exs0 x ci (get1_ok hci)
        exact PS_raise0 hK a1 a3 c.good.calm c.good.tk (c.gl c1) (by rw [c.good.mg]; exact a2) (re _ _ q) (star_cons c3) n1
    · split at h
      · rename_i ci hci
        cases q : cf.e C e with
        | none => rw [q] at h; cases h
        | some m1 =>
          rw [q] at h
          cases h
          obtain ⟨hk, A, a1, a2, a3⟩ := c.glob.exs1 x ci (get1_ok hci)
          obtain ⟨k', rfl⟩ : ∃ k', k = k' + 1 := ⟨k - 1, by omega⟩
          exact PS_raise1 hK c.good.prog a1 a3 c.good.room c.good.calm c.good.tk (c.gl c1) (by rw [c.good.mg]; exact a2) (re _ _ q) (star_cons c3) n1
      · cases h
  · cases h
theorem stepS_ok {cf : CF} {f : CEnv → Stmt → Option MS} (he : SE G k cf.e) (ht : ST G k cf.t) (hf : SS G k f) : SS G k (stepS cf f) := by
  intro C st m h X pn W c
  have hK := c.good.K
  have re : ∀ e m, cf.e C e = some m → PE X e (tM G pn W m) := fun e m hm => he C e m hm X pn W c
  have rt : ∀ e m, cf.t C e = some m → PT X e (tMT G pn W m) := fun e m hm => ht C e m hm X pn W c
  have rs : ∀ {sts m}, cSs (f C) sts = some m → PSs X sts (tS G pn W m) := fun h => cSs_ok (fun st m hm => hf C st m hm X pn W c) h
  unfold stepS at h
  split at h
  · cases h; exact PS_pass
  · cases h; exact PS_break
  · cases h; exact PS_cont
  · rename_i e p
    split at h
    · rename_i hn
      cases q : cf.e C e with
      | none => rw [q] at h; cases h
      | some m1 => rw [q] at h; cases h; exact PS_expr (re _ _ q) (swaps_ok hn)
    · cases h
  · rename_i e p
    cases q : cf.e C e with
    | none => rw [q] at h; cases h
    | some m1 => rw [q] at h; cases h; exact PS_ret (re _ _ q)
  · cases h; exact PS_retN
  · split at h
    · rename_i t s1 s2 h1 h2 h3
      cases h
      exact PS_if (rt _ _ h1) (rs h2) (rs h3)
    · cases h
  · split at h
    · rename_i hc
      split at h
      · rename_i t s1 h1 h2
        cases h
        exact PS_while (c.good.own hc) (rt _ _ h1) (rs h2)
      · cases h
    · cases h
  · split at h
    · rename_i hc
      split at h
      · rename_i mi tf T s1 h1 h2 h3
        cases h
        obtain ⟨g1, g2⟩ := cG_ok c h2
        exact PS_for (c.good.own hc.1) c.good.calm (cI_ok c re h1) g1 g2 (rs h3) (fun x => set_ok hc.2)
      · cases h
    · cases h
  · exact cAsg_ok he ht c h
  · exact cAug_ok he c h
  · exact cRaise_ok he c h
  · cases h
def cS (cf : CF) : Nat → CEnv → Stmt → Option MS
  | 0 => fun _ _ => none
  | n + 1 => stepS cf (cS cf n)
theorem cS_ok {cf : CF} (he : SE G k cf.e) (ht : ST G k cf.t) : ∀ n : Nat, SS G k (cS cf n)
  | 0 => fun _ _ _ h => by cases h
  | n + 1 => stepS_ok he ht (cS_ok he ht n)
/-- a def's body -/
def cBody (C : CEnv) (body : List Stmt) : Option MS := cSs (cS (comp 12) 8 C) body
theorem cBody_ok (c : Ctx G k C pn W X) {body : List Stmt} {m : MS} (h : cBody C body = some m) : PSs X body (tS G pn W m) :=
  cSs_ok (fun st m hm => cS_ok ((comp_ok 12).1 k) ((comp_ok 12).2 k) 8 C st m hm X pn W c) h
end
end Ev
set_option maxHeartbeats 4000000
/-! Ev, part HA: what a program's head is asked, by computing. -/
namespace Ev
open PySem PySem.Spec PyProof.Rows L2 He

/-! ### functions -/
/-- a function object that is looked at -/
structure FzD where
  adr : PySem.W.Frag → Addr
  name : Str
  qual : Str
  params : Arguments
  body : List Stmt
  scope : Scope
  sup : Bool := false
abbrev FzW : Type := Option (Str × Str × Arguments × FuncBody × Scope × Addr × List Str × Addr)
def fzW (K : PySem.W.Frag) (a : Addr) : FzW := match K.lookup a with
  | some ⟨_, _, .func fd, _⟩ => some (fd.name, fd.qualname, fd.params, fd.body, fd.scope, fd.globals, fd.closure.map (·.1), fd.builtins)
  | _ => none
def FzD.val (d : FzD) : FzW := some (d.name, d.qual, d.params, .stmts d.body, d.scope, mainGlobals, if d.sup = true then ["__class__"] else [], builtinsNs)
def FzD.ok (K : PySem.W.Frag) (d : FzD) : Bool := PySem.W.keepIn K (.ref (d.adr K)) && (match K.lookup (d.adr K) with
  | some ⟨_, _, .func fd, _⟩ => PySem.W.codeIn K fd.code d.qual && (dflB K fd.defaults [] && kwdB K fd.kwdefaults [])
  | _ => false)
/-- the code object of a function, its table -/
def fzC (K : PySem.W.Frag) (d : FzD) : Addr := match K.lookup (d.adr K) with
  | some ⟨_, _, .func fd, _⟩ => (match fd.code with
    | .ref c => c
    | _ => 0)
  | _ => 0
def fzT (K : PySem.W.Frag) (d : FzD) : Addr := tabOf K (fzC K d)
/-- what is known of a plain function -/
structure FzOk (K : PySem.W.Frag) (d : FzD) : Prop where
  ex : ∃ (oc : Value) (od : Option Addr) (kV doc pm : Value) (an : Option Addr) (ct : Value) (osl : Array (Option Value)),
    K.lookup (d.adr K) = some ⟨oc, od, .func (PySem.W.fnOf d.name d.qual d.params d.body d.scope .none kV doc pm an (.ref (fzC K d)) ct), osl⟩ ∧ PySem.W.codeIn K (.ref (fzC K d)) d.qual = true
  kp : PySem.W.keepIn K (.ref (d.adr K)) = true
  fd : ∃ fd, FunD K d.name d.qual d.params d.body d.scope [] [] (d.adr K) fd
theorem fz_ok {K : PySem.W.Frag} {d : FzD} (hs : d.sup = false) (e : fzW K (d.adr K) = d.val) (c : d.ok K = true) : FzOk K d := by
  obtain ⟨kp, c2⟩ := ba c
  unfold fzW at e
  cases q : K.lookup (d.adr K) with
  | none => rw [q] at c2; cases c2
  | some o =>
    obtain ⟨oc, od, dt, osl⟩ := o
    rw [q] at c2 e
    cases dt with
    | func fd =>
      obtain ⟨n1, n2, n3, n4, n5, n6, n7, n8, n9, n10, n11, n12, n13, n14, n15⟩ := fd
      have e2 : (some (n1, n2, n3, n4, n5, n6, n7.map (·.1), n15) : FzW) = d.val := e
      unfold FzD.val at e2
      rw [hs] at e2
      simp only [Option.some.injEq, Prod.mk.injEq] at e2
      obtain ⟨h1, h2, h3, h4, h5, h6, h7, h8⟩ := e2
      have h7 : n7 = [] := by
        cases n7 with
        | nil => rfl
        | cons _ _ => cases h7
      subst h1 h2 h3 h4 h5 h6 h7 h8
      have c3 : (PySem.W.codeIn K n13 d.qual && (dflB K n8 [] && kwdB K n9 [])) = true := c2
      obtain ⟨k1, k2⟩ := ba c3
      obtain ⟨k3, k4⟩ := ba k2
      obtain ⟨cc, hc⟩ := codeIn_ref k1
      have hcc : fzC K d = cc := by
        unfold fzC
        rw [q, hc]
      have hd : n8 = .none := by
        rcases dflB_ok k3 with ⟨_, z⟩ | ⟨z, _⟩
        · exact z
        · exact absurd rfl z
      subst hc hd
      refine ⟨⟨oc, od, n9, n10, n11, n12, n14, osl, by rw [hcc]; exact q, by rw [hcc]; exact k1⟩, kp, ⟨_, ⟨oc, od, .none, n9, n10, n11, n12, .ref cc, n14, osl, rfl, q, k1, dflB_ok k3, kwdB_ok k4⟩, kp⟩⟩
    | _ => cases c2

/-! ### classes with slots -/
def pa (K : PySem.W.Frag) (x f : Str) : Addr := ma K (ga K x) f
def eqV (a b : Option Value) : Bool := decide (a = b)
def sclsB (K : PySem.W.Frag) (x : Str) : Bool := PySem.W.plainGet K (ga K x) Str.empty && (PySem.W.isClsIn K (ga K x) && (PySem.W.plainOver K (ga K x) && eqO (PySem.W.findIn K (.ref (ga K x)) "__setattr__") (some (some (.builtin "object.__setattr__")))))
theorem scls_ok {K : PySem.W.Frag} {x : Str} (h : sclsB K x = true) : SlX.SCls K (ga K x) := by
  obtain ⟨h1, h⟩ := ba h
  obtain ⟨h2, h⟩ := ba h
  obtain ⟨h3, h4⟩ := ba h
  exact ⟨h1, h2, h3, eqO_ok h4⟩
def clfB (K : PySem.W.Frag) (x : Str) : Bool := sclsB K x && (eqO (PySem.W.findIn K (.ref (ga K x)) "__class__") (some (some (.builtin "object.__class__"))) && (eqO (PySem.W.specialIn K (.builtin "object.__class__") "__get__") (some (some (.builtin "getset_descriptor.__get__"))) &&
  (decide (PySem.W.takesIn K (.builtin "object.__class__") = some true) && (decide (PySem.W.mroIn K (ga K x) (.type "object") = some true) && (decide (PySem.W.kitOne K (.ref (ga K x)) (.ref (ga K x)) = some true) &&
  ((allBT.all fun b => decide (PySem.W.kitOne K (.ref (ga K x)) (.type (btS b)) = some false)) && allVT.all fun v => decide (PySem.W.kitOne K (.type (vtS v)) (.ref (ga K x)) = some false)))))))
theorem clf_ok {K : PySem.W.Frag} {x : Str} (h : clfB K x = true) : ClF K (ga K x) := by
  obtain ⟨h1, h⟩ := ba h
  obtain ⟨h2, h⟩ := ba h
  obtain ⟨h3, h⟩ := ba h
  obtain ⟨h4, h⟩ := ba h
  obtain ⟨h5, h⟩ := ba h
  obtain ⟨h6, h⟩ := ba h
  obtain ⟨h7, h8⟩ := ba h
  exact ⟨scls_ok h1, ⟨eqO_ok h2, eqO_ok h3, of_decide_eq_true h4, of_decide_eq_true h5⟩, of_decide_eq_true h6,
    fun b => of_decide_eq_true (List.all_eq_true.mp h7 b (all_bt b)), fun v => of_decide_eq_true (List.all_eq_true.mp h8 v (all_vt v))⟩
def slotB (K : PySem.W.Frag) (x f : Str) (i : Nat) : Bool := eqO (PySem.W.findIn K (.ref (ga K x)) f) (some (some (.ref (pa K x f)))) && (eqO (PySem.W.specialIn K (.ref (pa K x f)) "__get__") (some (some (.builtin "member_descriptor.__get__"))) && (decide (PySem.W.takesIn K (.ref (pa K x f)) = some true) &&
  (eqV (PySem.W.typeIn K (.ref (pa K x f))) (some (.type "member_descriptor")) && (decide (PySem.W.slotIn K (pa K x f) (ga K x) = some i) && decide (i < 1000)))))
theorem slot_ok {K : PySem.W.Frag} {x f : Str} {i : Nat} (h : slotB K x f i = true) : SlX.Slot1 K (ga K x) f (pa K x f) i := by
  obtain ⟨h1, h⟩ := ba h
  obtain ⟨h2, h⟩ := ba h
  obtain ⟨h3, h⟩ := ba h
  obtain ⟨h4, h⟩ := ba h
  obtain ⟨h5, h6⟩ := ba h
  exact ⟨eqO_ok h1, eqO_ok h2, of_decide_eq_true h3, of_decide_eq_true h4, of_decide_eq_true h5, of_decide_eq_true h6⟩
/-- the getter of a property -/
def geta (x f : Str) (K : PySem.W.Frag) : Addr := match PySem.W.recIn K (pa K x f) "property" with
  | some (.ref g :: _) => g
  | _ => 0
def propB (K : PySem.W.Frag) (x f : Str) : Bool := eqO (PySem.W.findIn K (.ref (ga K x)) f) (some (some (.ref (pa K x f)))) && (eqO (PySem.W.specialIn K (.ref (pa K x f)) "__get__") (some (some (.builtin "property.__get__"))) && (decide (PySem.W.takesIn K (.ref (pa K x f)) = some true) &&
  (match PySem.W.recIn K (pa K x f) "property" with
  | some (.ref _ :: _) => true
  | _ => false)))
theorem prop_ok {K : PySem.W.Frag} {x f : Str} (h : propB K x f = true) : PropOf K (ga K x) f (pa K x f) (geta x f K) := by
  obtain ⟨h1, h⟩ := ba h
  obtain ⟨h2, h⟩ := ba h
  obtain ⟨h3, h4⟩ := ba h
  refine ⟨eqO_ok h1, eqO_ok h2, of_decide_eq_true h3, ?_⟩
  unfold geta
  split at h4
  · rename_i g r e
    rw [e]
    exact ⟨r, rfl⟩
  · cases h4
/-! ### exceptions -/
/-- the base's name, its tuple of bases -/
def excB : Nat → String × List Value
  | 0 => ("ValueError", [.type "ValueError", .type "Exception", .type "BaseException", .type "object"])
  | 1 => ("IndexError", [.type "IndexError", .type "LookupError", .type "Exception", .type "BaseException", .type "object"])
  | 2 => ("OverflowError", [.type "OverflowError", .type "ArithmeticError", .type "Exception", .type "BaseException", .type "object"])
  | 3 => ("LookupError", [.type "LookupError", .type "Exception", .type "BaseException", .type "object"])
  | _ => ("ArithmeticError", [.type "ArithmeticError", .type "Exception", .type "BaseException", .type "object"])
theorem excB_ok : ∀ n : Nat, ExcBaseFacts (excB n).1 ((excB n).1 ++ ".__new__") ((excB n).1 ++ ".__init__") (excB n).2
  | 0 => PySem.F.excBase_ValueError
  | 1 => PySem.F.excBase_IndexError
  | 2 => PySem.F.excBase_OverflowError
  | 3 => PySem.F.excBase_LookupError
  | _ + 4 => PySem.F.excBase_ArithmeticError
def expB (K : PySem.W.Frag) (x : Str) (n : Nat) : Bool := PySem.W.excIn K (ga K x) (excB n).2 ((excB n).1 ++ ".__new__") && (PySem.W.keepIn K (.ref (ga K x)) && (decide (PySem.W.subIn K (.ref (ga K x)) (.type "BaseException") = some true) && eqV (PySem.W.typeIn K (.ref (ga K x))) (some (.type "type"))))
theorem exp_ok {K : PySem.W.Frag} {x : Str} {n : Nat} (h : expB K x n = true) : ExP K (ga K x) := by
  obtain ⟨h1, h⟩ := ba h
  obtain ⟨h2, h⟩ := ba h
  obtain ⟨h3, h4⟩ := ba h
  exact ⟨⟨_, _, _, _, excB_ok n, h1⟩, h2, of_decide_eq_true h3, of_decide_eq_true h4⟩
end Ev
set_option maxHeartbeats 4000000
/-! Ev, part HB: an own exception with super().__init__(x); self.f = x, by computing. -/
namespace Ev
open PySem PySem.Spec PyProof.Rows L2 He

theorem kxsB_ok : ∀ n : Nat, PySem.W.KxsFacts (excB n).1 ((excB n).1 ++ ".__init__")
  | 0 => PySem.W.kxs_ValueError
  | 1 => PySem.W.kxs_IndexError
  | 2 => PySem.W.kxs_OverflowError
  | 3 => PySem.W.kxs_LookupError
  | _ + 4 => PySem.W.kxs_ArithmeticError
theorem stoB_ok : ∀ n : Nat, StoreFacts (excB n).1 (excB n).2 "object.__setattr__" "object"
  | 0 => PySem.F.store_ValueError
  | 1 => PySem.F.store_IndexError
  | 2 => PySem.F.store_OverflowError
  | 3 => PySem.F.store_LookupError
  | _ + 4 => PySem.F.store_ArithmeticError
def iniA (x : Str) (K : PySem.W.Frag) : Addr := ma K (ga K x) "__init__"
/-- the function: no defaults, one cell that holds the class -/
def xsF (K : PySem.W.Frag) (C a : Addr) : Bool := match K.lookup a with
  | some ⟨_, _, .func fd, _⟩ => decide (fd.defaults = .none) && (match fd.closure with
    | [(_, cc)] => (match K.lookup cc with
      | some ⟨_, _, .cell (some v), _⟩ => decide (v = .ref C)
      | _ => false)
    | _ => false)
  | _ => false
/-- the code object: its file -/
def xsC (K : PySem.W.Frag) (file : Str) (c : Addr) : Bool := match K.lookup c with
  | some ⟨_, _, .fields vs, _⟩ => (match (vs[2]? : Option Value) with
    | some (Value.str f _) => file == f
    | _ => false)
  | _ => false
def exsB (file : Str) (fld : Str) (d : FzD) (n : Nat) (x : Str) (K : PySem.W.Frag) : Bool :=
  PySem.W.excInitIn K (ga K x) (excB n).2 ((excB n).1 ++ ".__new__") && (PySem.W.excOver K (ga K x) (excB n).2 && (eqO (PySem.W.findIn K (.ref (ga K x)) "__init__") (some (some (.ref (iniA x K)))) && (xsF K (ga K x) (iniA x K) &&
  (PySem.W.isFn K (.ref (iniA x K)) && (PySem.W.codeIn K (.ref (fzC K d)) d.qual && (xsC K file (fzC K d) && (eqO (PySem.W.ks_superIn K (ga K x) (ga K x) "__init__") (some (some (.builtin ((excB n).1 ++ ".__init__")))) &&
  (decide (PySem.W.subIn K (.ref (ga K x)) (.type (excB n).1) = some true) && (decide (PySem.W.mroIn K (ga K x) (.ref (ga K x)) = some true) && (PySem.W.hasDictIn K (ga K x) && (eqO (PySem.W.findIn K (.ref (ga K x)) "__setattr__") (some (some (.builtin "object.__setattr__"))) &&
  (eqO (PySem.W.takerIn K (ga K x) fld) (some none) && (eqO (PySem.W.nsIn K cStatics "thirdparty.any") (some none) && (eqO (PySem.W.nsIn K mainGlobals "super") (some none) && (PySem.W.keepIn K (.ref (ga K x)) &&
  (decide (PySem.W.subIn K (.ref (ga K x)) (.type "BaseException") = some true) && (eqV (PySem.W.typeIn K (.ref (ga K x))) (some (.type "type")) && (match K.lookup (iniA x K) with
    | some ⟨_, _, .func fd, _⟩ => decide (fd.code = .ref (fzC K d))
    | _ => false))))))))))))))))))
theorem exs_ok {K : PySem.W.Frag} {P : Program} {file fld x slf gv : Str} {d : FzD} {n : Nat} {p : Nat → Pos} {ar : Arg} {pl : Sem Bool} (ha : d.adr = iniA x) (hs : d.sup = true) (e : fzW K (d.adr K) = d.val) (hb : d.body = supBody slf gv fld p) (hP : P.main.file = file)
    (hev : ∀ env : Env, eval (.Call (.Attribute (.Call (.Name "super" (p 0)) [] [] (p 1)) "__init__" (p 2)) [.Name gv (p 3)] [] (p 4)) env = (do
      let ov ← attributeBase (.Call (.Name "super" (p 0)) [] [] (p 1)) "__init__" env (eval (.Call (.Name "super" (p 0)) [] [] (p 1)) env)
      standAt (p 2).atName
      let (f, first) ← holding [ov] (getMethod ov "__init__" pl)
      callWith (p 4) f first (backTo (p 4) (starEach [.Name gv (p 3)] env)) []))
    (har : (d.params.posonlyargs ++ d.params.args).head? = some ar) (har2 : ar.arg = slf) (hne : slf ≠ gv)
    (sc1 : d.scope.names.lookup ("super" : Str) = some .globalImplicit) (sc2 : d.scope.names.lookup ("__class__" : Str) = some .free) (sc3 : d.scope.names.lookup slf = some .local) (sc4 : d.scope.names.lookup gv = some .local) (sc5 : ∀ y ∈ d.scope.names, y.2 ≠ .cell) (sc6 : d.scope.kind = .function) (sc7 : d.scope.isCoroutine = false) (sc8 : d.scope.isGenerator = false)
    (d1 : (slf == ("__debug__" : Str)) = false) (d2 : (gv == ("__debug__" : Str)) = false)
    (hbi : ∀ (kV doc pm ct cdv : Value) (an : Option Addr) (cc : Addr) (us : List Value), us.length = 2 → bindArgs (PySem.W.ksFn d.name d.qual d.params d.body d.scope .none kV doc pm an cdv ct cc) ⟨us, []⟩ = pure ([slf, gv].zip us))
    (htop : (P.main.scope.names.lookup ("super" : Str)).isSome = false) (h : exsB file fld d n x K = true) : ExS K P (ga K x) fld := by
  obtain ⟨c1, h⟩ := ba h
  obtain ⟨c2, h⟩ := ba h
  obtain ⟨c3, h⟩ := ba h
  obtain ⟨c4, h⟩ := ba h
  obtain ⟨c5, h⟩ := ba h
  obtain ⟨c6, h⟩ := ba h
  obtain ⟨c7, h⟩ := ba h
  obtain ⟨c8, h⟩ := ba h
  obtain ⟨c9, h⟩ := ba h
  obtain ⟨c10, h⟩ := ba h
  obtain ⟨c11, h⟩ := ba h
  obtain ⟨c12, h⟩ := ba h
  obtain ⟨c13, h⟩ := ba h
  obtain ⟨c14, h⟩ := ba h
  obtain ⟨c15, h⟩ := ba h
  obtain ⟨c16, h⟩ := ba h
  obtain ⟨c17, h⟩ := ba h
  obtain ⟨c18, c19⟩ := ba h
  refine ⟨?_, c11, eqO_ok c12, eqO_ok c13, eqO_ok c14, eqO_ok c15, htop, c16, of_decide_eq_true c17, of_decide_eq_true c18⟩
  rw [ha] at e
  unfold fzW at e
  unfold xsF at c4
  unfold xsC at c7
  cases q : K.lookup (iniA x K) with
  | none => rw [q] at c4; cases c4
  | some o =>
    obtain ⟨oc, od, dt, osl⟩ := o
    rw [q] at c4 e c19
    cases dt with
    | func fd =>
      obtain ⟨n1, n2, n3, n4, n5, n6, n7, n8, n9, n10, n11, n12, n13, n14, n15⟩ := fd
      have e2 : (some (n1, n2, n3, n4, n5, n6, n7.map (·.1), n15) : FzW) = d.val := e
      unfold FzD.val at e2
      rw [hs] at e2
      simp only [Option.some.injEq, Prod.mk.injEq] at e2
      obtain ⟨h1, h2, h3, h4, h5, h6, h7, h8⟩ := e2
      obtain ⟨j1, k2⟩ := ba c4
      have k1 : n8 = .none := of_decide_eq_true j1
      have k3 : n13 = .ref (fzC K d) := of_decide_eq_true c19
      cases n7 with
      | nil => cases h7
      | cons y r =>
        obtain ⟨yn, cc⟩ := y
        cases r with
        | cons _ _ => cases h7
        | nil =>
          have z7 : yn = "__class__" := by
            have := h7
            simp only [List.map_cons, List.map_nil, if_true] at this
            exact (List.cons.inj this).1
          subst h1 h2 h3 h4 h5 h6 z7 h8 k1 k3
          simp only at k2
          split at k2
          · rename_i cl cld v csl lkc
            have ev : v = .ref (ga K x) := of_decide_eq_true k2
            subst ev
            split at c7
            · rename_i ccl cdd vs ccs lkd
              split at c7
              · rename_i f tf hvs
                rw [hb] at q
                refine ⟨(excB n).1, (excB n).1 ++ ".__new__", (excB n).1 ++ ".__init__", (excB n).2, iniA x K, fzC K d, cc, d.name, d.qual, slf, gv, d.params, p, d.scope, n9, n10, n11, n14, oc, n12, od, osl, ccl, cl, cdd, cld, vs, ccs, csl, f, tf, ar, pl,
                  hev, excB_ok n, kxsB_ok n, stoB_ok n, c1, c2, eqO_ok c3, q, c5, c6, lkd, hvs, by rw [hP]; exact c7, lkc, eqO_ok c8, of_decide_eq_true c9, of_decide_eq_true c10, har, har2, hne, sc1, sc2, sc3, sc4, sc5, sc6, sc7, sc8, d1, d2, fun us hu => ?_⟩
                have := hbi n9 n10 n11 n14 (.ref (fzC K d)) n12 cc us hu
                rw [hb] at this
                exact this
              · cases c7
            · cases c7
          · cases k2
    | _ => cases c4
end Ev
set_option maxHeartbeats 4000000
/-! Ev, part HC: the Hook; a law's end. -/
namespace Ev
open PySem PySem.Spec PyProof.Rows L2 He

/-! ### the Hook -/
def asZ (g : Addr → Option Obj) (n : Nat) : List Addr := cStatics :: asD g n
structure SaysZ (fz tf : List FzD) (ex : PySem.W.Frag → Bool) (h : Heap) (K : PySem.W.Frag) : Prop where
  w : fz.map (fun d => fzW K (d.adr K)) = fz.map FzD.val
  ok : (fz.all fun d => d.sup || d.ok K) = true
  more : ex K = true
  hd : ∀ d ∈ tf, PySem.W.codeHdIn K (fzC K d) (fzT K d) = true
  out : ∀ d ∈ tf, K.lookup (fzT K d) = none
  empty : ∀ d ∈ tf, h.get? (fzT K d) = some { cls := .none, data := .fields #[] }
def tabsZ (g : Addr → Option Obj) (tf : List FzD) (K : PySem.W.Frag) : Bool := tf.all fun d => PySem.W.codeHdIn K (fzC K d) (fzT K d) && (match g (fzT K d) with
  | some o => emptyTab o
  | none => false)
abbrev AlZ : Type := Bool × List FzW
def obsZK (fz tf : List FzD) (ex : PySem.W.Frag → Bool) (g : Addr → Option Obj) (K : PySem.W.Frag) : AlZ := (ex K && ((fz.all fun d => d.sup || d.ok K) && tabsZ g tf K), fz.map fun d => fzW K (d.adr K))
def obsZ (n : Nat) (fz tf : List FzD) (ex : PySem.W.Frag → Bool) (g : Addr → Option Obj) : AlZ := obsZK fz tf ex g (frT g (asZ g n))
def valZ (fz : List FzD) : AlZ := (true, fz.map FzD.val)
theorem saysZ_of {n : Nat} {fz tf : List FzD} {ex : PySem.W.Frag → Bool} {h : Heap} (e : obsZ n fz tf ex h.get? = valZ fz) : SaysZ fz tf ex h (frT h.get? (asZ h.get? n)) := by
  have e1 : (ex (frT h.get? (asZ h.get? n)) && ((fz.all fun d => d.sup || d.ok (frT h.get? (asZ h.get? n))) && tabsZ h.get? tf (frT h.get? (asZ h.get? n)))) = true := congrArg (fun z : AlZ => z.1) e
  have e2 : fz.map (fun d => fzW (frT h.get? (asZ h.get? n)) (d.adr (frT h.get? (asZ h.get? n)))) = fz.map FzD.val := congrArg (fun z : AlZ => z.2) e
  obtain ⟨h1, h2⟩ := ba e1
  obtain ⟨h3, h4⟩ := ba h2
  have key : ∀ d ∈ tf, PySem.W.codeHdIn (frT h.get? (asZ h.get? n)) (fzC (frT h.get? (asZ h.get? n)) d) (fzT (frT h.get? (asZ h.get? n)) d) = true ∧ ∃ o, h.get? (fzT (frT h.get? (asZ h.get? n)) d) = some o ∧ emptyTab o = true := fun d hd => by
    obtain ⟨h5, h6⟩ := ba (List.all_eq_true.mp h4 d hd)
    refine ⟨h5, ?_⟩
    cases q : h.get? (fzT (frT h.get? (asZ h.get? n)) d) with
    | none => rw [q] at h6; cases h6
    | some o => rw [q] at h6; exact ⟨o, rfl, h6⟩
  exact ⟨e2, h3, h1, fun d hd => (key d hd).1, fun d hd => by
    obtain ⟨_, o, q, z⟩ := key d hd
    exact frT_none q z, fun d hd => by
    obtain ⟨_, o, q, z⟩ := key d hd
    rw [q, emptyTab_eq z]⟩
def hookZ (n : Nat) (fz tf : List FzD) (ex : PySem.W.Frag → Bool) : PySem.W.Hook where
  α := AlZ
  obs := fun s => obsZ n fz tf ex s.heap.get?
  val := fun _ => valZ fz
  says := fun _ h => ∃ K : PySem.W.Frag, K.In h ∧ SaysZ fz tf ex h K
  of := fun _ _ e => ⟨_, frT_in, saysZ_of e⟩
  keeps := fun _ _ _ ⟨K, hK, c⟩ k => ⟨K, PySem.W.Frag.In.keeps hK k, ⟨c.w, c.ok, c.more, c.hd, c.out, fun d hd => k _ _ (c.empty d hd)⟩⟩
theorem obsZ_eq {n : Nat} {fz tf : List FzD} {ex : PySem.W.Frag → Bool} {g : Addr → Option Obj} {s : Shared} (h : ∀ a, g a = s.heap.get? a) : obsZ n fz tf ex g = (hookZ n fz tf ex).obs s := by
  have e : g = s.heap.get? := funext h
  rw [e] <;> rfl
section
variable {fz tf : List FzD} {ex : PySem.W.Frag → Bool} {h : Heap} {K : PySem.W.Frag}
theorem SaysZ.at_ (c : SaysZ fz tf ex h K) (i : Nat) {d : FzD} (hi : fz[i]? = some d) : fzW K (d.adr K) = d.val := by
  have e : (fz.map fun d => fzW K (d.adr K))[i]? = (fz.map FzD.val)[i]? := by rw [c.w]
  rw [List.getElem?_map, List.getElem?_map, hi] at e
  exact Option.some.inj e
theorem SaysZ.def_ (c : SaysZ fz tf ex h K) (i : Nat) {d : FzD} (hi : fz[i]? = some d) (hs : d.sup = false) : FzOk K d := by
  refine fz_ok hs (c.at_ i hi) ?_
  have := List.all_eq_true.mp c.ok d (List.mem_of_getElem? hi)
  rw [hs, Bool.false_or] at this
  exact this
end

/-! ### the tables are kept -/
theorem tabs_upd {T : List (Addr × Str)} {H : Hp} {a : Addr} {o o' : HO} (ha : H a = some o) (h1 : ∀ ps, o ≠ .tbl ps) (h2 : ∀ c q, o ≠ LamX.CodeO c q) (t : LamX.Tabs T H) : LamX.Tabs T (upd H a o') := fun p hp => by
  obtain ⟨ps, e1, e2, e3⟩ := t p hp
  have ne : ∀ {b : Addr} {u : HO}, H b = some u → u ≠ o → b ≠ a := fun {b u} hb hu z => by
    rw [z, ha] at hb
    exact hu (Option.some.inj hb).symm
  refine ⟨ps, by rw [upd_ne (ne e1 (fun z => h1 ps z.symm))]; exact e1, e2, fun pos cv hc => ?_⟩
  obtain ⟨c, f1, f2⟩ := e3 pos cv hc
  exact ⟨c, f1, by rw [upd_ne (ne f2 (fun z => h2 c p.2 z.symm))]; exact f2⟩
/-- the facts of a program's top -/
def mkG (P : Program) (w : World) (K : PySem.W.Frag) (mg : Str → Option Value) (base : Heap) (fnN clN : List Str) (fld : Nat → Str) (T : List (Addr × Str)) : Gam where
  P := P
  w := w
  K := K
  mg := mg
  base := base
  fnA := fun j => fnN[j]?.map (ga K)
  clsA := fun c => clN[c]?.map (ga K)
  fldA := fld
  inv := LamX.Tabs T
  invS := fun H H' e t => t.ext e
  invU := fun H a xs ys ha t => tabs_upd ha (fun ps z => nomatch z) (fun c q z => nomatch z) t
  invI := fun H x dx C vs hx hd t => by
    have hne : x ≠ dx := fun z => by rw [z, hd] at hx; cases hx
    refine tabs_upd (o := .ins C dx []) (by rw [upd_ne hne]; exact hx) (fun ps z => nomatch z) (fun c q z => nomatch z) (tabs_upd hd (fun ps z => nomatch z) (fun c q z => nomatch z) t)
theorem FnOk.pre {P : Program} {w : World} {K : PySem.W.Frag} {mg : Str → Option Value} {base : Heap} {CX : CXT} {k : Nat} {f : Addr} {fd : FuncData} {ps : List Str} {sp sp' : Sp} (F : FnOk P w K mg base CX k f fd ps sp) (h : ∀ vs H Q E, sp' vs H Q E → sp vs H Q E) : FnOk P w K mg base CX k f fd ps sp' where
  len := fun vs H Q E z => F.len vs H Q E (h vs H Q E z)
  run := fun A outer s H a us vs Q E hr e0 hb rv z => F.run A outer s H a us vs Q E hr e0 hb rv (h vs H Q E z)
/-- a law that answers True at every script keeps its promise -/
theorem law_sp {G : Gam} {f : Fn} {H : Hp} {a : Addr} {ns : List Int} {out : D} (hw : f.wr = false) (hiv : G.inv H) (hS : SqL G.K H a (ns.map V.int)) (hf : f.run [.scr (ns.map D.int)] = .ok (.val (.bl true)) out) :
    spF G f [.ref a] H (fun v _ => v = .bl true) fun _ _ _ => False := by
  have hr : ∀ ns : List Int, Reps G (noT H) (ns.map V.int) (ns.map D.int) := fun ns => by
    induction ns with
    | nil => exact .nil
    | cons n ns ih => exact .cons _ _ _ _ (.int n) ih
  refine ⟨noT H, noT H, [.scr (ns.map D.int)], none, noT_same H, noT_same H, ⟨noT_NoT H, noT_NoT H, hiv⟩, ?_, ?_⟩
  · rw [hw]
    exact ⟨rfl, .one (.scr a _ _ (sql_monoT (SameT.noT H) hS) (hr ns))⟩
  · rw [hf]
    intro v F' H' _ _ _ _ _ _ r
    have r : Rep G F' v (.bl true) := r
    cases r
    rfl
end Ev
set_option maxHeartbeats 4000000
/-! Ev, part HD: def by def, what the module holds. -/
namespace Ev
open PySem PySem.Spec PyProof.Rows L2 He

def xfcB (K : PySem.W.Frag) (x f : Str) : Bool := xfB K (ga K x) && eqO (PySem.W.findIn K (.ref (ga K x)) f) (some none)
theorem xfc_ok {K : PySem.W.Frag} {x f : Str} (h : xfcB K x f = true) : XfC K (ga K x) ∧ PySem.W.findIn K (.ref (ga K x)) f = some none := ⟨xfB_ok (ba h).1, eqO_ok (ba h).2⟩
theorem exL_at {L : List (PySem.W.Frag → Bool)} {K : PySem.W.Frag} (h : (L.all fun f => f K) = true) (i : Nat) {f : PySem.W.Frag → Bool} (hi : L[i]? = some f) : f K = true := List.all_eq_true.mp h f (List.mem_of_getElem? hi)
section
variable {G : Gam} {k : Nat} {C : CEnv}
/-! ### the tables grow -/
theorem GOk.mono {j : Nat} (g : GOk G k C) (h : k ≤ j) : GOk G j C where
  fns := fun x i f hm => by
    obtain ⟨a, a1, a2, a3, a4⟩ := g.fns x i f hm
    exact ⟨a, a1, a2, a3.mono h, a4⟩
  mks := fun x c f hm => by
    obtain ⟨b1, b2, A, g', k', b3, b4, b5, b6, b7⟩ := g.mks x c f hm
    exact ⟨b1, b2, A, g', k', Nat.le_trans b3 h, b4, b5, b6, b7⟩
  exs0 := g.exs0
  exs1 := fun x c hm => by
    obtain ⟨a1, a2⟩ := g.exs1 x c hm
    exact ⟨Nat.le_trans a1 h, a2⟩
  cons := g.cons
  slots := g.slots
  props := fun x c f hm => by
    obtain ⟨b1, A, p, g', k', b2, b3⟩ := g.props x c f hm
    exact ⟨b1, A, p, g', k', Nat.le_trans b2 h, b3⟩
  cls := g.cls
  gf := g.gf
  free := g.free
theorem GOk.addFn {x : Str} {j : Nat} {f : Fn} {a : Addr} (g : GOk G k C) (F : FnR G.P G.w G.K G.mg G.base (L2.CX G.P G.w) (k + 1) a (spF G f)) (hm : G.mg x = some (.ref a)) (hk : PySem.W.keepIn G.K (.ref a) = true) (hj : G.fnA j = some a) :
    GOk G (k + 1) { C with fns := (x, j, f) :: C.fns } := by
  have g' := g.mono (Nat.le_succ k)
  refine ⟨fun y i f' h => ?_, g'.mks, g'.exs0, g'.exs1, g'.cons, g'.slots, g'.props, g'.cls, g'.gf, g'.free⟩
  rcases List.mem_cons.mp h with e | h
  · cases e
    exact ⟨a, hm, hk, F, hj⟩
  · exact g'.fns y i f' h
theorem GOk.addMk {x : Str} {c : Nat} {f : Fn} {A g0 : Addr} (g : GOk G k C) (F : FnR G.P G.w G.K G.mg G.base (L2.CX G.P G.w) (k + 1) g0 (spI G c f.run)) (h1 : f.wr = false) (h2 : ∀ ds, onlyVal (f.run ds) = f.run ds) (hA : G.clsA c = some A) (hm : G.mg x = some (.ref A)) (hk : Mk G.K A g0) :
    GOk G (k + 2) { C with mks := (x, c, f) :: C.mks } := by
  have g' := g.mono (Nat.le_add_right k 2)
  refine ⟨g'.fns, fun y i f' h => ?_, g'.exs0, g'.exs1, g'.cons, g'.slots, g'.props, g'.cls, g'.gf, g'.free⟩
  rcases List.mem_cons.mp h with e | h
  · cases e
    exact ⟨h1, h2, A, g0, k + 1, Nat.le_refl _, hA, hm, hk, F⟩
  · exact g'.mks y i f' h
theorem GOk.addProp {x : Str} {c : Nat} {f : Fn} {A p g0 : Addr} (g : GOk G k C) (F : FnR G.P G.w G.K G.mg G.base (L2.CX G.P G.w) (k + 1) g0 (spF G f)) (h1 : f.wr = false) (hA : G.clsA c = some A) (sc : SlX.SCls G.K A) (hp : PropOf G.K A x p g0) :
    GOk G (k + 2) { C with props := (x, c, f) :: C.props } := by
  have g' := g.mono (Nat.le_add_right k 2)
  refine ⟨g'.fns, g'.mks, g'.exs0, g'.exs1, g'.cons, g'.slots, fun y i f' h => ?_, g'.cls, g'.gf, g'.free⟩
  rcases List.mem_cons.mp h with e | h
  · cases e
    exact ⟨h1, A, p, g0, k + 1, Nat.le_refl _, hA, sc, hp, F⟩
  · exact g'.props y i f' h
/-- the same tables in another text -/
theorem GOk.re (g : GOk G k C) (N : List Str) (sc : Scope) (wr : Bool) (lam : Option LamE) : GOk G k { C with N := N, sc := sc, wr := wr, lam := lam } :=
  ⟨g.fns, g.mks, g.exs0, g.exs1, g.cons, g.slots, g.props, g.cls, g.gf, g.free⟩

/-! ### a def -/
/-- how the parameters are bound -/
def BindP (d : FzD) (ps : List Str) : Prop := ∀ (kV doc pm : Value) (an : Option Addr) (cdv ct : Value) (us : List Value), us.length = ps.length → bindArgs (PySem.W.fnOf d.name d.qual d.params d.body d.scope .none kV doc pm an cdv ct) ⟨us, []⟩ = pure (ps.zip us)
/-- what is known of the context of a def's own body -/
def lq (d : FzD) : Str := (envOfC d.qual d.scope 0 0 .none).qual
structure Here (G : Gam) (k : Nat) (d : FzD) (N : List Str) (X : Cx) : Prop where
  W : ∃ W, Good G W k true N d.scope X
  code : X.env.code = .ref (fzC G.K d)
  qual : X.env.qual = lq d
/-- the function data at an address -/
def IsFd (K : PySem.W.Frag) (a : Addr) (fd : FuncData) : Prop := ∃ (oc : Value) (od : Option Addr) (osl : Array (Option Value)), K.lookup a = some ⟨oc, od, .func fd, osl⟩
theorem FzOk.isFd {K : PySem.W.Frag} {d : FzD} (F : FzOk K d) : ∃ fd, IsFd K (d.adr K) fd := by
  obtain ⟨oc, od, kV, doc, pm, an, ct, osl, lk, hcd⟩ := F.ex
  exact ⟨_, oc, od, osl, lk⟩
theorem def_ok {d : FzD} {ps : List Str} {b : MS} (F : FzOk G.K d) (S : FnScope C.N ps d.scope) (hsc : C.sc = d.scope) (ht : C.top = true) (hbd : BindP d ps) (g : GOk G k C) (hc : cBody C d.body = some b) (hl : ∀ X, Here G k d C.N X → ∀ l, C.lam = some l → LamOk G k C l X) :
    ∀ fd, IsFd G.K (d.adr G.K) fd → (∀ (s : Shared) (us : List Value), us.length = ps.length → BindsTo s fd ⟨us, []⟩ (ps.zip us)) ∧ L2.Binds G.K fd ps [] ∧ FnOk G.P G.w G.K G.mg G.base (L2.CX G.P G.w) (k + 1) (d.adr G.K) fd ps (spF G ⟨C.wr, runB C.wr ps.length C.N.length b⟩) := by
  intro fd hfd
  obtain ⟨oc, od, kV, doc, pm, an, ct, osl, lk, hcd⟩ := F.ex
  obtain ⟨oc', od', osl', lk'⟩ := hfd
  rw [lk] at lk'
  cases lk'
  refine ⟨fun s us hl => .of_eq (hbd kV doc pm an _ ct us hl), .all (hbd kV doc pm an _ ct), fn_of lk hcd S (fun vs H Q E h => (tS_start (N := C.N) h).1) fun A outer s H vs Q E hr h => ?_⟩
  obtain ⟨_, pn, hp, t⟩ := tS_start (N := C.N) h
  have gd := good_cx (G := G) (E := E) (outer := outer) (s := s) (H := H) (A := A) (f := d.adr G.K) (cdv := .ref (fzC G.K d)) (qual := d.qual) S hr
  refine ⟨_, cBody_ok (k := k) (C := C) ⟨?_, g, hp, fun l e => hl _ ⟨⟨_, gd⟩, rfl, rfl⟩ l e⟩ hc, t⟩
  rw [ht, hsc]
  exact gd
theorem def_fnR {d : FzD} {ps : List Str} {b : MS} (F : FzOk G.K d) (S : FnScope C.N ps d.scope) (hsc : C.sc = d.scope) (ht : C.top = true) (hbd : BindP d ps) (g : GOk G k C) (hc : cBody C d.body = some b) (hl : ∀ X, Here G k d C.N X → ∀ l, C.lam = some l → LamOk G k C l X) :
    FnR G.P G.w G.K G.mg G.base (L2.CX G.P G.w) (k + 1) (d.adr G.K) (spF G ⟨C.wr, runB C.wr ps.length C.N.length b⟩) := by
  obtain ⟨fd, hfd⟩ := F.isFd
  obtain ⟨_, hb, F1⟩ := def_ok F S hsc ht hbd g hc hl fd hfd
  have := FnOk.raw F1 hb .nil
  intro A outer s H us vs Q E r e0 rv hs
  exact this A outer s H us vs Q E r e0 rv (by show spF G _ (vs ++ []) H Q E; rw [List.append_nil]; exact hs)

/-! ### lambdas -/
/-- what is known of the def that gets lambdas, whatever the context -/
structure LamG (G : Gam) (k2 : Nat) (C : CEnv) (l : LamE) (T : List (Addr × Str)) : Prop where
  ex : ∃ (a : Str) (g : Addr) (pg : Arguments) (bg : List Stmt) (sg : Scope) (dV kV doc pm cdv ct oc : Value) (an od : Option Addr) (osl : Array (Option Value)) (Ng : List Str) (ss : List HdS),
    ((∀ H, LamX.Tabs T H → G.inv H) ∧ (∀ H, G.inv H → LamX.Tabs T H) ∧ HRels G l.hs ss ∧ (∀ c ∈ l.exs, ∀ h ∈ l.hs, ∀ C Cx, G.clsA h.c = some C → G.clsA c = some Cx → PySem.W.exmOne G.K (.ref Cx) (.ref C) = some (l.sub c h.c))) ∧
    (G.mg l.x = some (.ref g) ∧ PySem.W.keepIn G.K (.ref g) = true ∧ G.K.lookup g = some ⟨oc, od, .func (PySem.W.fnOf l.x l.x pg bg sg dV kV doc pm an cdv ct), osl⟩ ∧ PySem.W.codeIn G.K cdv l.x = true ∧ L2.Binds G.K (PySem.W.fnOf l.x l.x pg bg sg dV kV doc pm an cdv ct) [a] []) ∧
    (FnScope Ng [a] sg ∧ Ng[0]? = some a ∧ Vis sg a ∧ ∀ (X : Cx), X.K = G.K → X.mg = G.mg → ∀ q : Str, LamX.GivesTo X Ng l.x sg g cdv bg a q (TTmet G.K ss l.fsh l.ftxt)) ∧
    (GOk G k2 C ∧ (a == ("__debug__" : Str)) = false ∧ (a == ("__classdict__" : Str)) = false)
theorem LamG.at_ {k2 : Nat} {l : LamE} {T : List (Addr × Str)} {d : FzD} {N : List Str} {X : Cx} {P : Addr} (L : LamG G k2 C l T) (hk : k2 + 2 ≤ k) (h : Here G k d N X) (tb : LamX.TabB G.base G.mg (fzC G.K d) P) (hT : (P, lq d ++ "<lambda>") ∈ T) (hu : ∀ p ∈ T, p.1 = P → p.2 = lq d ++ "<lambda>") : LamOk G k C l X := by
  obtain ⟨a, g, pg, bg, sg, dV, kV, doc, pm, cdv, ct, oc, an, od, osl, Ng, ss, ⟨t1, t2, t3, t4⟩, ⟨m1, m2, m3, m4, m5⟩, ⟨g1, g2, g3, g4⟩, ⟨r2, r3, r4⟩⟩ := L.ex
  obtain ⟨⟨W, gd⟩, hc, hq⟩ := h
  have e1 : X.mg = G.mg := gd.mg
  have e2 : X.K = G.K := gd.K
  have e3 : X.base = G.base := gd.base
  refine ⟨T, a, g, fzC G.K d, P, k2, pg, bg, sg, dV, kV, doc, pm, cdv, ct, oc, an, od, osl, Ng, ss, ⟨t1, t2, t3, t4⟩, ⟨by rw [e1]; exact m1, by rw [e2]; exact m2, by rw [e2]; exact m3, by rw [e2]; exact m4, by rw [e2]; exact m5⟩, ⟨g1, g2, g3, g4 X e2 e1 _⟩, ⟨by rw [e3, e1]; exact tb, hc, by rw [hq]; exact hT, by rw [hq]; exact hu⟩, ⟨hk, r2, r3, r4⟩⟩
end
end Ev
set_option maxHeartbeats 4000000
/-! Ev, part HE: small pieces for what a module holds; __init__ from its text. -/
namespace Ev
open PySem PySem.Spec PyProof.Rows L2 He

theorem all_nil {α : Type} {P : α → Prop} : ∀ x ∈ ([] : List α), P x := fun _ h => nomatch h
theorem all_cons {α : Type} {P : α → Prop} {a : α} {l : List α} (h1 : P a) (h2 : ∀ x ∈ l, P x) : ∀ x ∈ a :: l, P x := fun x h => by
  rcases List.mem_cons.mp h with h | h
  · rw [h]; exact h1
  · exact h2 x h
theorem all_app {α : Type} {P : α → Prop} {l m : List α} (h1 : ∀ x ∈ l, P x) (h2 : ∀ x ∈ m, P x) : ∀ x ∈ l ++ m, P x := fun x h => (List.mem_append.mp h).elim (h1 x) (h2 x)
section
variable {G : Gam} {k : Nat} {C : CEnv}
/-- a constant of the module -/
def ConOk (G : Gam) (q : Str × D) : Prop := ∃ v u, G.mg q.1 = some u ∧ RelV v u ∧ ∀ F, Rep G F v q.2
theorem con_int {h : Heap} {K : PySem.W.Frag} {mg : Str → Option Value} {x : Str} {i : Int} (X : K.In h) (N : h.Ns mainGlobals mg) (e : G.mg = mg) (c : (Fa.int x i).ok K = true) : ConOk G (x, .int i) := by
  obtain ⟨t, ht⟩ := int_ok X N c
  exact ⟨.int i, .int i t, by rw [e]; exact ht, ⟨t, rfl⟩, fun F => .int i⟩
theorem con_str {h : Heap} {K : PySem.W.Frag} {mg : Str → Option Value} {x z : Str} (X : K.In h) (N : h.Ns mainGlobals mg) (e : G.mg = mg) (c : (Fa.str x z).ok K = true) : ConOk G (x, .str z) := by
  obtain ⟨t, ht⟩ := str_ok X N c
  exact ⟨.str z, .str z t, by rw [e]; exact ht, ⟨t, rfl⟩, fun F => .str z⟩
theorem slF_nil {f : Str} : SlF G f [] := ⟨fun c i C h => by cases h⟩
theorem slF_cons {f x : Str} {c i : Nat} {T : List (Nat × Nat)} (hc : G.clsA c = some (ga G.K x)) (h1 : clfB G.K x = true) (h2 : slotB G.K x f i = true) (h : SlF G f T) : SlF G f ((c, i) :: T) := ⟨fun c' i' C hl hC => by
  rw [List.lookup_cons] at hl
  cases q : (c' == c) with
  | true =>
    rw [q] at hl
    cases hl
    have e : c' = c := by simpa using q
    rw [e, hc] at hC
    cases hC
    exact ⟨(clf_ok h1).sc, _, slot_ok h2⟩
  | false =>
    rw [q] at hl
    exact h.at_ c' i' C hl hC⟩
theorem gf_one {x : Str} {c : Nat} (hc : G.clsA c = some (ga G.K x)) (h1 : clfB G.K x = true) : GF G [c] :=
  ⟨all_cons ⟨_, hc, clf_ok h1⟩ all_nil, fun a ha b hb hne => by
    rw [List.mem_singleton] at ha hb
    exact absurd (ha.trans hb.symm) hne⟩

/-! ### __init__ -/
def selfB (C : CEnv) : Expr → Str → Bool
  | .Attribute (.Name x _) f _, g => decide (f = g) && (okName x && (visB C.sc x && decide (ixN C.N x = some 0)))
  | _, _ => false
def selfsB (C : CEnv) : List Expr → List Str → Bool
  | [], [] => true
  | t :: ts, f :: fs => selfB C t f && selfsB C ts fs
  | _, _ => false
def cIni (C : CEnv) (fs : List Str) : List Stmt → Option (List M × MA)
  | [] => none
  | st :: r => match st, r with
    | .Assign [.Tuple ts _ _] e _, [] => (match e with
      | .Tuple es _ _ => if selfsB C ts fs = true ∧ stT C.sc ts e = some none then (cAs ((comp 12).e C) es).map fun ma => ([], ma) else none
      | _ => none)
    | .Expr e _, r => if notCompB e = true then (match (comp 12).e C e, cIni C fs r with
      | some m, some p => some (m :: p.1, p.2)
      | _, _ => none) else none
    | _, _ => none
theorem selfs_ok {pn : Option Addr} {W : WX} {X : Cx} (c : Ctx G k C pn W X) : ∀ {ts : List Expr} {fs : List Str}, selfsB C ts fs = true → PGs X ts (gSlots G.K fs) ∧ ts.length = fs.length ∧ ts.all (fun e => !isStarB e) = true
  | [], [], _ => ⟨pgs_nil, rfl, rfl⟩
  | [], _ :: _, h => by cases h
  | _ :: _, [], h => by cases h
  | t :: ts, f :: fs, h => by
    obtain ⟨h1, h2⟩ := ba (show (selfB C t f && selfsB C ts fs) = true from h)
    obtain ⟨a1, a2, a3⟩ := selfs_ok c h2
    unfold selfB at h1
    split at h1
    · rename_i x p g p2
      obtain ⟨b1, b2⟩ := ba h1
      obtain ⟨b2, b3⟩ := ba b2
      obtain ⟨b3, b4⟩ := ba b3
      have e1 : g = f := of_decide_eq_true b1
      subst e1
      obtain ⟨n1, n2, n3⟩ := okName_ok b2
      have hs := pg_slot (f := g) (pos := p2) (pe_var (pos := p) (c.ix (of_decide_eq_true b4)) (c.vis b3) n1 n2)
      rw [c.good.K] at hs
      exact ⟨pgs_cons hs a1 (by rw [asg_cons (by rfl)]; rfl), congrArg Nat.succ a2, by rw [List.all_cons, a3]; rfl⟩
    · cases h1
theorem cIni_ok {pn : Option Addr} {W : WX} {X : Cx} {fs : List Str} (c : Ctx G k C pn W X) : ∀ {body : List Stmt} {ms : List M} {ma : MA}, cIni C fs body = some (ms, ma) → PSs X body (tIni G.K fs (tMA G pn W (mPre ms ma)))
  | [], ms, ma, h => by cases h
  | st :: r, ms, ma, h => by
    have hK := c.good.K
    have re : ∀ e m, (comp 12).e C e = some m → PE X e (tM G pn W m) := fun e m hm => (comp_ok 12).1 k C e m hm X pn W c
    unfold cIni at h
    split at h
    · rename_i ts k1 p1 e p2
      split at h
      · rename_i es k2 p3
        split at h
        · rename_i hc
          obtain ⟨c1, c2⟩ := hc
          cases q : cAs ((comp 12).e C) es with
          | none => rw [q] at h; cases h
          | some ma' =>
            rw [q] at h
            cases h
            obtain ⟨hA, hP⟩ := cAs_ok hK re q
            obtain ⟨a1, a2, a3⟩ := selfs_ok c c1
            obtain ⟨b1, b2⟩ := asg_all (env := X.env) a3
            have g1 := pg_tup (pos := p1) (k := k1) c.good.calm a1 (b1.trans a2) b2
            rw [hK] at g1
            exact PSs_ini1 (PS.imp (ps_asg (pe_tup hA) g1 swT_ok (stT_ok (by rw [c.good.sc]; exact c2)) (by rfl)) fun D σ H h => h)
        · cases h
      · cases h
    · rename_i e p _ _
      split at h
      · rename_i hn
        split at h
        · rename_i m q h1 h2
          cases h
          exact PSs_iniC (re _ _ h1) (swaps_ok hn) (cIni_ok c h2)
        · cases h
      · cases h
    · cases h
theorem cAs_plain {re : Expr → Option M} : ∀ {es : List Expr} {ma : MA}, cAs re es = some ma → PlainA ma
  | [], ma, h => by cases h; exact .nil
  | e :: es, ma, h => by
    by_cases hs : isStarB e = true
    · cases e with
      | Starred a p =>
        have h : (match re a, cAs re es with
          | some m, some ma => some (mStar m ma)
          | _, _ => none) = some ma := h
        split at h
        · rename_i m ma' h1 h2
          cases h
          exact .star (cAs_plain h2)
        · cases h
      | _ => cases hs
    · have hs : isStarB e = false := by simpa using hs
      have h : (match re e, cAs re es with
        | some m, some ma => some (mCons m ma)
        | _, _ => none) = some ma := by cases e <;> first | exact h | cases hs
      split at h
      · rename_i m ma' h1 h2
        cases h
        exact .cons (cAs_plain h2)
      · cases h
theorem cIni_plain {fs : List Str} : ∀ {body : List Stmt} {ms : List M} {ma : MA}, cIni C fs body = some (ms, ma) → PlainA ma
  | [], ms, ma, h => by cases h
  | st :: r, ms, ma, h => by
    unfold cIni at h
    split at h
    · split at h
      · split at h
        · rename_i es _ _ _
          cases q : cAs ((comp 12).e C) es with
          | none => rw [q] at h; cases h
          | some ma' => rw [q] at h; cases h; exact cAs_plain q
        · cases h
      · cases h
    · split at h
      · split at h
        · rename_i m q h1 h2
          cases h
          exact cIni_plain h2
        · cases h
      · cases h
    · cases h
theorem ini_only {n np c : Nat} {is : List Nat} {ma : MA} : ∀ ds, onlyVal (iniFn n np c is ma ds) = iniFn n np c is ma ds := fun ds => by
  unfold iniFn
  split
  · unfold iniRun
    split
    · split
      · split <;> rfl
      · rfl
    · rfl
    · rfl
  · rfl
theorem ini_fnR {d : FzD} {ps : List Str} {fs : List Str} {ms : List M} {ma : MA} {c : Nat} {is : List Nat} (F : FzOk G.K d) (S : FnScope C.N ps d.scope) (hsc : C.sc = d.scope) (ht : C.top = true) (hw : C.wr = false) (hlam : C.lam = none) (hbd : BindP d ps) (g : GOk G k C) (hc : cIni C fs d.body = some (ms, ma))
    (hI : ∀ A, G.clsA c = some A → IniF G.K A fs is) (hne : fs ≠ []) (hfs : fs.length ≤ sizeLine) : FnR G.P G.w G.K G.mg G.base (L2.CX G.P G.w) (k + 1) (d.adr G.K) (spI G c (iniFn C.N.length ps.length c is (mPre ms ma))) := by
  obtain ⟨fd, FD⟩ := F.fd
  have hb : L2.Binds G.K fd ps [] := FD.bindsN hbd
  refine mkInit FD S hb ((cIni_plain hc).pre ms) hI hne hfs fun X W gd => ?_
  refine cIni_ok (k := k) (C := C) ⟨?_, g, fun _ => rfl, fun l e => by rw [hlam] at e; cases e⟩ hc
  rw [ht, hsc]
  exact gd
theorem iniF_nil {A : Addr} (h : SlX.SCls G.K A) : IniF G.K A [] [] := ⟨h, rfl, fun k f i h => by cases h⟩
theorem iniF_cons {A p : Addr} {f : Str} {i : Nat} {fs : List Str} {is : List Nat} (s : SlX.Slot1 G.K A f p i) (h : IniF G.K A fs is) : IniF G.K A (f :: fs) (i :: is) := ⟨h.sc, congrArg Nat.succ h.len, fun k f' i' h1 h2 => by
  cases k with
  | zero => cases h1; cases h2; exact ⟨p, s⟩
  | succ k => exact h.sl k f' i' h1 h2⟩
end
end Ev
set_option maxHeartbeats 4000000
/-! Ev, part Pl: the plain law: how a semantics is gone through. -/
namespace Ev
open PySem PySem.Spec PyProof.Rows L2
theorem sSeq_next {s t : MS} {r r1 : Rho} (h : s r = .next r1) : sSeq s t r = t r1 := by
  unfold sSeq
  rw [h]
theorem forL_inv {tf : TF} {body : MS} (I : Rho → Prop) (P : D → Prop) (hb : ∀ d r, P d → I r → ∃ r1 r2, tf d r = some r1 ∧ body r1 = .next r2 ∧ I r2) : ∀ ds : List D, (∀ d ∈ ds, P d) → ∀ r, I r → ∃ r2, forL tf body ds r = .next r2 ∧ I r2
  | [], _, r, h => ⟨r, rfl, h⟩
  | d :: ds, hd, r, h => by
    obtain ⟨r1, r2, h1, h2, h3⟩ := hb d r (hd d List.mem_cons_self) h
    obtain ⟨r3, h4, h5⟩ := forL_inv I P hb ds (fun e he => hd e (List.mem_cons_of_mem _ he)) r2 h3
    refine ⟨r3, ?_, h5⟩
    show (match tf d r with
      | none => Out.stuck
      | some r1 => (match body r1 with
        | .next r2 => forL tf body ds r2
        | .cont r2 => forL tf body ds r2
        | .brk r2 => .next r2
        | .ret o r2 => .ret o r2
        | .exn x r2 => .exn x r2
        | .stuck => .stuck)) = _
    rw [h1]
    show (match body r1 with
        | .next r2 => forL tf body ds r2
        | .cont r2 => forL tf body ds r2
        | .brk r2 => .next r2
        | .ret o r2 => .ret o r2
        | .exn x r2 => .exn x r2
        | .stuck => .stuck) = _
    rw [h2]
    exact h4
theorem forL_cons {tf : TF} {body : MS} {d : D} {ds : List D} {r r1 r2 : Rho} (h1 : tf d r = some r1) (h2 : body r1 = .next r2) : forL tf body (d :: ds) r = forL tf body ds r2 := by
  show (match tf d r with
    | none => Out.stuck
    | some r1 => (match body r1 with
      | .next r2 => forL tf body ds r2
      | .cont r2 => forL tf body ds r2
      | .brk r2 => .next r2
      | .ret o r2 => .ret o r2
      | .exn x r2 => .exn x r2
      | .stuck => .stuck)) = _
  rw [h1]
  show (match body r1 with
      | .next r2 => forL tf body ds r2
      | .cont r2 => forL tf body ds r2
      | .brk r2 => .next r2
      | .ret o r2 => .ret o r2
      | .exn x r2 => .exn x r2
      | .stuck => .stuck) = _
  rw [h2]
/-- a call of a def that writes into its first argument -/
theorem mCall_w {f : Fn} {ma : MA} {r r1 r2 : Rho} {i : Nat} {os : List Opd} {ds : List D} {d out : D} {o : Opd} (hw : f.wr = true) (h1 : ma r = .ok (.slot i :: os) r1) (h2 : frzs r1 os = some (ds, r2)) (h3 : r2[i]? = some (.own d)) (h4 : f.run (d :: ds) = .ok o out) : mCall f ma r = .ok o (r2.set i (.own out)) := by
  unfold mCall
  rw [h1]
  show (if f.wr = true then callW f (.slot i :: os) r1 else callN f (.slot i :: os) r1) = _
  rw [if_pos hw]
  show (match frzs r1 os with
    | some (ds, r2) => callW2 f i ds r2
    | none => .stuck) = _
  rw [h2]
  show (match r2[i]? with
    | some (.own d) => endW i r2 (f.run (d :: ds))
    | _ => .stuck) = _
  rw [h3]
  show endW i r2 (f.run (d :: ds)) = _
  rw [h4]
  rfl
theorem mCall_n {f : Fn} {ma : MA} {r r1 r2 : Rho} {os : List Opd} {ds : List D} {out : D} {o : Opd} (hw : f.wr = false) (h1 : ma r = .ok os r1) (h2 : frzs r1 os = some (ds, r2)) (h4 : f.run ds = .ok o out) : mCall f ma r = .ok o r2 := by
  unfold mCall
  rw [h1]
  show (if f.wr = true then callW f os r1 else callN f os r1) = _
  rw [hw, if_neg Bool.false_ne_true]
  show (match frzs r1 os with
    | some (ds, r2) => endN r2 (f.run ds)
    | none => .stuck) = _
  rw [h2]
  show endN r2 (f.run ds) = _
  rw [h4]
  rfl
theorem mCall_x {f : Fn} {ma : MA} {r r1 r2 : Rho} {os : List Opd} {ds : List D} {out : D} {x : Xn} (hw : f.wr = false) (h1 : ma r = .ok os r1) (h2 : frzs r1 os = some (ds, r2)) (h4 : f.run ds = .exn x out) : mCall f ma r = .exn x r2 := by
  unfold mCall
  rw [h1]
  show (if f.wr = true then callW f os r1 else callN f os r1) = _
  rw [hw, if_neg Bool.false_ne_true]
  show (match frzs r1 os with
    | some (ds, r2) => endN r2 (f.run ds)
    | none => .stuck) = _
  rw [h2]
  show endN r2 (f.run ds) = _
  rw [h4]
  rfl
theorem mCons_ok {m : M} {ms : MA} {r r1 r2 : Rho} {o : Opd} {os : List Opd} (h1 : m r = .ok o r1) (h2 : ms r1 = .ok os r2) : mCons m ms r = .ok (noFresh o :: os) r2 := by
  unfold mCons
  rw [h1]
  show bindR (ms r1) _ = _
  rw [h2]
  rfl
theorem setV {i : Nat} {m : M} {r r1 : Rho} {d : D} (h : m r = .ok (.val d) r1) : sSet i m r = .next (r1.set i (.val d)) := by
  unfold sSet
  rw [h]
  rfl
theorem mMet_ok {exs : List Nat} {sub : Nat → Nat → Bool} {hs : List Hdl} {fsh : Sh} {ftxt : Str} {body : M} {r r1 : Rho} {o : Opd} (h : body r = .ok o r1) : mMet exs sub hs fsh ftxt body r = .ok (.val (fsh.d ftxt)) r1 := by
  unfold mMet
  rw [h]
def okF : FRes → Bool
  | .ok .. => true
  | _ => false
theorem okF.get {f : FRes} (h : okF f = true) : ∃ o out, f = .ok o out := by
  cases f <;> first | exact ⟨_, _, rfl⟩ | cases h
theorem mAppend_ok {i : Nat} {m : M} {r r1 r2 : Rho} {o : Opd} {d : D} {ds0 ds : List D} (h0 : ownL r i = some ds0) (h1 : m r = .ok o r1) (h2 : frz r1 o = some (d, r2)) (h3 : ownL r2 i = some ds) (h4 : ds.length < sizeLine) : mAppend i m r = .ok (.val .non) (r2.set i (.own (.lst (ds ++ [d])))) := by
  unfold mAppend
  rw [h0]
  show bindR (m r) _ = _
  rw [h1]
  show (match frz r1 o with
    | none => Res.stuck
    | some (d, r2) => (match ownL r2 i with
      | none => Res.stuck
      | some ds => if ds.length < sizeLine then Res.ok (Opd.val .non) (r2.set i (.own (.lst (ds ++ [d])))) else .stuck)) = _
  rw [h2]
  show (match ownL r2 i with
      | none => Res.stuck
      | some ds => if ds.length < sizeLine then Res.ok (Opd.val .non) (r2.set i (.own (.lst (ds ++ [d])))) else .stuck) = _
  rw [h3]
  exact if_pos h4
theorem sExpr_ok {m : M} {r r1 : Rho} {o : Opd} (h : m r = .ok o r1) : sExpr m r = .next r1 := by
  unfold sExpr
  rw [h]
  rfl
theorem bindS_ok {α : Type} {x : Res α} {f : α → Rho → Out} {a : α} {r : Rho} (h : x = .ok a r) : bindS x f = f a r := by
  rw [h]
  rfl
theorem bindR_ok {α β : Type} {x : Res α} {f : α → Rho → Res β} {a : α} {r : Rho} (h : x = .ok a r) : bindR x f = f a r := by
  rw [h]
  rfl
/-- an item by an index that is not told -/
theorem at_mem {xs : List D} {m : Int} (h0 : 0 ≤ m) (h1 : m < xs.length) : ∃ d ∈ xs, atI xs m = some d := by
  unfold atI L2.ixN
  rw [if_pos h0, if_pos h1]
  have hl : m.toNat < xs.length := by omega
  exact ⟨xs[m.toNat], List.getElem_mem hl, by show xs[m.toNat]? = _; exact List.getElem?_eq_getElem hl⟩
end Ev
set_option maxHeartbeats 0
/-! k83: each def's semantics, as the compiler of Ev reads it (printed by gen2.py). -/
namespace Ev
open PySem PySem.Spec PyProof.Rows L2
def top (i : Nat) : Stmt := PySem.Challenge.pw_codegrates_k83_errors_of_cosets.main.body.getD i (.Pass ⟨0, 0, 0, 0⟩)
def inC (i j : Nat) : Stmt := match top i with
  | .ClassDef _ _ _ b .. => b.getD j (.Pass ⟨0, 0, 0, 0⟩)
  | s => s

def lm : LamE := ⟨"_law_met", [0, 1, 2, 3, 4, 5], fun a b => [(0, 0), (1, 1), (1, 0), (2, 2), (2, 0), (3, 3), (3, 0), (4, 4), (5, 5)].contains (a, b), [⟨2, (.t1 "refused"), "code", false⟩, ⟨1, (.t1 "refused"), "word", false⟩, ⟨3, (.t1 "refused"), "operation", false⟩, ⟨5, (.t1 "refused"), "many ", true⟩], .t0, "fine"⟩
def C0 : CEnv where
  N := []
  sc := { kind := .function, names := [], isGenerator := false, isCoroutine := false }
  top := true
  wr := false
  fns := []
  mks := []
  exs0 := [("CheckError", 0), ("InvalidWord", 1), ("InvalidCode", 2), ("InvalidOperation", 3)]
  exs1 := [("InvalidNumber", 4), ("TooMany", 5)]
  cons := ([("MOST_LENGTH", (.int 24)), ("MOST_WORDS", (.int 64)), ("PAIR_spans", (.int 2)), ("MOST_COSETS", (.int 16)), ("PAIR_cosets", (.int 2))] : List (Str × D))
  slots := [("own_basis", [(6, 0)]), ("own_length", [(6, 1)])]
  props := []
  cls := [("Code", 6)]
  L := [6]
  free := ["len", "int", "abs", "max", "min", "sum", "tuple", "list", "all", "any", "sorted", "str", "isinstance", "range", "enumerate", "zip", "bool", "dict", "set", "repr", "super"]
  lam := none
def N_is_whole : List Str := ["value"]
def E_is_whole : CEnv := { C0 with N := N_is_whole, sc := defScope (top 11), wr := false }
def s_is_whole : MS := (sSeq (sRet (mAndV (mOp (oIs1 (isiB [6] .int)) [(mVar 0)]) (mNotV (mOp (oIs1 (isiB [6] .bool)) [(mVar 0)])))) sPass)
theorem c_is_whole : cBody E_is_whole (defBody (top 11)) = some s_is_whole := by kernel_rfl
def f_is_whole : Fn := ⟨false, runB false 1 N_is_whole.length s_is_whole⟩
def C1 : CEnv := { C0 with fns := ("is_whole", 0, f_is_whole) :: C0.fns }
def N_is_from : List Str := ["value", "least", "most"]
def E_is_from : CEnv := { C1 with N := N_is_from, sc := defScope (top 12), wr := false }
def s_is_from : MS := (sSeq (sRet (mAndV (mCall f_is_whole (mCons (mVar 0) (mArgs []))) (mChain oLe oLe (mVar 1) (mVar 0) (mVar 2)))) sPass)
theorem c_is_from : cBody E_is_from (defBody (top 12)) = some s_is_from := by kernel_rfl
def f_is_from : Fn := ⟨false, runB false 3 N_is_from.length s_is_from⟩
def C2 : CEnv := { C1 with fns := ("is_from", 1, f_is_from) :: C1.fns }
def N_is_word_in : List Str := ["length", "value"]
def E_is_word_in : CEnv := { C2 with N := N_is_word_in, sc := defScope (top 13), wr := false }
def s_is_word_in : MS := (sSeq (sRet (mAndV (mCall f_is_whole (mCons (mVar 1) (mArgs []))) (mChain oLe oLt (mVal (.int 0)) (mVar 1) (mOp oShl [(mVal (.int 1)), (mVar 0)])))) sPass)
theorem c_is_word_in : cBody E_is_word_in (defBody (top 13)) = some s_is_word_in := by kernel_rfl
def f_is_word_in : Fn := ⟨false, runB false 2 N_is_word_in.length s_is_word_in⟩
def C3 : CEnv := { C2 with fns := ("is_word_in", 2, f_is_word_in) :: C2.fns }
def N_are_words_in : List Str := ["length", "value", "one"]
def E_are_words_in : CEnv := { C3 with N := N_are_words_in, sc := defScope (top 14), wr := false }
def s_are_words_in : MS := (sSeq (sRet (mAndV (mOp (oIs1 (isiB [6] .tuple)) [(mVar 1)]) (mAndV (mOp oLe [(mOp (one pLen) [(mVar 1)]), (mVal (.int 64))]) (mOp (one pAll) [(mLc [2] (mIter (mVar 1)) (tfName 2) mtYes (mCall f_is_word_in (mCons (mVar 0) (mCons (mVar 2) (mArgs [])))))])))) sPass)
theorem c_are_words_in : cBody E_are_words_in (defBody (top 14)) = some s_are_words_in := by kernel_rfl
def f_are_words_in : Fn := ⟨false, runB false 2 N_are_words_in.length s_are_words_in⟩
def C4 : CEnv := { C3 with fns := ("are_words_in", 3, f_are_words_in) :: C3.fns }
def N_weight_in : List Str := ["word", "pairs", "fours"]
def E_weight_in : CEnv := { C4 with N := N_weight_in, sc := defScope (top 15), wr := false }
def s_weight_in : MS := (sSeq (sSet 1 (mOp oSub [(mVar 0), (mOp oAnd [(mOp oShr [(mVar 0), (mVal (.int 1))]), (mVal (.int 5592405))])])) (sSeq (sSet 2 (mOp oAdd [(mOp oAnd [(mVar 1), (mVal (.int 3355443))]), (mOp oAnd [(mOp oShr [(mVar 1), (mVal (.int 2))]), (mVal (.int 3355443))])])) (sSeq (sRet (mOp oMod [(mOp oAnd [(mOp oAdd [(mVar 2), (mOp oShr [(mVar 2), (mVal (.int 4))])]), (mVal (.int 986895))]), (mVal (.int 255))])) sPass)))
theorem c_weight_in : cBody E_weight_in (defBody (top 15)) = some s_weight_in := by kernel_rfl
def f_weight_in : Fn := ⟨false, runB false 1 N_weight_in.length s_weight_in⟩
def C5 : CEnv := { C4 with fns := ("weight_in", 4, f_weight_in) :: C4.fns }
def N_product_in : List Str := ["one", "other"]
def E_product_in : CEnv := { C5 with N := N_product_in, sc := defScope (top 16), wr := false }
def s_product_in : MS := (sSeq (sRet (mOp oMod [(mCall f_weight_in (mCons (mOp oAnd [(mVar 0), (mVar 1)]) (mArgs []))), (mVal (.int 2))])) sPass)
theorem c_product_in : cBody E_product_in (defBody (top 16)) = some s_product_in := by kernel_rfl
def f_product_in : Fn := ⟨false, runB false 2 N_product_in.length s_product_in⟩
def C6 : CEnv := { C5 with fns := ("product_in", 5, f_product_in) :: C5.fns }
def N_head_of : List Str := ["word"]
def E_head_of : CEnv := { C6 with N := N_head_of, sc := defScope (top 17), wr := false }
def s_head_of : MS := (sSeq (sRet (mOp oSub [(mOp (one pBits) [(mVar 0)]), (mVal (.int 1))])) sPass)
theorem c_head_of : cBody E_head_of (defBody (top 17)) = some s_head_of := by kernel_rfl
def f_head_of : Fn := ⟨false, runB false 1 N_head_of.length s_head_of⟩
def C7 : CEnv := { C6 with fns := ("head_of", 6, f_head_of) :: C6.fns }
def N_has_bit : List Str := ["word", "place"]
def E_has_bit : CEnv := { C7 with N := N_has_bit, sc := defScope (top 18), wr := false }
def s_has_bit : MS := (sSeq (sRet (mOp oEq [(mOp oAnd [(mOp oShr [(mVar 0), (mVar 1)]), (mVal (.int 1))]), (mVal (.int 1))])) sPass)
theorem c_has_bit : cBody E_has_bit (defBody (top 18)) = some s_has_bit := by kernel_rfl
def f_has_bit : Fn := ⟨false, runB false 2 N_has_bit.length s_has_bit⟩
def C8 : CEnv := { C7 with fns := ("has_bit", 7, f_has_bit) :: C7.fns }
def N_word_in : List Str := ["places", "place"]
def E_word_in : CEnv := { C8 with N := N_word_in, sc := defScope (top 19), wr := false }
def s_word_in : MS := (sSeq (sRet (mOp (one pSum) [(mLc [1] (mIter (mVar 0)) (tfName 1) mtYes (mOp oShl [(mVal (.int 1)), (mVar 1)]))])) sPass)
theorem c_word_in : cBody E_word_in (defBody (top 19)) = some s_word_in := by kernel_rfl
def f_word_in : Fn := ⟨false, runB false 1 N_word_in.length s_word_in⟩
def C9 : CEnv := { C8 with fns := ("word_in", 8, f_word_in) :: C8.fns }
def N_remainder_in : List Str := ["basis", "word", "one"]
def E_remainder_in : CEnv := { C9 with N := N_remainder_in, sc := defScope (top 20), wr := false }
def s_remainder_in : MS := (sSeq (sFor (mIter (mVar 0)) (tfName 2) (sSeq (sIf (mTruth (mCall f_has_bit (mCons (mVar 1) (mCons (mCall f_head_of (mCons (mVar 2) (mArgs []))) (mArgs []))))) (sSeq (sAug oXor 1 (mVar 2)) sPass) sPass) sPass)) (sSeq (sRet (mVar 1)) sPass))
theorem c_remainder_in : cBody E_remainder_in (defBody (top 20)) = some s_remainder_in := by kernel_rfl
def f_remainder_in : Fn := ⟨false, runB false 2 N_remainder_in.length s_remainder_in⟩
def C10 : CEnv := { C9 with fns := ("remainder_in", 9, f_remainder_in) :: C9.fns }
def N_with_word : List Str := ["basis", "word", "rest", "place", "one"]
def E_with_word : CEnv := { C10 with N := N_with_word, sc := defScope (top 21), wr := false }
def s_with_word : MS := (sSeq (sSet 2 (mCall f_remainder_in (mCons (mVar 0) (mCons (mVar 1) (mArgs []))))) (sSeq (sIf (mBool (mOp oEq [(mVar 2), (mVal (.int 0))])) (sSeq (sRet (mVar 0)) sPass) sPass) (sSeq (sSet 3 (mCall f_head_of (mCons (mVar 2) (mArgs [])))) (sSeq (sRet (mOp (one pTuple) [(mOp (one pSortedR) [(mOp oAdd [(mLc [4] (mIter (mVar 0)) (tfName 4) mtYes (mIf (mTruth (mCall f_has_bit (mCons (mVar 4) (mCons (mVar 3) (mArgs []))))) (mOp oXor [(mVar 4), (mVar 2)]) (mVar 4))), (mLst (mCons (mVar 2) (mArgs [])))])])])) sPass))))
theorem c_with_word : cBody E_with_word (defBody (top 21)) = some s_with_word := by kernel_rfl
def f_with_word : Fn := ⟨false, runB false 2 N_with_word.length s_with_word⟩
def C11 : CEnv := { C10 with fns := ("with_word", 10, f_with_word) :: C10.fns }
def N_basis_in : List Str := ["words", "found", "word"]
def E_basis_in : CEnv := { C11 with N := N_basis_in, sc := defScope (top 22), wr := false }
def s_basis_in : MS := (sSeq (sSet 1 (mTup (mArgs []))) (sSeq (sFor (mIter (mVar 0)) (tfName 2) (sSeq (sSet 1 (mCall f_with_word (mCons (mVar 1) (mCons (mVar 2) (mArgs []))))) sPass)) (sSeq (sRet (mVar 1)) sPass)))
theorem c_basis_in : cBody E_basis_in (defBody (top 22)) = some s_basis_in := by kernel_rfl
def f_basis_in : Fn := ⟨false, runB false 1 N_basis_in.length s_basis_in⟩
def C12 : CEnv := { C11 with fns := ("basis_in", 11, f_basis_in) :: C11.fns }
def N_heads_in : List Str := ["basis", "word"]
def E_heads_in : CEnv := { C12 with N := N_heads_in, sc := defScope (top 23), wr := false }
def s_heads_in : MS := (sSeq (sRet (mLc [1] (mIter (mVar 0)) (tfName 1) mtYes (mCall f_head_of (mCons (mVar 1) (mArgs []))))) sPass)
theorem c_heads_in : cBody E_heads_in (defBody (top 23)) = some s_heads_in := by kernel_rfl
def f_heads_in : Fn := ⟨false, runB false 1 N_heads_in.length s_heads_in⟩
def C13 : CEnv := { C12 with fns := ("heads_in", 12, f_heads_in) :: C12.fns }
def N_free_in : List Str := ["length", "basis", "heads", "place"]
def E_free_in : CEnv := { C13 with N := N_free_in, sc := defScope (top 24), wr := false }
def s_free_in : MS := (sSeq (sSet 2 (mCall f_heads_in (mCons (mVar 1) (mArgs [])))) (sSeq (sRet (mLc [3] (srcD (mArgs [(mVar 0)]) fR1) (tfName 3) (mBool (mOp oNotIn [(mVar 3), (mVar 2)])) (mVar 3))) sPass))
theorem c_free_in : cBody E_free_in (defBody (top 24)) = some s_free_in := by kernel_rfl
def f_free_in : Fn := ⟨false, runB false 2 N_free_in.length s_free_in⟩
def C14 : CEnv := { C13 with fns := ("free_in", 13, f_free_in) :: C13.fns }
def N_span_in : List Str := ["basis", "found", "word", "one"]
def E_span_in : CEnv := { C14 with N := N_span_in, sc := defScope (top 25), wr := false }
def s_span_in : MS := (sSeq (sSet 1 (mLst (mCons (mVal (.int 0)) (mArgs [])))) (sSeq (sFor (mIter (mRev (mVar 0))) (tfName 2) (sSeq (sExpr (mExtend 1 (mLc [3] (mIter (mOp (one pList) [(mVar 1)])) (tfName 3) mtYes (mOp oXor [(mVar 3), (mVar 2)])))) sPass)) (sSeq (sRet (mVar 1)) sPass)))
theorem c_span_in : cBody E_span_in (defBody (top 25)) = some s_span_in := by kernel_rfl
def f_span_in : Fn := ⟨false, runB false 1 N_span_in.length s_span_in⟩
def C15 : CEnv := { C14 with fns := ("span_in", 14, f_span_in) :: C14.fns }
def N_checks_in : List Str := ["length", "basis", "found", "place", "word"]
def E_checks_in : CEnv := { C15 with N := N_checks_in, sc := defScope (top 26), wr := false }
def s_checks_in : MS := (sSeq (sSet 2 (mLst (mArgs []))) (sSeq (sFor (mIter (mCall f_free_in (mCons (mVar 0) (mCons (mVar 1) (mArgs []))))) (tfName 3) (sSeq (sExpr (mAppend 2 (mCall f_word_in (mCons (mLst (mCons (mVar 3) (mStar (mLc [4] (mIter (mVar 1)) (tfName 4) (mTruth (mCall f_has_bit (mCons (mVar 4) (mCons (mVar 3) (mArgs []))))) (mCall f_head_of (mCons (mVar 4) (mArgs [])))) (mArgs [])))) (mArgs []))))) sPass)) (sSeq (sRet (mCall f_basis_in (mCons (mVar 2) (mArgs [])))) sPass)))
theorem c_checks_in : cBody E_checks_in (defBody (top 26)) = some s_checks_in := by kernel_rfl
def f_checks_in : Fn := ⟨false, runB false 2 N_checks_in.length s_checks_in⟩
def C16 : CEnv := { C15 with fns := ("checks_in", 15, f_checks_in) :: C15.fns }
def N_require_length : List Str := ["value"]
def E_require_length : CEnv := { C16 with N := N_require_length, sc := defScope (top 27), wr := false }
def s_require_length : MS := (sSeq (sIf (mNot (mTruth (mCall f_is_from (mCons (mVar 0) (mCons (mVal (.int 1)) (mCons (mVal (.int 24)) (mArgs []))))))) (sSeq (sRaise1 4 (mVar 0)) sPass) sPass) sPass)
theorem c_require_length : cBody E_require_length (defBody (top 27)) = some s_require_length := by kernel_rfl
def f_require_length : Fn := ⟨false, runB false 1 N_require_length.length s_require_length⟩
def C17 : CEnv := { C16 with fns := ("require_length", 16, f_require_length) :: C16.fns }
def N_require_word : List Str := ["length", "value"]
def E_require_word : CEnv := { C17 with N := N_require_word, sc := defScope (top 28), wr := false }
def s_require_word : MS := (sSeq (sIf (mNot (mTruth (mCall f_is_word_in (mCons (mVar 0) (mCons (mVar 1) (mArgs [])))))) (sSeq (sRaise0 1 (mVal (.str "a word of the length is expected"))) sPass) sPass) sPass)
theorem c_require_word : cBody E_require_word (defBody (top 28)) = some s_require_word := by kernel_rfl
def f_require_word : Fn := ⟨false, runB false 2 N_require_word.length s_require_word⟩
def C18 : CEnv := { C17 with fns := ("require_word", 17, f_require_word) :: C17.fns }
def N_require_words : List Str := ["length", "value"]
def E_require_words : CEnv := { C18 with N := N_require_words, sc := defScope (top 29), wr := false }
def s_require_words : MS := (sSeq (sIf (mNot (mTruth (mCall f_are_words_in (mCons (mVar 0) (mCons (mVar 1) (mArgs [])))))) (sSeq (sRaise0 1 (mVal (.str "a tuple of at most 64 words of the length is expected"))) sPass) sPass) sPass)
theorem c_require_words : cBody E_require_words (defBody (top 29)) = some s_require_words := by kernel_rfl
def f_require_words : Fn := ⟨false, runB false 2 N_require_words.length s_require_words⟩
def C19 : CEnv := { C18 with fns := ("require_words", 18, f_require_words) :: C18.fns }
def N_Code_init : List Str := ["self", "length", "words"]
def E_Code_init : CEnv := { C19 with N := N_Code_init, sc := defScope (inC 31 1) }
def m_Code_init : List M := [(mCall f_require_length (mCons (mVar 1) (mArgs []))), (mCall f_require_words (mCons (mVar 1) (mCons (mVar 2) (mArgs []))))]
def a_Code_init : MA := (mCons (mVar 1) (mCons (mCall f_basis_in (mCons (mVar 2) (mArgs []))) (mArgs [])))
def f_Code_init : Fn := ⟨false, iniFn N_Code_init.length 3 6 [1, 0] (mPre m_Code_init a_Code_init)⟩
def C20 : CEnv := { C19 with mks := ("Code", 6, f_Code_init) :: C19.mks }
def N_Code_length : List Str := ["self"]
def E_Code_length : CEnv := { C20 with N := N_Code_length, sc := defScope (inC 31 2), wr := false }
def s_Code_length : MS := (sSeq (sRet (mOp (one (pSl [(6, 1)])) [(mVar 0)])) sPass)
theorem c_Code_length : cBody E_Code_length (defBody (inC 31 2)) = some s_Code_length := by kernel_rfl
def f_Code_length : Fn := ⟨false, runB false 1 N_Code_length.length s_Code_length⟩
def C21 : CEnv := { C20 with props := ("length", 6, f_Code_length) :: C20.props }
def N_Code_basis : List Str := ["self"]
def E_Code_basis : CEnv := { C21 with N := N_Code_basis, sc := defScope (inC 31 3), wr := false }
def s_Code_basis : MS := (sSeq (sRet (mOp (one (pSl [(6, 0)])) [(mVar 0)])) sPass)
theorem c_Code_basis : cBody E_Code_basis (defBody (inC 31 3)) = some s_Code_basis := by kernel_rfl
def f_Code_basis : Fn := ⟨false, runB false 1 N_Code_basis.length s_Code_basis⟩
def C22 : CEnv := { C21 with props := ("basis", 6, f_Code_basis) :: C21.props }
def N_Code_dimension : List Str := ["self"]
def E_Code_dimension : CEnv := { C22 with N := N_Code_dimension, sc := defScope (inC 31 4), wr := false }
def s_Code_dimension : MS := (sSeq (sRet (mOp (one pLen) [(mOp (one (pSl [(6, 0)])) [(mVar 0)])])) sPass)
theorem c_Code_dimension : cBody E_Code_dimension (defBody (inC 31 4)) = some s_Code_dimension := by kernel_rfl
def f_Code_dimension : Fn := ⟨false, runB false 1 N_Code_dimension.length s_Code_dimension⟩
def C23 : CEnv := { C22 with props := ("dimension", 6, f_Code_dimension) :: C22.props }
def N_is_own_in : List Str := ["length", "basis"]
def E_is_own_in : CEnv := { C23 with N := N_is_own_in, sc := defScope (top 32), wr := false }
def s_is_own_in : MS := (sSeq (sRet (mOp oEq [(mCall f_checks_in (mCons (mVar 0) (mCons (mVar 1) (mArgs [])))), (mVar 1)])) sPass)
theorem c_is_own_in : cBody E_is_own_in (defBody (top 32)) = some s_is_own_in := by kernel_rfl
def f_is_own_in : Fn := ⟨false, runB false 2 N_is_own_in.length s_is_own_in⟩
def C24 : CEnv := { C23 with fns := ("is_own_in", 19, f_is_own_in) :: C23.fns }
def N_is_own_code : List Str := ["value"]
def E_is_own_code : CEnv := { C24 with N := N_is_own_code, sc := defScope (top 33), wr := false }
def s_is_own_code : MS := (sSeq (sRet (mAndV (mOp (oIs1 (isiC [6] 6)) [(mVar 0)]) (mCall f_is_own_in (mCons (mOp (one (pSl [(6, 1)])) [(mVar 0)]) (mCons (mOp (one (pSl [(6, 0)])) [(mVar 0)]) (mArgs [])))))) sPass)
theorem c_is_own_code : cBody E_is_own_code (defBody (top 33)) = some s_is_own_code := by kernel_rfl
def f_is_own_code : Fn := ⟨false, runB false 1 N_is_own_code.length s_is_own_code⟩
def C25 : CEnv := { C24 with fns := ("is_own_code", 20, f_is_own_code) :: C24.fns }
def N_require_own : List Str := ["value"]
def E_require_own : CEnv := { C25 with N := N_require_own, sc := defScope (top 34), wr := false }
def s_require_own : MS := (sSeq (sIf (mNot (mTruth (mCall f_is_own_code (mCons (mVar 0) (mArgs []))))) (sSeq (sRaise0 2 (mVal (.str "a code that is its dual is expected"))) sPass) sPass) sPass)
theorem c_require_own : cBody E_require_own (defBody (top 34)) = some s_require_own := by kernel_rfl
def f_require_own : Fn := ⟨false, runB false 1 N_require_own.length s_require_own⟩
def C26 : CEnv := { C25 with fns := ("require_own", 21, f_require_own) :: C25.fns }
def N_coset_in : List Str := ["code", "word", "one"]
def E_coset_in : CEnv := { C26 with N := N_coset_in, sc := defScope (top 38), wr := false }
def s_coset_in : MS := (sSeq (sRet (mLc [2] (mIter (mCall f_span_in (mCons (mProp 6 f_Code_basis (mVar 0)) (mArgs [])))) (tfName 2) mtYes (mOp oXor [(mVar 1), (mVar 2)]))) sPass)
theorem c_coset_in : cBody E_coset_in (defBody (top 38)) = some s_coset_in := by kernel_rfl
def f_coset_in : Fn := ⟨false, runB false 2 N_coset_in.length s_coset_in⟩
def C27 : CEnv := { C26 with fns := ("coset_in", 22, f_coset_in) :: C26.fns }
def N_products_in : List Str := ["code", "word", "one"]
def E_products_in : CEnv := { C27 with N := N_products_in, sc := defScope (top 39), wr := false }
def s_products_in : MS := (sSeq (sRet (mOp (one pTuple) [(mLc [2] (mIter (mProp 6 f_Code_basis (mVar 0))) (tfName 2) mtYes (mCall f_product_in (mCons (mVar 1) (mCons (mVar 2) (mArgs [])))))])) sPass)
theorem c_products_in : cBody E_products_in (defBody (top 39)) = some s_products_in := by kernel_rfl
def f_products_in : Fn := ⟨false, runB false 2 N_products_in.length s_products_in⟩
def C28 : CEnv := { C27 with fns := ("products_in", 23, f_products_in) :: C27.fns }
def N_lessened : List Str := ["held", "column", "word", "one", "told"]
def E_lessened : CEnv := { C28 with N := N_lessened, sc := defScope (top 43), wr := false }
def s_lessened : MS := (sSeq (sFor (mIter (mVar 0)) (tfTup 2 (tfCons (tfName 3) (tfCons (tfName 4) tfNil))) (sSeq (sIf (mTruth (mCall f_has_bit (mCons (mVar 1) (mCons (mCall f_head_of (mCons (mVar 3) (mArgs []))) (mArgs []))))) (sSeq (sPar 1 2 (mOp oXor [(mVar 1), (mVar 3)]) (mOp oXor [(mVar 2), (mVar 4)])) sPass) sPass) sPass)) (sSeq (sRet (mTup (mCons (mVar 1) (mCons (mVar 2) (mArgs []))))) sPass))
theorem c_lessened : cBody E_lessened (defBody (top 43)) = some s_lessened := by kernel_rfl
def f_lessened : Fn := ⟨false, runB false 3 N_lessened.length s_lessened⟩
def C29 : CEnv := { C28 with fns := ("lessened", 27, f_lessened) :: C28.fns }
def N_apart_in : List Str := ["places", "columns", "wanted", "held", "place", "column", "rest", "word", "top", "one", "told"]
def E_apart_in : CEnv := { C29 with N := N_apart_in, sc := defScope (top 42), wr := false }
def s_apart_in : MS := (sSeq (sSet 3 (mLst (mArgs []))) (sSeq (sFor (srcD (mArgs [(mVar 0), (mVar 1)]) fZip) (tfTup 2 (tfCons (tfName 4) (tfCons (tfName 5) tfNil))) (sSeq (sUnp (tfTup 2 (tfCons (tfName 6) (tfCons (tfName 7) tfNil))) (mCall f_lessened (mCons (mVar 3) (mCons (mVar 5) (mCons (mOp oShl [(mVal (.int 1)), (mVar 4)]) (mArgs [])))))) (sSeq (sSet 8 (mCall f_head_of (mCons (mVar 6) (mArgs [])))) (sSeq (sSet 3 (mLc [9, 10] (mIter (mVar 3)) (tfTup 2 (tfCons (tfName 9) (tfCons (tfName 10) tfNil))) mtYes (mIf (mTruth (mCall f_has_bit (mCons (mVar 9) (mCons (mVar 8) (mArgs []))))) (mTup (mCons (mOp oXor [(mVar 9), (mVar 6)]) (mCons (mOp oXor [(mVar 10), (mVar 7)]) (mArgs [])))) (mTup (mCons (mVar 9) (mCons (mVar 10) (mArgs []))))))) (sSeq (sExpr (mAppend 3 (mTup (mCons (mVar 6) (mCons (mVar 7) (mArgs [])))))) sPass))))) (sSeq (sRet (mOp oIx [(mCall f_lessened (mCons (mVar 3) (mCons (mVar 2) (mCons (mVal (.int 0)) (mArgs []))))), (mVal (.int 1))])) sPass)))
theorem c_apart_in : cBody E_apart_in (defBody (top 42)) = some s_apart_in := by kernel_rfl
def f_apart_in : Fn := ⟨false, runB false 3 N_apart_in.length s_apart_in⟩
def C30 : CEnv := { C29 with fns := ("apart_in", 26, f_apart_in) :: C29.fns }
def N_columns_of : List Str := ["code", "found", "place", "at", "word"]
def E_columns_of : CEnv := { C30 with N := N_columns_of, sc := defScope (top 41), wr := false }
def s_columns_of : MS := (sSeq (sSet 1 (mLst (mArgs []))) (sSeq (sFor (mIter (mCall f_free_in (mCons (mProp 6 f_Code_length (mVar 0)) (mCons (mProp 6 f_Code_basis (mVar 0)) (mArgs []))))) (tfName 2) (sSeq (sExpr (mAppend 1 (mCall f_word_in (mCons (mLc [3, 4] (srcD (mArgs [(mProp 6 f_Code_basis (mVar 0))]) fEnum) (tfTup 2 (tfCons (tfName 3) (tfCons (tfName 4) tfNil))) (mTruth (mCall f_has_bit (mCons (mVar 4) (mCons (mVar 2) (mArgs []))))) (mVar 3)) (mArgs []))))) sPass)) (sSeq (sRet (mVar 1)) sPass)))
theorem c_columns_of : cBody E_columns_of (defBody (top 41)) = some s_columns_of := by kernel_rfl
def f_columns_of : Fn := ⟨false, runB false 1 N_columns_of.length s_columns_of⟩
def C31 : CEnv := { C30 with fns := ("columns_of", 25, f_columns_of) :: C30.fns }
def N_rest_with : List Str := ["code", "bits", "wanted", "at", "bit"]
def E_rest_with : CEnv := { C31 with N := N_rest_with, sc := defScope (top 40), wr := false }
def s_rest_with : MS := (sSeq (sSet 2 (mCall f_word_in (mCons (mLc [3, 4] (srcD (mArgs [(mVar 1)]) fEnum) (tfTup 2 (tfCons (tfName 3) (tfCons (tfName 4) tfNil))) (mBool (mOp oEq [(mVar 4), (mVal (.int 1))])) (mVar 3)) (mArgs [])))) (sSeq (sRet (mCall f_apart_in (mCons (mCall f_free_in (mCons (mProp 6 f_Code_length (mVar 0)) (mCons (mProp 6 f_Code_basis (mVar 0)) (mArgs [])))) (mCons (mCall f_columns_of (mCons (mVar 0) (mArgs []))) (mCons (mVar 2) (mArgs [])))))) sPass))
theorem c_rest_with : cBody E_rest_with (defBody (top 40)) = some s_rest_with := by kernel_rfl
def f_rest_with : Fn := ⟨false, runB false 2 N_rest_with.length s_rest_with⟩
def C32 : CEnv := { C31 with fns := ("rest_with", 24, f_rest_with) :: C31.fns }
def N_leader_in : List Str := ["code", "word", "one"]
def E_leader_in : CEnv := { C32 with N := N_leader_in, sc := defScope (top 44), wr := false }
def s_leader_in : MS := (sSeq (sRet (mOp oIx [(mOp oMin [(mLc [2] (mIter (mCall f_coset_in (mCons (mVar 0) (mCons (mVar 1) (mArgs []))))) (tfName 2) mtYes (mTup (mCons (mCall f_weight_in (mCons (mVar 2) (mArgs []))) (mCons (mVar 2) (mArgs [])))))]), (mVal (.int 1))])) sPass)
theorem c_leader_in : cBody E_leader_in (defBody (top 44)) = some s_leader_in := by kernel_rfl
def f_leader_in : Fn := ⟨false, runB false 2 N_leader_in.length s_leader_in⟩
def C33 : CEnv := { C32 with fns := ("leader_in", 28, f_leader_in) :: C32.fns }
def N_rests_in : List Str := ["code", "found", "place", "one"]
def E_rests_in : CEnv := { C33 with N := N_rests_in, sc := defScope (top 45), wr := false }
def s_rests_in : MS := (sSeq (sSet 1 (mLst (mCons (mVal (.int 0)) (mArgs [])))) (sSeq (sFor (mIter (mCall f_free_in (mCons (mProp 6 f_Code_length (mVar 0)) (mCons (mProp 6 f_Code_basis (mVar 0)) (mArgs []))))) (tfName 2) (sSeq (sExpr (mExtend 1 (mLc [3] (mIter (mOp (one pList) [(mVar 1)])) (tfName 3) mtYes (mOp oOr [(mVar 3), (mOp oShl [(mVal (.int 1)), (mVar 2)])])))) sPass)) (sSeq (sRet (mVar 1)) sPass)))
theorem c_rests_in : cBody E_rests_in (defBody (top 45)) = some s_rests_in := by kernel_rfl
def f_rests_in : Fn := ⟨false, runB false 1 N_rests_in.length s_rests_in⟩
def C34 : CEnv := { C33 with fns := ("rests_in", 29, f_rests_in) :: C33.fns }
def N_leaders_in : List Str := ["code", "rest"]
def E_leaders_in : CEnv := { C34 with N := N_leaders_in, sc := defScope (top 46), wr := false }
def s_leaders_in : MS := (sSeq (sRet (mLc [1] (mIter (mCall f_rests_in (mCons (mVar 0) (mArgs [])))) (tfName 1) mtYes (mCall f_leader_in (mCons (mVar 0) (mCons (mVar 1) (mArgs [])))))) sPass)
theorem c_leaders_in : cBody E_leaders_in (defBody (top 46)) = some s_leaders_in := by kernel_rfl
def f_leaders_in : Fn := ⟨false, runB false 1 N_leaders_in.length s_leaders_in⟩
def C35 : CEnv := { C34 with fns := ("leaders_in", 30, f_leaders_in) :: C34.fns }
def N_counted : List Str := ["length", "words", "found", "word"]
def E_counted : CEnv := { C35 with N := N_counted, sc := defScope (top 47), wr := false }
def s_counted : MS := (sSeq (sSet 2 (mOp oMul [(mLst (mCons (mVal (.int 0)) (mArgs []))), (mOp oAdd [(mVar 0), (mVal (.int 1))])])) (sSeq (sFor (mIter (mVar 1)) (tfName 3) (sSeq (sAugIx ipF.oSub0 2 (mCall f_weight_in (mCons (mVar 3) (mArgs []))) (mVal (.int 1))) sPass)) (sSeq (sRet (mVar 2)) sPass)))
theorem c_counted : cBody E_counted (defBody (top 47)) = some s_counted := by kernel_rfl
def f_counted : Fn := ⟨false, runB false 2 N_counted.length s_counted⟩
def C36 : CEnv := { C35 with fns := ("counted", 31, f_counted) :: C35.fns }
def N_even_and_odd : List Str := ["code", "word", "words", "one"]
def E_even_and_odd : CEnv := { C36 with N := N_even_and_odd, sc := defScope (top 48), wr := false }
def s_even_and_odd : MS := (sSeq (sSet 2 (mCall f_span_in (mCons (mProp 6 f_Code_basis (mVar 0)) (mArgs [])))) (sSeq (sRet (mTup (mCons (mLc [3] (mIter (mVar 2)) (tfName 3) (mBool (mOp oEq [(mCall f_product_in (mCons (mVar 3) (mCons (mVar 1) (mArgs [])))), (mVal (.int 0))])) (mVar 3)) (mCons (mLc [3] (mIter (mVar 2)) (tfName 3) (mBool (mOp oEq [(mCall f_product_in (mCons (mVar 3) (mCons (mVar 1) (mArgs [])))), (mVal (.int 1))])) (mVar 3)) (mArgs []))))) sPass))
theorem c_even_and_odd : cBody E_even_and_odd (defBody (top 48)) = some s_even_and_odd := by kernel_rfl
def f_even_and_odd : Fn := ⟨false, runB false 2 N_even_and_odd.length s_even_and_odd⟩
def C37 : CEnv := { C36 with fns := ("even_and_odd", 32, f_even_and_odd) :: C36.fns }
def N_parent_counts_in : List Str := ["code", "word", "even", "odd", "found", "words", "more", "weight", "many"]
def E_parent_counts_in : CEnv := { C37 with N := N_parent_counts_in, sc := defScope (top 49), wr := false }
def s_parent_counts_in : MS := (sSeq (sUnp (tfTup 2 (tfCons (tfName 2) (tfCons (tfName 3) tfNil))) (mCall f_even_and_odd (mCons (mVar 0) (mCons (mVar 1) (mArgs []))))) (sSeq (sSet 4 (mOp oMul [(mLst (mCons (mVal (.int 0)) (mArgs []))), (mOp oAdd [(mOp oAdd [(mProp 6 f_Code_length (mVar 0)), (mVal (.int 2))]), (mVal (.int 1))])])) (sSeq (sFor (mIter (mTup (mCons (mTup (mCons (mVar 2) (mCons (mVal (.int 0)) (mArgs [])))) (mCons (mTup (mCons (mVar 3) (mCons (mVal (.int 2)) (mArgs [])))) (mCons (mTup (mCons (mCall f_coset_in (mCons (mVar 0) (mCons (mVar 1) (mArgs [])))) (mCons (mVal (.int 1)) (mArgs [])))) (mArgs [])))))) (tfTup 2 (tfCons (tfName 5) (tfCons (tfName 6) tfNil))) (sSeq (sFor (srcD (mArgs [(mCall f_counted (mCons (mProp 6 f_Code_length (mVar 0)) (mCons (mVar 5) (mArgs []))))]) fEnum) (tfTup 2 (tfCons (tfName 7) (tfCons (tfName 8) tfNil))) (sSeq (sIf (mBool (mOp oGt [(mVar 8), (mVal (.int 0))])) (sSeq (sAugIx ipF.oSub0 4 (mOp oAdd [(mVar 7), (mVar 6)]) (mVar 8)) sPass) sPass) sPass)) sPass)) (sSeq (sRet (mVar 4)) sPass))))
theorem c_parent_counts_in : cBody E_parent_counts_in (defBody (top 49)) = some s_parent_counts_in := by kernel_rfl
def f_parent_counts_in : Fn := ⟨false, runB false 2 N_parent_counts_in.length s_parent_counts_in⟩
def C38 : CEnv := { C37 with fns := ("parent_counts_in", 33, f_parent_counts_in) :: C37.fns }
def N_nearest_in : List Str := ["code", "word", "least", "one"]
def E_nearest_in : CEnv := { C38 with N := N_nearest_in, sc := defScope (top 50), wr := false }
def s_nearest_in : MS := (sSeq (sSet 2 (mCall f_weight_in (mCons (mCall f_leader_in (mCons (mVar 0) (mCons (mVar 1) (mArgs [])))) (mArgs [])))) (sSeq (sRet (mLc [3] (mIter (mCall f_span_in (mCons (mProp 6 f_Code_basis (mVar 0)) (mArgs [])))) (tfName 3) (mBool (mOp oEq [(mCall f_weight_in (mCons (mOp oXor [(mVar 3), (mVar 1)]) (mArgs []))), (mVar 2)])) (mVar 3))) sPass))
theorem c_nearest_in : cBody E_nearest_in (defBody (top 50)) = some s_nearest_in := by kernel_rfl
def f_nearest_in : Fn := ⟨false, runB false 2 N_nearest_in.length s_nearest_in⟩
def C39 : CEnv := { C38 with fns := ("nearest_in", 34, f_nearest_in) :: C38.fns }
def N_require_short : List Str := ["code"]
def E_require_short : CEnv := { C39 with N := N_require_short, sc := defScope (top 51), wr := false }
def s_require_short : MS := (sSeq (sExpr (mCall f_require_own (mCons (mVar 0) (mArgs [])))) (sSeq (sIf (mBool (mOp oGt [(mProp 6 f_Code_length (mVar 0)), (mVal (.int 16))])) (sSeq (sRaise1 5 (mVal (.int 16))) sPass) sPass) sPass))
theorem c_require_short : cBody E_require_short (defBody (top 51)) = some s_require_short := by kernel_rfl
def f_require_short : Fn := ⟨false, runB false 1 N_require_short.length s_require_short⟩
def C40 : CEnv := { C39 with fns := ("require_short", 35, f_require_short) :: C39.fns }
def N_require_both : List Str := ["code", "word"]
def E_require_both : CEnv := { C40 with N := N_require_both, sc := defScope (top 52), wr := false }
def s_require_both : MS := (sSeq (sExpr (mCall f_require_own (mCons (mVar 0) (mArgs [])))) (sSeq (sExpr (mCall f_require_word (mCons (mProp 6 f_Code_length (mVar 0)) (mCons (mVar 1) (mArgs []))))) (sSeq (sExpr (mCall f_require_short (mCons (mVar 0) (mArgs [])))) sPass)))
theorem c_require_both : cBody E_require_both (defBody (top 52)) = some s_require_both := by kernel_rfl
def f_require_both : Fn := ⟨false, runB false 2 N_require_both.length s_require_both⟩
def C41 : CEnv := { C40 with fns := ("require_both", 36, f_require_both) :: C40.fns }
def N_coset_of : List Str := ["code", "word"]
def E_coset_of : CEnv := { C41 with N := N_coset_of, sc := defScope (top 53), wr := false }
def s_coset_of : MS := (sSeq (sExpr (mCall f_require_both (mCons (mVar 0) (mCons (mVar 1) (mArgs []))))) (sSeq (sRet (mOp (one pTuple) [(mOp (one pSorted) [(mCall f_coset_in (mCons (mVar 0) (mCons (mVar 1) (mArgs []))))])])) sPass))
theorem c_coset_of : cBody E_coset_of (defBody (top 53)) = some s_coset_of := by kernel_rfl
def f_coset_of : Fn := ⟨false, runB false 2 N_coset_of.length s_coset_of⟩
def C42 : CEnv := { C41 with fns := ("coset_of", 37, f_coset_of) :: C41.fns }
def N_products_of : List Str := ["code", "word"]
def E_products_of : CEnv := { C42 with N := N_products_of, sc := defScope (top 54), wr := false }
def s_products_of : MS := (sSeq (sExpr (mCall f_require_both (mCons (mVar 0) (mCons (mVar 1) (mArgs []))))) (sSeq (sRet (mCall f_products_in (mCons (mVar 0) (mCons (mVar 1) (mArgs []))))) sPass))
theorem c_products_of : cBody E_products_of (defBody (top 54)) = some s_products_of := by kernel_rfl
def f_products_of : Fn := ⟨false, runB false 2 N_products_of.length s_products_of⟩
def C43 : CEnv := { C42 with fns := ("products_of", 38, f_products_of) :: C42.fns }
def N_word_with : List Str := ["code", "bits", "bit"]
def E_word_with : CEnv := { C43 with N := N_word_with, sc := defScope (top 55), wr := false }
def s_word_with : MS := (sSeq (sExpr (mCall f_require_own (mCons (mVar 0) (mArgs [])))) (sSeq (sIf (mOr (mNot (mTruth (mOp (oIs1 (isiB [6] .tuple)) [(mVar 1)]))) (mOr (mBool (mOp oNe [(mOp (one pLen) [(mVar 1)]), (mProp 6 f_Code_dimension (mVar 0))])) (mNot (mTruth (mOp (one pAll) [(mLc [2] (mIter (mVar 1)) (tfName 2) mtYes (mCall f_is_from (mCons (mVar 2) (mCons (mVal (.int 0)) (mCons (mVal (.int 1)) (mArgs []))))))]))))) (sSeq (sRaise0 3 (mVal (.str "a bit for each word of the basis is expected"))) sPass) sPass) (sSeq (sExpr (mCall f_require_short (mCons (mVar 0) (mArgs [])))) (sSeq (sRet (mCall f_rest_with (mCons (mVar 0) (mCons (mVar 1) (mArgs []))))) sPass))))
theorem c_word_with : cBody E_word_with (defBody (top 55)) = some s_word_with := by kernel_rfl
def f_word_with : Fn := ⟨false, runB false 2 N_word_with.length s_word_with⟩
def C44 : CEnv := { C43 with fns := ("word_with", 39, f_word_with) :: C43.fns }
def N_leader : List Str := ["code", "word"]
def E_leader : CEnv := { C44 with N := N_leader, sc := defScope (top 56), wr := false }
def s_leader : MS := (sSeq (sExpr (mCall f_require_both (mCons (mVar 0) (mCons (mVar 1) (mArgs []))))) (sSeq (sRet (mCall f_leader_in (mCons (mVar 0) (mCons (mVar 1) (mArgs []))))) sPass))
theorem c_leader : cBody E_leader (defBody (top 56)) = some s_leader := by kernel_rfl
def f_leader : Fn := ⟨false, runB false 2 N_leader.length s_leader⟩
def C45 : CEnv := { C44 with fns := ("leader", 40, f_leader) :: C44.fns }
def N_is_leader : List Str := ["code", "value"]
def E_is_leader : CEnv := { C45 with N := N_is_leader, sc := defScope (top 57), wr := false }
def s_is_leader : MS := (sSeq (sExpr (mCall f_require_short (mCons (mVar 0) (mArgs [])))) (sSeq (sRet (mAndV (mCall f_is_word_in (mCons (mProp 6 f_Code_length (mVar 0)) (mCons (mVar 1) (mArgs [])))) (mOp oEq [(mCall f_weight_in (mCons (mVar 1) (mArgs []))), (mCall f_weight_in (mCons (mCall f_leader_in (mCons (mVar 0) (mCons (mVar 1) (mArgs [])))) (mArgs [])))]))) sPass))
theorem c_is_leader : cBody E_is_leader (defBody (top 57)) = some s_is_leader := by kernel_rfl
def f_is_leader : Fn := ⟨false, runB false 2 N_is_leader.length s_is_leader⟩
def C46 : CEnv := { C45 with fns := ("is_leader", 41, f_is_leader) :: C45.fns }
def N_nearest : List Str := ["code", "word"]
def E_nearest : CEnv := { C46 with N := N_nearest, sc := defScope (top 58), wr := false }
def s_nearest : MS := (sSeq (sExpr (mCall f_require_both (mCons (mVar 0) (mCons (mVar 1) (mArgs []))))) (sSeq (sRet (mOp (one pTuple) [(mCall f_nearest_in (mCons (mVar 0) (mCons (mVar 1) (mArgs []))))])) sPass))
theorem c_nearest : cBody E_nearest (defBody (top 58)) = some s_nearest := by kernel_rfl
def f_nearest : Fn := ⟨false, runB false 2 N_nearest.length s_nearest⟩
def C47 : CEnv := { C46 with fns := ("nearest", 42, f_nearest) :: C46.fns }
def N_leaders : List Str := ["code"]
def E_leaders : CEnv := { C47 with N := N_leaders, sc := defScope (top 59), wr := false }
def s_leaders : MS := (sSeq (sExpr (mCall f_require_short (mCons (mVar 0) (mArgs [])))) (sSeq (sRet (mOp (one pTuple) [(mCall f_leaders_in (mCons (mVar 0) (mArgs [])))])) sPass))
theorem c_leaders : cBody E_leaders (defBody (top 59)) = some s_leaders := by kernel_rfl
def f_leaders : Fn := ⟨false, runB false 1 N_leaders.length s_leaders⟩
def C48 : CEnv := { C47 with fns := ("leaders", 43, f_leaders) :: C47.fns }
def N_least_weights : List Str := ["code", "found", "at", "many"]
def E_least_weights : CEnv := { C48 with N := N_least_weights, sc := defScope (top 60), wr := false }
def s_least_weights : MS := (sSeq (sExpr (mCall f_require_short (mCons (mVar 0) (mArgs [])))) (sSeq (sSet 1 (mCall f_counted (mCons (mProp 6 f_Code_length (mVar 0)) (mCons (mCall f_leaders_in (mCons (mVar 0) (mArgs []))) (mArgs []))))) (sSeq (sRet (mOp (one pTuple) [(mSl (mVar 1) none (some (mOp oAdd [(mOp oMax [(mLc [2, 3] (srcD (mArgs [(mVar 1)]) fEnum) (tfTup 2 (tfCons (tfName 2) (tfCons (tfName 3) tfNil))) (mBool (mOp oGt [(mVar 3), (mVal (.int 0))])) (mVar 2))]), (mVal (.int 1))])))])) sPass)))
theorem c_least_weights : cBody E_least_weights (defBody (top 60)) = some s_least_weights := by kernel_rfl
def f_least_weights : Fn := ⟨false, runB false 1 N_least_weights.length s_least_weights⟩
def C49 : CEnv := { C48 with fns := ("least_weights", 44, f_least_weights) :: C48.fns }
def N_signed_counts : List Str := ["code", "word", "even", "odd", "words", "one", "other"]
def E_signed_counts : CEnv := { C49 with N := N_signed_counts, sc := defScope (top 61), wr := false }
def s_signed_counts : MS := (sSeq (sExpr (mCall f_require_both (mCons (mVar 0) (mCons (mVar 1) (mArgs []))))) (sSeq (sUnp (tfTup 2 (tfCons (tfName 2) (tfCons (tfName 3) tfNil))) (mLc [4] (mIter (mCall f_even_and_odd (mCons (mVar 0) (mCons (mVar 1) (mArgs []))))) (tfName 4) mtYes (mCall f_counted (mCons (mProp 6 f_Code_length (mVar 0)) (mCons (mVar 4) (mArgs [])))))) (sSeq (sRet (mOp (one pTuple) [(mLc [5, 6] (srcD (mArgs [(mVar 2), (mVar 3)]) fZip) (tfTup 2 (tfCons (tfName 5) (tfCons (tfName 6) tfNil))) mtYes (mOp oSub [(mVar 5), (mVar 6)]))])) sPass)))
theorem c_signed_counts : cBody E_signed_counts (defBody (top 61)) = some s_signed_counts := by kernel_rfl
def f_signed_counts : Fn := ⟨false, runB false 2 N_signed_counts.length s_signed_counts⟩
def C50 : CEnv := { C49 with fns := ("signed_counts", 45, f_signed_counts) :: C49.fns }
def N_radius : List Str := ["code", "one"]
def E_radius : CEnv := { C50 with N := N_radius, sc := defScope (top 62), wr := false }
def s_radius : MS := (sSeq (sExpr (mCall f_require_short (mCons (mVar 0) (mArgs [])))) (sSeq (sRet (mOp oMax [(mLc [1] (mIter (mCall f_leaders_in (mCons (mVar 0) (mArgs [])))) (tfName 1) mtYes (mCall f_weight_in (mCons (mVar 1) (mArgs []))))])) sPass))
theorem c_radius : cBody E_radius (defBody (top 62)) = some s_radius := by kernel_rfl
def f_radius : Fn := ⟨false, runB false 1 N_radius.length s_radius⟩
def C51 : CEnv := { C50 with fns := ("radius", 46, f_radius) :: C50.fns }
def N_farthest : List Str := ["code", "told", "one", "rest", "most", "weight"]
def E_farthest : CEnv := { C51 with N := N_farthest, sc := defScope (top 63), wr := false }
def s_farthest : MS := (sSeq (sExpr (mCall f_require_short (mCons (mVar 0) (mArgs [])))) (sSeq (sSet 1 (mLc [2, 3] (srcD (mArgs [(mCall f_leaders_in (mCons (mVar 0) (mArgs []))), (mCall f_rests_in (mCons (mVar 0) (mArgs [])))]) fZip) (tfTup 2 (tfCons (tfName 2) (tfCons (tfName 3) tfNil))) mtYes (mTup (mCons (mCall f_weight_in (mCons (mVar 2) (mArgs []))) (mCons (mVar 3) (mArgs [])))))) (sSeq (sSet 4 (mOp oIx [(mOp oMax [(mVar 1)]), (mVal (.int 0))])) (sSeq (sRet (mOp oMin [(mLc [5, 3] (mIter (mVar 1)) (tfTup 2 (tfCons (tfName 5) (tfCons (tfName 3) tfNil))) (mBool (mOp oEq [(mVar 5), (mVar 4)])) (mVar 3))])) sPass))))
theorem c_farthest : cBody E_farthest (defBody (top 63)) = some s_farthest := by kernel_rfl
def f_farthest : Fn := ⟨false, runB false 1 N_farthest.length s_farthest⟩
def C52 : CEnv := { C51 with fns := ("farthest", 47, f_farthest) :: C51.fns }
def N_parent_counts : List Str := ["code", "word"]
def E_parent_counts : CEnv := { C52 with N := N_parent_counts, sc := defScope (top 64), wr := false }
def s_parent_counts : MS := (sSeq (sExpr (mCall f_require_both (mCons (mVar 0) (mCons (mVar 1) (mArgs []))))) (sSeq (sIf (mBool (mOp oEq [(mOp oMod [(mCall f_weight_in (mCons (mVar 1) (mArgs []))), (mVal (.int 2))]), (mVal (.int 0))])) (sSeq (sRaise0 3 (mVal (.str "an odd word is expected"))) sPass) sPass) (sSeq (sRet (mOp (one pTuple) [(mCall f_parent_counts_in (mCons (mVar 0) (mCons (mVar 1) (mArgs []))))])) sPass)))
theorem c_parent_counts : cBody E_parent_counts (defBody (top 64)) = some s_parent_counts := by kernel_rfl
def f_parent_counts : Fn := ⟨false, runB false 2 N_parent_counts.length s_parent_counts⟩
def C53 : CEnv := { C52 with fns := ("parent_counts", 48, f_parent_counts) :: C52.fns }
def N__law_pail : List Str := ["script", "spot", "cell", "great", "seed"]
def E__law_pail : CEnv := { C53 with N := N__law_pail, sc := defScope (top 66), wr := false }
def s__law_pail : MS := (sSeq (sSet 2 (mIf (mBool (mOp oLt [(mVar 1), (mOp (one pLen) [(mVar 0)])])) (mOp (one pInt1) [(mOp oIx [(mVar 0), (mVar 1)])]) (mOp oAdd [(mOp oMul [(mVal (.int 167)), (mVar 1)]), (mVal (.int 59))]))) (sSeq (sSet 3 (mOp oMod [(mOp (one pAbs) [(mVar 2)]), (mOp oPow [(mOp oPow [(mVal (.int 10)), (mVal (.int 57))]), (mVal (.int 7))])])) (sSeq (sSet 4 (mOp (one pInt1) [(mOp oAdd [(mOp oAdd [(mOp oAdd [(mOp oMul [(mOp oMod [(mVar 3), (mVal (.int 2305843009213693921))]), (mVal (.int 61))]), (mOp oMul [(mVal (.int 6473)), (mVar 1)])]), (mOp oMul [(mVal (.int 31)), (mOp (one pInt1) [(mOp oLt [(mVar 2), (mVal (.int 0))])])])]), (mVal (.int 89))])])) (sSeq (sRet (mLst (mCons (mOp oMax [(mVal (.int 0)), (mOp oSub [(mVar 3), (mOp oPow [(mVal (.int 10)), (mVal (.int 16))])])]) (mCons (mOp oMod [(mVar 4), (mVal (.int 2305843009213693951))]) (mCons (mVal (.int 0)) (mArgs [])))))) sPass))))
theorem c__law_pail : cBody E__law_pail (defBody (top 66)) = some s__law_pail := by kernel_rfl
def f__law_pail : Fn := ⟨false, runB false 2 N__law_pail.length s__law_pail⟩
def C54 : CEnv := { C53 with fns := ("_law_pail", 49, f__law_pail) :: C53.fns }
def N__law_scooped : List Str := ["pail", "total", "found", "one", "two"]
def E__law_scooped : CEnv := { C54 with N := N__law_scooped, sc := defScope (top 67), wr := true }
def s__law_scooped : MS := (sSeq (sIf (mBool (mOp oGt [(mOp oIx [(mVar 0), (mVal (.int 0))]), (mVal (.int 0))])) (sSeq (sSet 2 (mOp oMod [(mOp (one pInt1) [(mOp oIx [(mVar 0), (mVal (.int 0))])]), (mVar 1)])) (sSeq (sSetIx 0 (mVal (.int 0)) (mOp oDiv [(mOp oIx [(mVar 0), (mVal (.int 0))]), (mVar 1)])) (sSeq (sRet (mVar 2)) sPass))) sPass) (sSeq (sSetIx 0 (mVal (.int 2)) (mOp oAdd [(mOp oIx [(mVar 0), (mVal (.int 2))]), (mVal (.int 1))])) (sSeq (sSet 3 (mOp oMod [(mOp (one pInt1) [(mOp oAdd [(mOp oIx [(mVar 0), (mVal (.int 1))]), (mOp oMul [(mVal (.int 67867979)), (mOp oIx [(mVar 0), (mVal (.int 2))])])])]), (mVal (.int 2305843009213693951))])) (sSeq (sSet 4 (mOp oAdd [(mOp oAdd [(mOp oMul [(mOp oMod [(mOp (one pInt1) [(mOp oAdd [(mOp oMul [(mVar 3), (mVar 3)]), (mVal (.int 49979687))])]), (mVal (.int 2305843009213693907))]), (mVal (.int 86028121))]), (mVar 3)]), (mOp oMul [(mVal (.int 23)), (mOp oIx [(mVar 0), (mVal (.int 2))])])])) (sSeq (sRet (mOp oMod [(mOp (one pInt1) [(mOp oDiv [(mVar 4), (mVal (.int 65537))])]), (mVar 1)])) sPass)))))
theorem c__law_scooped : cBody E__law_scooped (defBody (top 67)) = some s__law_scooped := by kernel_rfl
def f__law_scooped : Fn := ⟨true, runB true 2 N__law_scooped.length s__law_scooped⟩
def C55 : CEnv := { C54 with fns := ("_law_scooped", 50, f__law_scooped) :: C54.fns }
def N__law_any_of : List Str := ["pail", "items"]
def E__law_any_of : CEnv := { C55 with N := N__law_any_of, sc := defScope (top 68), wr := true }
def s__law_any_of : MS := (sSeq (sRet (mOp oIx [(mVar 1), (mCall f__law_scooped (mCons (mVar 0) (mCons (mOp (one pLen) [(mVar 1)]) (mArgs []))))])) sPass)
theorem c__law_any_of : cBody E__law_any_of (defBody (top 68)) = some s__law_any_of := by kernel_rfl
def f__law_any_of : Fn := ⟨true, runB true 2 N__law_any_of.length s__law_any_of⟩
def C56 : CEnv := { C55 with fns := ("_law_any_of", 51, f__law_any_of) :: C55.fns }
def N__law_plain : List Str := ["length", "place"]
def E__law_plain : CEnv := { C56 with N := N__law_plain, sc := defScope (top 70), wr := false }
def s__law_plain : MS := (sSeq (sRet (mCall f_Code_init (mCons (mVar 0) (mCons (mOp (one pTuple) [(mLc [1] (srcD (mArgs [(mVal (.int 0)), (mVar 0), (mVal (.int 2))]) fR3) (tfName 1) mtYes (mOp oShl [(mVal (.int 3)), (mVar 1)]))]) (mArgs []))))) sPass)
theorem c__law_plain : cBody E__law_plain (defBody (top 70)) = some s__law_plain := by kernel_rfl
def f__law_plain : Fn := ⟨false, runB false 1 N__law_plain.length s__law_plain⟩
def C57 : CEnv := { C56 with fns := ("_law_plain", 53, f__law_plain) :: C56.fns }
def N__law_right : List Str := ["pail", "none", "four", "long", "odd", "bits", "met", "due", "call", "word"]
def E__law_right : CEnv := { C57 with N := N__law_right, sc := defScope (top 71), wr := true, lam := some lm }
def s__law_right_0 : MS := (sSet 1 (mCall f__law_any_of (mCons (mVar 0) (mCons (mLst (mCons (mVal .non) (mCons (mVal (.int 8)) (mCons (mTup (mCons (mVal (.int 3)) (mCons (mVal (.int 12)) (mArgs [])))) (mCons (mVal (.str "code")) (mCons mDct0 (mCons (mCall f_Code_init (mCons (mVal (.int 4)) (mCons (mTup (mCons (mVal (.int 3)) (mArgs []))) (mArgs [])))) (mCons (mCall f_Code_init (mCons (mVal (.int 4)) (mCons (mTup (mCons (mVal (.int 7)) (mCons (mVal (.int 11)) (mArgs [])))) (mArgs [])))) (mCons (mCall f_Code_init (mCons (mVal (.int 3)) (mCons (mTup (mCons (mVal (.int 3)) (mArgs []))) (mArgs [])))) (mCons (mCall f_Code_init (mCons (mVal (.int 4)) (mCons (mTup (mArgs [])) (mArgs [])))) (mCons (mLst (mCons (mCall f_Code_init (mCons (mVal (.int 2)) (mCons (mTup (mCons (mVal (.int 3)) (mArgs []))) (mArgs [])))) (mArgs []))) (mArgs [])))))))))))) (mArgs [])))))
def s__law_right_1 : MS := (sUnp (tfTup 2 (tfCons (tfName 2) (tfCons (tfName 3) tfNil))) (mTup (mCons (mCall f__law_plain (mCons (mVal (.int 4)) (mArgs []))) (mCons (mCall f__law_plain (mCons (mCall f__law_any_of (mCons (mVar 0) (mCons (mLst (mCons (mVal (.int 18)) (mCons (mVal (.int 20)) (mCons (mVal (.int 24)) (mArgs []))))) (mArgs [])))) (mArgs []))) (mArgs [])))))
def s__law_right_2 : MS := (sSet 4 (mCall f__law_any_of (mCons (mVar 0) (mCons (mLst (mCons (mVal .non) (mCons (mOp oNeg [(mVal (.int 1))]) (mCons (mVal (.int 16)) (mCons (mVal (.bl true)) (mCons (mVal (.str "1")) (mCons (mTup (mCons (mVal (.int 1)) (mArgs []))) (mCons (mOp oPow [(mVal (.int 10)), (mVal (.int 60))]) (mCons (mLst (mArgs [])) (mArgs [])))))))))) (mArgs [])))))
def s__law_right_3 : MS := (sSet 5 (mCall f__law_any_of (mCons (mVar 0) (mCons (mLst (mCons (mVal .non) (mCons (mTup (mArgs [])) (mCons (mTup (mCons (mVal (.int 0)) (mArgs []))) (mCons (mTup (mCons (mVal (.int 0)) (mCons (mVal (.int 1)) (mCons (mVal (.int 1)) (mArgs []))))) (mCons (mLst (mCons (mVal (.int 0)) (mCons (mVal (.int 1)) (mArgs [])))) (mCons (mTup (mCons (mVal (.int 0)) (mCons (mVal (.int 2)) (mArgs [])))) (mCons (mTup (mCons (mVal (.int 0)) (mCons (mVal (.bl true)) (mArgs [])))) (mCons (mTup (mCons (mVal (.int 0)) (mCons (mOp oNeg [(mVal (.int 1))]) (mArgs [])))) (mCons (mTup (mCons (mVal .non) (mCons (mVal (.int 0)) (mArgs [])))) (mCons (mVal (.str "01")) (mCons (mVal (.int 3)) (mArgs []))))))))))))) (mArgs [])))))
def s__law_right_4 : MS := (sPar 6 7 (mLst (mArgs [])) (mLst (mArgs [])))
def s__law_right_5_0 : MS := (sExpr (mAppend 6 (mMet lm.exs lm.sub lm.hs lm.fsh lm.ftxt (mHeld C57.fns 8 (mCons (mVar 1) (mCons (mVar 4) (mArgs [])))))))
def s__law_right_5_1 : MS := (sExpr (mAppend 6 (mMet lm.exs lm.sub lm.hs lm.fsh lm.ftxt (mHeld C57.fns 8 (mCons (mVar 2) (mCons (mVar 4) (mArgs [])))))))
def s__law_right_5_2 : MS := (sExpr (mAppend 6 (mMet lm.exs lm.sub lm.hs lm.fsh lm.ftxt (mHeld C57.fns 8 (mCons (mVar 3) (mCons (mOp oShl [(mVal (.int 1)), (mProp 6 f_Code_length (mVar 3))]) (mArgs [])))))))
def s__law_right_5_3 : MS := (sExpr (mAppend 6 (mMet lm.exs lm.sub lm.hs lm.fsh lm.ftxt (mHeld C57.fns 8 (mCons (mVar 3) (mCons (mVal (.int 2)) (mArgs [])))))))
def s__law_right_5_4 : MS := (sSet 7 (mOp oAdd [(mVar 7), (mLst (mCons (mVal (.str "code")) (mCons (mVal (.str "word")) (mCons (mVal (.str "word")) (mCons (mVal (.str "many 16")) (mArgs []))))))]))
def s__law_right_5_b : MS := (sSeq s__law_right_5_0 (sSeq s__law_right_5_1 (sSeq s__law_right_5_2 (sSeq s__law_right_5_3 (sSeq s__law_right_5_4 sPass)))))
def s__law_right_5 : MS := sFor (mIter (mTup (mCons (mVal (.fn 37)) (mCons (mVal (.fn 38)) (mCons (mVal (.fn 40)) (mCons (mVal (.fn 42)) (mCons (mVal (.fn 45)) (mCons (mVal (.fn 48)) (mArgs []))))))))) (tfName 8) s__law_right_5_b
def s__law_right_6_0 : MS := (sExpr (mAppend 6 (mMet lm.exs lm.sub lm.hs lm.fsh lm.ftxt (mHeld C57.fns 8 (mCons (mVar 1) (mArgs []))))))
def s__law_right_6_1 : MS := (sExpr (mAppend 6 (mMet lm.exs lm.sub lm.hs lm.fsh lm.ftxt (mHeld C57.fns 8 (mCons (mVar 3) (mArgs []))))))
def s__law_right_6_2 : MS := (sSet 7 (mOp oAdd [(mVar 7), (mLst (mCons (mVal (.str "code")) (mCons (mVal (.str "many 16")) (mArgs []))))]))
def s__law_right_6_b : MS := (sSeq s__law_right_6_0 (sSeq s__law_right_6_1 (sSeq s__law_right_6_2 sPass)))
def s__law_right_6 : MS := sFor (mIter (mTup (mCons (mVal (.fn 43)) (mCons (mVal (.fn 44)) (mCons (mVal (.fn 46)) (mCons (mVal (.fn 47)) (mArgs []))))))) (tfName 8) s__law_right_6_b
def s__law_right_7 : MS := (sExpr (mAppend 6 (mMet lm.exs lm.sub lm.hs lm.fsh lm.ftxt (mCall f_word_with (mCons (mVar 1) (mCons (mVar 5) (mArgs [])))))))
def s__law_right_8 : MS := (sExpr (mAppend 6 (mMet lm.exs lm.sub lm.hs lm.fsh lm.ftxt (mCall f_word_with (mCons (mVar 2) (mCons (mVar 5) (mArgs [])))))))
def s__law_right_9 : MS := (sExpr (mAppend 6 (mMet lm.exs lm.sub lm.hs lm.fsh lm.ftxt (mCall f_word_with (mCons (mVar 3) (mCons (mVar 5) (mArgs [])))))))
def s__law_right_10 : MS := (sExpr (mAppend 6 (mMet lm.exs lm.sub lm.hs lm.fsh lm.ftxt (mCall f_word_with (mCons (mVar 3) (mCons (mOp oMul [(mTup (mCons (mVal (.int 0)) (mArgs []))), (mProp 6 f_Code_dimension (mVar 3))]) (mArgs [])))))))
def s__law_right_11 : MS := (sExpr (mAppend 6 (mMet lm.exs lm.sub lm.hs lm.fsh lm.ftxt (mCall f_is_leader (mCons (mVar 1) (mCons (mVar 4) (mArgs [])))))))
def s__law_right_12 : MS := (sExpr (mAppend 6 (mMet lm.exs lm.sub lm.hs lm.fsh lm.ftxt (mCall f_is_leader (mCons (mVar 3) (mCons (mVar 4) (mArgs [])))))))
def s__law_right_13 : MS := (sExpr (mAppend 6 (mMet lm.exs lm.sub lm.hs lm.fsh lm.ftxt (mCall f_parent_counts (mCons (mVar 2) (mCons (mCall f__law_any_of (mCons (mVar 0) (mCons (mLst (mCons (mVal (.int 0)) (mCons (mVal (.int 3)) (mCons (mVal (.int 5)) (mCons (mVal (.int 15)) (mArgs [])))))) (mArgs [])))) (mArgs [])))))))
def s__law_right_14 : MS := (sSet 7 (mOp oAdd [(mVar 7), (mLst (mCons (mVal (.str "code")) (mCons (mVal (.str "operation")) (mCons (mVal (.str "operation")) (mCons (mVal (.str "many 16")) (mCons (mVal (.str "code")) (mCons (mVal (.str "many 16")) (mCons (mVal (.str "operation")) (mArgs [])))))))))]))
def s__law_right_15 : MS := (sRet (mAndV (mOp oEq [(mVar 6), (mLc [9] (mIter (mVar 7)) (tfName 9) mtYes (mTup (mCons (mVal (.str "refused")) (mCons (mVar 9) (mArgs [])))))]) (mNotV (mCall f_is_leader (mCons (mVar 2) (mCons (mVar 4) (mArgs [])))))))
def s__law_right : MS := (sSeq s__law_right_0 (sSeq s__law_right_1 (sSeq s__law_right_2 (sSeq s__law_right_3 (sSeq s__law_right_4 (sSeq s__law_right_5 (sSeq s__law_right_6 (sSeq s__law_right_7 (sSeq s__law_right_8 (sSeq s__law_right_9 (sSeq s__law_right_10 (sSeq s__law_right_11 (sSeq s__law_right_12 (sSeq s__law_right_13 (sSeq s__law_right_14 (sSeq s__law_right_15 sPass))))))))))))))))
theorem c__law_right : cBody E__law_right (defBody (top 71)) = some s__law_right := by kernel_rfl
def f__law_right : Fn := ⟨true, runB true 1 N__law_right.length s__law_right⟩
def C58 : CEnv := { C57 with fns := ("_law_right", 54, f__law_right) :: C57.fns }
def N_law : List Str := ["script", "spot", "pail", "sixteen", "met"]
def E_law : CEnv := { C58 with N := N_law, sc := defScope (top 72), wr := false, lam := some lm }
def s_law_0_0 : MS := (sSet 2 (mCall f__law_pail (mCons (mVar 0) (mCons (mVar 1) (mArgs [])))))
def s_law_0_1 : MS := (sIf (mOr (mNot (mTruth (mCall f__law_right (mCons (mVar 2) (mArgs []))))) (mNot (mTruth (mCall f__law_right (mCons (mVar 2) (mArgs [])))))) (sSeq (sRet (mVal (.bl false))) sPass) sPass)
def s_law_0_b : MS := (sSeq s_law_0_0 (sSeq s_law_0_1 sPass))
def s_law_0 : MS := sFor (srcD (mArgs [(mOp oMax [(mVal (.int 1)), (mOp oMin [(mVal (.int 4)), (mOp (one pLen) [(mVar 0)])])])]) fR1) (tfName 1) s_law_0_b
def s_law_1 : MS := (sSet 3 (mCall f__law_plain (mCons (mVal (.int 16)) (mArgs []))))
def s_law_2 : MS := (sSet 4 (mLst (mCons (mMet lm.exs lm.sub lm.hs lm.fsh lm.ftxt (mCall f_leader (mCons (mVar 3) (mCons (mOp oSub [(mOp oShl [(mVal (.int 1)), (mVal (.int 16))]), (mVal (.int 2))]) (mArgs []))))) (mArgs []))))
def s_law_3 : MS := (sExpr (mAppend 4 (mMet lm.exs lm.sub lm.hs lm.fsh lm.ftxt (mCall f_parent_counts (mCons (mVar 3) (mCons (mVal (.int 1)) (mArgs [])))))))
def s_law_4 : MS := (sExpr (mAppend 4 (mMet lm.exs lm.sub lm.hs lm.fsh lm.ftxt (mCall f_word_with (mCons (mVar 3) (mCons (mOp oMul [(mTup (mCons (mVal (.int 1)) (mArgs []))), (mVal (.int 8))]) (mArgs [])))))))
def s_law_5 : MS := (sRet (mAndV (mOp oEq [(mVar 4), (mOp oMul [(mLst (mCons (mTup (mCons (mVal (.str "fine")) (mArgs []))) (mArgs []))), (mVal (.int 3))])]) (mAndV (mOp oEq [(mVal (.int 16)), (mVal (.int 16))]) (mOp oEq [(mCall f_leader (mCons (mVar 3) (mCons (mOp oSub [(mOp oShl [(mVal (.int 1)), (mVal (.int 16))]), (mVal (.int 2))]) (mArgs [])))), (mVal (.int 1))]))))
def s_law : MS := (sSeq s_law_0 (sSeq s_law_1 (sSeq s_law_2 (sSeq s_law_3 (sSeq s_law_4 (sSeq s_law_5 sPass))))))
theorem c_law : cBody E_law (defBody (top 72)) = some s_law := by kernel_rfl
def f_law : Fn := ⟨false, runB false 1 N_law.length s_law⟩
def C59 : CEnv := { C58 with fns := ("law", 55, f_law) :: C58.fns }
end Ev
set_option maxHeartbeats 0
/-! k83: the head. -/
namespace Ev
open PySem PySem.Spec PyProof.Rows L2 He
def gD (x : Str) (i : Nat) : FzD := { adr := fun K => ga K x, name := x, qual := x, params := defArgs (top i), body := defBody (top i), scope := defScope (top i) }
def iD (c : Str) (i j : Nat) (s : Bool) : FzD := { adr := iniA c, name := "__init__", qual := c ++ ".__init__", params := defArgs (inC i j), body := defBody (inC i j), scope := defScope (inC i j), sup := s }
def pD (c f : Str) (i j : Nat) : FzD := { adr := geta c f, name := f, qual := c ++ "." ++ f, params := defArgs (inC i j), body := defBody (inC i j), scope := defScope (inC i j) }
def z_InvalidNumber : FzD := iD "InvalidNumber" 5 0 true
def z_TooMany : FzD := iD "TooMany" 6 0 true
def fz : List FzD := ([gD "is_whole" 11, gD "is_from" 12, gD "is_word_in" 13, gD "are_words_in" 14, gD "weight_in" 15, gD "product_in" 16, gD "head_of" 17, gD "has_bit" 18, gD "word_in" 19, gD "remainder_in" 20, gD "with_word" 21, gD "basis_in" 22, gD "heads_in" 23, gD "free_in" 24, gD "span_in" 25, gD "checks_in" 26, gD "require_length" 27, gD "require_word" 28, gD "require_words" 29, gD "is_own_in" 32, gD "is_own_code" 33, gD "require_own" 34, gD "coset_in" 38, gD "products_in" 39, gD "rest_with" 40, gD "columns_of" 41, gD "apart_in" 42, gD "lessened" 43, gD "leader_in" 44, gD "rests_in" 45] : List (FzD)) ++ ([gD "leaders_in" 46, gD "counted" 47, gD "even_and_odd" 48, gD "parent_counts_in" 49, gD "nearest_in" 50, gD "require_short" 51, gD "require_both" 52, gD "coset_of" 53, gD "products_of" 54, gD "word_with" 55, gD "leader" 56, gD "is_leader" 57, gD "nearest" 58, gD "leaders" 59, gD "least_weights" 60, gD "signed_counts" 61, gD "radius" 62, gD "farthest" 63, gD "parent_counts" 64, gD "_law_pail" 66, gD "_law_scooped" 67, gD "_law_any_of" 68, gD "_law_met" 69, gD "_law_plain" 70, gD "_law_right" 71, gD "law" 72, iD "Code" 31 1 false, pD "Code" "length" 31 2, pD "Code" "basis" 31 3, pD "Code" "dimension" 31 4] : List (FzD)) ++ ([iD "InvalidNumber" 5 0 true, iD "TooMany" 6 0 true] : List (FzD))
def tf : List FzD := [gD "_law_right" 71, gD "law" 72]
def exL : List (PySem.W.Frag → Bool) := ([fun K => (Fa.glo "is_whole").ok K, fun K => (Fa.glo "is_from").ok K, fun K => (Fa.glo "is_word_in").ok K, fun K => (Fa.glo "are_words_in").ok K, fun K => (Fa.glo "weight_in").ok K, fun K => (Fa.glo "product_in").ok K, fun K => (Fa.glo "head_of").ok K, fun K => (Fa.glo "has_bit").ok K, fun K => (Fa.glo "word_in").ok K, fun K => (Fa.glo "remainder_in").ok K, fun K => (Fa.glo "with_word").ok K, fun K => (Fa.glo "basis_in").ok K, fun K => (Fa.glo "heads_in").ok K, fun K => (Fa.glo "free_in").ok K, fun K => (Fa.glo "span_in").ok K, fun K => (Fa.glo "checks_in").ok K, fun K => (Fa.glo "require_length").ok K, fun K => (Fa.glo "require_word").ok K, fun K => (Fa.glo "require_words").ok K, fun K => (Fa.glo "is_own_in").ok K, fun K => (Fa.glo "is_own_code").ok K, fun K => (Fa.glo "require_own").ok K, fun K => (Fa.glo "coset_in").ok K, fun K => (Fa.glo "products_in").ok K, fun K => (Fa.glo "rest_with").ok K, fun K => (Fa.glo "columns_of").ok K, fun K => (Fa.glo "apart_in").ok K, fun K => (Fa.glo "lessened").ok K, fun K => (Fa.glo "leader_in").ok K, fun K => (Fa.glo "rests_in").ok K] : List (PySem.W.Frag → Bool)) ++ ([fun K => (Fa.glo "leaders_in").ok K, fun K => (Fa.glo "counted").ok K, fun K => (Fa.glo "even_and_odd").ok K, fun K => (Fa.glo "parent_counts_in").ok K, fun K => (Fa.glo "nearest_in").ok K, fun K => (Fa.glo "require_short").ok K, fun K => (Fa.glo "require_both").ok K, fun K => (Fa.glo "coset_of").ok K, fun K => (Fa.glo "products_of").ok K, fun K => (Fa.glo "word_with").ok K, fun K => (Fa.glo "leader").ok K, fun K => (Fa.glo "is_leader").ok K, fun K => (Fa.glo "nearest").ok K, fun K => (Fa.glo "leaders").ok K, fun K => (Fa.glo "least_weights").ok K, fun K => (Fa.glo "signed_counts").ok K, fun K => (Fa.glo "radius").ok K, fun K => (Fa.glo "farthest").ok K, fun K => (Fa.glo "parent_counts").ok K, fun K => (Fa.glo "_law_pail").ok K, fun K => (Fa.glo "_law_scooped").ok K, fun K => (Fa.glo "_law_any_of").ok K, fun K => (Fa.glo "_law_met").ok K, fun K => (Fa.glo "_law_plain").ok K, fun K => (Fa.glo "_law_right").ok K, fun K => (Fa.glo "law").ok K, fun K => (Fa.glo "CheckError").ok K, fun K => (Fa.glo "InvalidWord").ok K, fun K => (Fa.glo "InvalidCode").ok K, fun K => (Fa.glo "InvalidOperation").ok K] : List (PySem.W.Frag → Bool)) ++ ([fun K => (Fa.glo "InvalidNumber").ok K, fun K => (Fa.glo "TooMany").ok K, fun K => (Fa.glo "Code").ok K, fun K => (Fa.free "len").ok K, fun K => (Fa.free "int").ok K, fun K => (Fa.free "abs").ok K, fun K => (Fa.free "max").ok K, fun K => (Fa.free "min").ok K, fun K => (Fa.free "sum").ok K, fun K => (Fa.free "tuple").ok K, fun K => (Fa.free "list").ok K, fun K => (Fa.free "all").ok K, fun K => (Fa.free "any").ok K, fun K => (Fa.free "sorted").ok K, fun K => (Fa.free "str").ok K, fun K => (Fa.free "isinstance").ok K, fun K => (Fa.free "range").ok K, fun K => (Fa.free "enumerate").ok K, fun K => (Fa.free "zip").ok K, fun K => (Fa.free "bool").ok K, fun K => (Fa.free "dict").ok K, fun K => (Fa.free "set").ok K, fun K => (Fa.free "repr").ok K, fun K => (Fa.free "super").ok K, fun K => (Fa.int "MOST_LENGTH" 24).ok K, fun K => (Fa.int "MOST_WORDS" 64).ok K, fun K => (Fa.int "PAIR_spans" 2).ok K, fun K => (Fa.int "MOST_COSETS" 16).ok K, fun K => (Fa.int "PAIR_cosets" 2).ok K, fun K => clfB K "Code"] : List (PySem.W.Frag → Bool)) ++ ([fun K => propB K "Code" "length", fun K => propB K "Code" "basis", fun K => propB K "Code" "dimension", fun K => (Fa.mkr "Code").ok K, fun K => slotB K "Code" "own_basis" 0, fun K => slotB K "Code" "own_length" 1, fun K => expB K "CheckError" 0, fun K => expB K "InvalidWord" 0, fun K => expB K "InvalidCode" 0, fun K => expB K "InvalidOperation" 0, fun K => exsB PySem.Challenge.pw_codegrates_k83_errors_of_cosets.main.file "given" z_InvalidNumber 1 "InvalidNumber" K, fun K => exsB PySem.Challenge.pw_codegrates_k83_errors_of_cosets.main.file "limit" z_TooMany 2 "TooMany" K, fun K => (Fa.exm "CheckError" "InvalidCode" false).ok K, fun K => (Fa.exm "CheckError" "InvalidWord" false).ok K, fun K => (Fa.exm "CheckError" "InvalidOperation" false).ok K, fun K => (Fa.exm "CheckError" "TooMany" false).ok K, fun K => (Fa.exm "InvalidWord" "InvalidCode" false).ok K, fun K => (Fa.exm "InvalidWord" "InvalidWord" true).ok K, fun K => (Fa.exm "InvalidWord" "InvalidOperation" false).ok K, fun K => (Fa.exm "InvalidWord" "TooMany" false).ok K, fun K => (Fa.exm "InvalidCode" "InvalidCode" true).ok K, fun K => (Fa.exm "InvalidCode" "InvalidWord" false).ok K, fun K => (Fa.exm "InvalidCode" "InvalidOperation" false).ok K, fun K => (Fa.exm "InvalidCode" "TooMany" false).ok K, fun K => (Fa.exm "InvalidOperation" "InvalidCode" false).ok K, fun K => (Fa.exm "InvalidOperation" "InvalidWord" false).ok K, fun K => (Fa.exm "InvalidOperation" "InvalidOperation" true).ok K, fun K => (Fa.exm "InvalidOperation" "TooMany" false).ok K, fun K => (Fa.exm "InvalidNumber" "InvalidCode" false).ok K, fun K => (Fa.exm "InvalidNumber" "InvalidWord" false).ok K] : List (PySem.W.Frag → Bool)) ++ ([fun K => (Fa.exm "InvalidNumber" "InvalidOperation" false).ok K, fun K => (Fa.exm "InvalidNumber" "TooMany" false).ok K, fun K => (Fa.exm "TooMany" "InvalidCode" false).ok K, fun K => (Fa.exm "TooMany" "InvalidWord" false).ok K, fun K => (Fa.exm "TooMany" "InvalidOperation" false).ok K, fun K => (Fa.exm "TooMany" "TooMany" true).ok K, fun K => xfcB K "TooMany" "limit", fun K => decide (fzT K (gD "_law_right" 71) ≠ fzT K (gD "law" 72)), fun K => decide (fzT K (gD "law" 72) ≠ fzT K (gD "_law_right" 71))] : List (PySem.W.Frag → Bool))
def exA (K : PySem.W.Frag) : Bool := exL.all fun f => f K
abbrev R : PySem.W.OpenRow := PySem.W.OpenLaw.row PySem.Challenge.rw_codegrates_k83_errors_of_cosets
abbrev hk : PySem.W.Hook := hookZ 7 fz tf exA
def ob (s : PySem.W.SharedT) : AlZ := obsZ 7 fz tf exA (HandSHeadRun.getT s)
theorem ob_eq (s : PySem.W.SharedT) : ob s = hk.obs s.abs := obsZ_eq (HandSHeadRun.getT_eq s)
def loose : List Str := (["CheckError", "InvalidWord", "InvalidCode", "InvalidOperation", "InvalidNumber", "TooMany", "MOST_LENGTH", "MOST_WORDS", "PAIR_spans", "is_whole", "is_from", "is_word_in", "are_words_in", "weight_in", "product_in", "head_of", "has_bit", "word_in", "remainder_in", "with_word", "basis_in", "heads_in", "free_in", "span_in", "checks_in", "require_length", "require_word", "require_words", "Code", "is_own_in"] : List (Str)) ++ (["is_own_code", "require_own", "MOST_COSETS", "PAIR_cosets", "coset_in", "products_in", "rest_with", "columns_of", "apart_in", "lessened", "leader_in", "rests_in", "leaders_in", "counted", "even_and_odd", "parent_counts_in", "nearest_in", "require_short", "require_both", "coset_of", "products_of", "word_with", "leader", "is_leader", "nearest", "leaders", "least_weights", "signed_counts", "radius", "farthest"] : List (Str)) ++ (["parent_counts", "_law_pail", "_law_scooped", "_law_any_of", "_law_met", "_law_plain", "_law_right"] : List (Str))
theorem run (w : World) : HandSHeadRun.RunEq R (PySem.W.view R.prog [72]) hk ob 4000 loose w := by
  intro os
  kernel_rfl
end Ev
set_option maxHeartbeats 0
/-! k83: the chain. -/
namespace Ev
open PySem PySem.Spec PyProof.Rows L2 He
def fnN : List Str := (["is_whole", "is_from", "is_word_in", "are_words_in", "weight_in", "product_in", "head_of", "has_bit", "word_in", "remainder_in", "with_word", "basis_in", "heads_in", "free_in", "span_in", "checks_in", "require_length", "require_word", "require_words", "is_own_in", "is_own_code", "require_own", "coset_in", "products_in", "rest_with", "columns_of", "apart_in", "lessened", "leader_in", "rests_in"] : List (Str)) ++ (["leaders_in", "counted", "even_and_odd", "parent_counts_in", "nearest_in", "require_short", "require_both", "coset_of", "products_of", "word_with", "leader", "is_leader", "nearest", "leaders", "least_weights", "signed_counts", "radius", "farthest", "parent_counts", "_law_pail", "_law_scooped", "_law_any_of", "_law_met", "_law_plain", "_law_right", "law"] : List (Str))
def clN : List Str := ["CheckError", "InvalidWord", "InvalidCode", "InvalidOperation", "InvalidNumber", "TooMany", "Code"]
def fldN (c : Nat) : Str := (["", "", "", "", "given", "limit", ""] : List Str).getD c ""
def TT (K : PySem.W.Frag) : List (Addr × Str) := tf.map fun d => (fzT K d, lq d ++ "<lambda>")
abbrev PP : Program := PySem.Challenge.pw_codegrates_k83_errors_of_cosets
abbrev GG (w : World) (K : PySem.W.Frag) (mg : Str → Option Value) (base : Heap) : Gam := mkG PP w K mg base fnN clN fldN (TT K)
structure Fac (K : PySem.W.Frag) (mg : Str → Option Value) (base h : Heap) : Prop where
  c : SaysZ fz tf exA h K
  X : K.In base
  N : base.Ns mainGlobals mg
section
variable {w : World} {K : PySem.W.Frag} {mg : Str → Option Value} {base h : Heap}
theorem Fac.ex (F : Fac K mg base h) (i : Nat) {f : PySem.W.Frag → Bool} (hi : exL[i]? = some f) : f K = true := exL_at F.c.more i hi
theorem Fac.glo (F : Fac K mg base h) (x : Str) (i : Nat) (hi : exL[i]? = some (fun K => (Fa.glo x).ok K)) : mg x = some (.ref (ga K x)) := glo_ok F.X F.N (F.ex i hi)
theorem Fac.free (F : Fac K mg base h) (x : Str) (i : Nat) (hi : exL[i]? = some (fun K => (Fa.free x).ok K)) : mg x = none := free_ok F.X F.N (F.ex i hi)
def p_InvalidNumber (i : Nat) : Pos := [⟨13, 8, 13, 13⟩, ⟨13, 8, 13, 15⟩, ⟨13, 8, 13, 24⟩, ⟨13, 25, 13, 30⟩, ⟨13, 8, 13, 31⟩, ⟨13, 8, 13, 31⟩, ⟨14, 8, 14, 12⟩, ⟨14, 8, 14, 18⟩, ⟨14, 21, 14, 26⟩, ⟨14, 8, 14, 26⟩].getD i ⟨0, 0, 0, 0⟩
theorem e_InvalidNumber (F : Fac K mg base h) : ExS K PP (ga K "InvalidNumber") "given" := exs_ok (file := PP.main.file) (slf := "self") (gv := "given") (d := z_InvalidNumber) (p := p_InvalidNumber) (ar := ⟨"self", none, ⟨12, 17, 12, 21⟩⟩) rfl rfl (F.c.at_ 60 rfl) (by kernel_rfl) rfl (fun env => rfl) (by kernel_rfl) rfl (by decide) (by kernel_rfl) (by kernel_rfl) (by kernel_rfl) (by kernel_rfl) (by decide +kernel) (by kernel_rfl) (by kernel_rfl) (by kernel_rfl) (by decide) (by decide)
  (fun kV doc pm ct cdv an cc us hl => match us, hl with | [_, _], _ => rfl) (by kernel_rfl) (F.ex 100 rfl)
def p_TooMany (i : Nat) : Pos := [⟨18, 8, 18, 13⟩, ⟨18, 8, 18, 15⟩, ⟨18, 8, 18, 24⟩, ⟨18, 25, 18, 30⟩, ⟨18, 8, 18, 31⟩, ⟨18, 8, 18, 31⟩, ⟨19, 8, 19, 12⟩, ⟨19, 8, 19, 18⟩, ⟨19, 21, 19, 26⟩, ⟨19, 8, 19, 26⟩].getD i ⟨0, 0, 0, 0⟩
theorem e_TooMany (F : Fac K mg base h) : ExS K PP (ga K "TooMany") "limit" := exs_ok (file := PP.main.file) (slf := "self") (gv := "limit") (d := z_TooMany) (p := p_TooMany) (ar := ⟨"self", none, ⟨17, 17, 17, 21⟩⟩) rfl rfl (F.c.at_ 61 rfl) (by kernel_rfl) rfl (fun env => rfl) (by kernel_rfl) rfl (by decide) (by kernel_rfl) (by kernel_rfl) (by kernel_rfl) (by kernel_rfl) (by decide +kernel) (by kernel_rfl) (by kernel_rfl) (by kernel_rfl) (by decide) (by decide)
  (fun kV doc pm ct cdv an cc us hl => match us, hl with | [_, _], _ => rfl) (by kernel_rfl) (F.ex 101 rfl)
theorem g0 (F : Fac K mg base h) : GOk (GG w K mg base) 1 C0 where
  fns := fun x j f h => nomatch h
  mks := fun x c f h => nomatch h
  exs0 := fun x c hm => (show ∀ q ∈ C0.exs0, ∃ A, (GG w K mg base).clsA q.2 = some A ∧ (GG w K mg base).mg q.1 = some (.ref A) ∧ ExP (GG w K mg base).K A from (all_cons ⟨_, rfl, F.glo "CheckError" 56 rfl, exp_ok (F.ex 96 rfl)⟩ (all_cons ⟨_, rfl, F.glo "InvalidWord" 57 rfl, exp_ok (F.ex 97 rfl)⟩ (all_cons ⟨_, rfl, F.glo "InvalidCode" 58 rfl, exp_ok (F.ex 98 rfl)⟩ (all_cons ⟨_, rfl, F.glo "InvalidOperation" 59 rfl, exp_ok (F.ex 99 rfl)⟩ all_nil))))) (x, c) hm
  exs1 := fun x c hm => (show ∀ q ∈ C0.exs1, 1 ≤ 1 ∧ ∃ A, (GG w K mg base).clsA q.2 = some A ∧ (GG w K mg base).mg q.1 = some (.ref A) ∧ ExS (GG w K mg base).K (GG w K mg base).P A ((GG w K mg base).fldA q.2) from (all_cons ⟨Nat.le_refl 1, _, rfl, F.glo "InvalidNumber" 60 rfl, e_InvalidNumber F⟩ (all_cons ⟨Nat.le_refl 1, _, rfl, F.glo "TooMany" 61 rfl, e_TooMany F⟩ all_nil))) (x, c) hm
  cons := fun x d hm => (show ∀ q ∈ C0.cons, ConOk (GG w K mg base) q from (all_cons (con_int F.X F.N rfl (F.ex 84 rfl)) (all_cons (con_int F.X F.N rfl (F.ex 85 rfl)) (all_cons (con_int F.X F.N rfl (F.ex 86 rfl)) (all_cons (con_int F.X F.N rfl (F.ex 87 rfl)) (all_cons (con_int F.X F.N rfl (F.ex 88 rfl)) all_nil)))))) (x, d) hm
  slots := fun f T hm => (show ∀ q ∈ C0.slots, SlF (GG w K mg base) q.1 q.2 from (all_cons (slF_cons (x := "Code") rfl (F.ex 89 rfl) (F.ex 94 rfl) slF_nil) (all_cons (slF_cons (x := "Code") rfl (F.ex 89 rfl) (F.ex 95 rfl) slF_nil) all_nil))) (f, T) hm
  props := fun x c f h => nomatch h
  cls := fun x c hm => (show ∀ q ∈ C0.cls, ∃ A, (GG w K mg base).clsA q.2 = some A ∧ (GG w K mg base).mg q.1 = some (.ref A) from (all_cons ⟨_, rfl, F.glo "Code" 62 rfl⟩ all_nil)) (x, c) hm
  gf := gf_one (x := "Code") rfl (F.ex 89 rfl)
  free := (all_cons (F.free "len" 63 rfl) (all_cons (F.free "int" 64 rfl) (all_cons (F.free "abs" 65 rfl) (all_cons (F.free "max" 66 rfl) (all_cons (F.free "min" 67 rfl) (all_cons (F.free "sum" 68 rfl) (all_cons (F.free "tuple" 69 rfl) (all_cons (F.free "list" 70 rfl) (all_cons (F.free "all" 71 rfl) (all_cons (F.free "any" 72 rfl) (all_cons (F.free "sorted" 73 rfl) (all_cons (F.free "str" 74 rfl) (all_cons (F.free "isinstance" 75 rfl) (all_cons (F.free "range" 76 rfl) (all_cons (F.free "enumerate" 77 rfl) (all_cons (F.free "zip" 78 rfl) (all_cons (F.free "bool" 79 rfl) (all_cons (F.free "dict" 80 rfl) (all_cons (F.free "set" 81 rfl) (all_cons (F.free "repr" 82 rfl) (all_cons (F.free "super" 83 rfl) all_nil)))))))))))))))))))))
theorem r_is_whole (F : Fac K mg base h) (g : GOk (GG w K mg base) 1 C0) : FnR PP w K mg base (L2.CX PP w) 2 (ga K "is_whole") (spF (GG w K mg base) f_is_whole) :=
  def_fnR (G := GG w K mg base) (C := E_is_whole) (d := gD "is_whole" 11) (ps := ["value"]) (F.c.def_ 0 rfl rfl) ⟨rfl, rfl, rfl, by decide +kernel, rfl, by decide +kernel, by decide +kernel⟩ rfl rfl (fun _ _ _ _ _ _ us hl => match us, hl with | [_], _ => rfl) (g.re N_is_whole (defScope (top 11)) false none) c_is_whole (fun X _ l e => nomatch (show (none : Option LamE) = some l from e))
theorem g1 (F : Fac K mg base h) : GOk (GG w K mg base) 2 C1 := (g0 F).addFn (x := "is_whole") (r_is_whole F (g0 F)) (F.glo "is_whole" 0 rfl) (F.c.def_ 0 rfl rfl).kp rfl
theorem r_is_from (F : Fac K mg base h) (g : GOk (GG w K mg base) 2 C1) : FnR PP w K mg base (L2.CX PP w) 3 (ga K "is_from") (spF (GG w K mg base) f_is_from) :=
  def_fnR (G := GG w K mg base) (C := E_is_from) (d := gD "is_from" 12) (ps := ["value", "least", "most"]) (F.c.def_ 1 rfl rfl) ⟨rfl, rfl, rfl, by decide +kernel, rfl, by decide +kernel, by decide +kernel⟩ rfl rfl (fun _ _ _ _ _ _ us hl => match us, hl with | [_, _, _], _ => rfl) (g.re N_is_from (defScope (top 12)) false none) c_is_from (fun X _ l e => nomatch (show (none : Option LamE) = some l from e))
theorem g2 (F : Fac K mg base h) : GOk (GG w K mg base) 3 C2 := (g1 F).addFn (x := "is_from") (r_is_from F (g1 F)) (F.glo "is_from" 1 rfl) (F.c.def_ 1 rfl rfl).kp rfl
theorem r_is_word_in (F : Fac K mg base h) (g : GOk (GG w K mg base) 3 C2) : FnR PP w K mg base (L2.CX PP w) 4 (ga K "is_word_in") (spF (GG w K mg base) f_is_word_in) :=
  def_fnR (G := GG w K mg base) (C := E_is_word_in) (d := gD "is_word_in" 13) (ps := ["length", "value"]) (F.c.def_ 2 rfl rfl) ⟨rfl, rfl, rfl, by decide +kernel, rfl, by decide +kernel, by decide +kernel⟩ rfl rfl (fun _ _ _ _ _ _ us hl => match us, hl with | [_, _], _ => rfl) (g.re N_is_word_in (defScope (top 13)) false none) c_is_word_in (fun X _ l e => nomatch (show (none : Option LamE) = some l from e))
theorem g3 (F : Fac K mg base h) : GOk (GG w K mg base) 4 C3 := (g2 F).addFn (x := "is_word_in") (r_is_word_in F (g2 F)) (F.glo "is_word_in" 2 rfl) (F.c.def_ 2 rfl rfl).kp rfl
theorem r_are_words_in (F : Fac K mg base h) (g : GOk (GG w K mg base) 4 C3) : FnR PP w K mg base (L2.CX PP w) 5 (ga K "are_words_in") (spF (GG w K mg base) f_are_words_in) :=
  def_fnR (G := GG w K mg base) (C := E_are_words_in) (d := gD "are_words_in" 14) (ps := ["length", "value"]) (F.c.def_ 3 rfl rfl) ⟨rfl, rfl, rfl, by decide +kernel, rfl, by decide +kernel, by decide +kernel⟩ rfl rfl (fun _ _ _ _ _ _ us hl => match us, hl with | [_, _], _ => rfl) (g.re N_are_words_in (defScope (top 14)) false none) c_are_words_in (fun X _ l e => nomatch (show (none : Option LamE) = some l from e))
theorem g4 (F : Fac K mg base h) : GOk (GG w K mg base) 5 C4 := (g3 F).addFn (x := "are_words_in") (r_are_words_in F (g3 F)) (F.glo "are_words_in" 3 rfl) (F.c.def_ 3 rfl rfl).kp rfl
theorem r_weight_in (F : Fac K mg base h) (g : GOk (GG w K mg base) 5 C4) : FnR PP w K mg base (L2.CX PP w) 6 (ga K "weight_in") (spF (GG w K mg base) f_weight_in) :=
  def_fnR (G := GG w K mg base) (C := E_weight_in) (d := gD "weight_in" 15) (ps := ["word"]) (F.c.def_ 4 rfl rfl) ⟨rfl, rfl, rfl, by decide +kernel, rfl, by decide +kernel, by decide +kernel⟩ rfl rfl (fun _ _ _ _ _ _ us hl => match us, hl with | [_], _ => rfl) (g.re N_weight_in (defScope (top 15)) false none) c_weight_in (fun X _ l e => nomatch (show (none : Option LamE) = some l from e))
theorem g5 (F : Fac K mg base h) : GOk (GG w K mg base) 6 C5 := (g4 F).addFn (x := "weight_in") (r_weight_in F (g4 F)) (F.glo "weight_in" 4 rfl) (F.c.def_ 4 rfl rfl).kp rfl
theorem r_product_in (F : Fac K mg base h) (g : GOk (GG w K mg base) 6 C5) : FnR PP w K mg base (L2.CX PP w) 7 (ga K "product_in") (spF (GG w K mg base) f_product_in) :=
  def_fnR (G := GG w K mg base) (C := E_product_in) (d := gD "product_in" 16) (ps := ["one", "other"]) (F.c.def_ 5 rfl rfl) ⟨rfl, rfl, rfl, by decide +kernel, rfl, by decide +kernel, by decide +kernel⟩ rfl rfl (fun _ _ _ _ _ _ us hl => match us, hl with | [_, _], _ => rfl) (g.re N_product_in (defScope (top 16)) false none) c_product_in (fun X _ l e => nomatch (show (none : Option LamE) = some l from e))
theorem g6 (F : Fac K mg base h) : GOk (GG w K mg base) 7 C6 := (g5 F).addFn (x := "product_in") (r_product_in F (g5 F)) (F.glo "product_in" 5 rfl) (F.c.def_ 5 rfl rfl).kp rfl
theorem r_head_of (F : Fac K mg base h) (g : GOk (GG w K mg base) 7 C6) : FnR PP w K mg base (L2.CX PP w) 8 (ga K "head_of") (spF (GG w K mg base) f_head_of) :=
  def_fnR (G := GG w K mg base) (C := E_head_of) (d := gD "head_of" 17) (ps := ["word"]) (F.c.def_ 6 rfl rfl) ⟨rfl, rfl, rfl, by decide +kernel, rfl, by decide +kernel, by decide +kernel⟩ rfl rfl (fun _ _ _ _ _ _ us hl => match us, hl with | [_], _ => rfl) (g.re N_head_of (defScope (top 17)) false none) c_head_of (fun X _ l e => nomatch (show (none : Option LamE) = some l from e))
theorem g7 (F : Fac K mg base h) : GOk (GG w K mg base) 8 C7 := (g6 F).addFn (x := "head_of") (r_head_of F (g6 F)) (F.glo "head_of" 6 rfl) (F.c.def_ 6 rfl rfl).kp rfl
theorem r_has_bit (F : Fac K mg base h) (g : GOk (GG w K mg base) 8 C7) : FnR PP w K mg base (L2.CX PP w) 9 (ga K "has_bit") (spF (GG w K mg base) f_has_bit) :=
  def_fnR (G := GG w K mg base) (C := E_has_bit) (d := gD "has_bit" 18) (ps := ["word", "place"]) (F.c.def_ 7 rfl rfl) ⟨rfl, rfl, rfl, by decide +kernel, rfl, by decide +kernel, by decide +kernel⟩ rfl rfl (fun _ _ _ _ _ _ us hl => match us, hl with | [_, _], _ => rfl) (g.re N_has_bit (defScope (top 18)) false none) c_has_bit (fun X _ l e => nomatch (show (none : Option LamE) = some l from e))
theorem g8 (F : Fac K mg base h) : GOk (GG w K mg base) 9 C8 := (g7 F).addFn (x := "has_bit") (r_has_bit F (g7 F)) (F.glo "has_bit" 7 rfl) (F.c.def_ 7 rfl rfl).kp rfl
theorem r_word_in (F : Fac K mg base h) (g : GOk (GG w K mg base) 9 C8) : FnR PP w K mg base (L2.CX PP w) 10 (ga K "word_in") (spF (GG w K mg base) f_word_in) :=
  def_fnR (G := GG w K mg base) (C := E_word_in) (d := gD "word_in" 19) (ps := ["places"]) (F.c.def_ 8 rfl rfl) ⟨rfl, rfl, rfl, by decide +kernel, rfl, by decide +kernel, by decide +kernel⟩ rfl rfl (fun _ _ _ _ _ _ us hl => match us, hl with | [_], _ => rfl) (g.re N_word_in (defScope (top 19)) false none) c_word_in (fun X _ l e => nomatch (show (none : Option LamE) = some l from e))
theorem g9 (F : Fac K mg base h) : GOk (GG w K mg base) 10 C9 := (g8 F).addFn (x := "word_in") (r_word_in F (g8 F)) (F.glo "word_in" 8 rfl) (F.c.def_ 8 rfl rfl).kp rfl
theorem r_remainder_in (F : Fac K mg base h) (g : GOk (GG w K mg base) 10 C9) : FnR PP w K mg base (L2.CX PP w) 11 (ga K "remainder_in") (spF (GG w K mg base) f_remainder_in) :=
  def_fnR (G := GG w K mg base) (C := E_remainder_in) (d := gD "remainder_in" 20) (ps := ["basis", "word"]) (F.c.def_ 9 rfl rfl) ⟨rfl, rfl, rfl, by decide +kernel, rfl, by decide +kernel, by decide +kernel⟩ rfl rfl (fun _ _ _ _ _ _ us hl => match us, hl with | [_, _], _ => rfl) (g.re N_remainder_in (defScope (top 20)) false none) c_remainder_in (fun X _ l e => nomatch (show (none : Option LamE) = some l from e))
theorem g10 (F : Fac K mg base h) : GOk (GG w K mg base) 11 C10 := (g9 F).addFn (x := "remainder_in") (r_remainder_in F (g9 F)) (F.glo "remainder_in" 9 rfl) (F.c.def_ 9 rfl rfl).kp rfl
theorem r_with_word (F : Fac K mg base h) (g : GOk (GG w K mg base) 11 C10) : FnR PP w K mg base (L2.CX PP w) 12 (ga K "with_word") (spF (GG w K mg base) f_with_word) :=
  def_fnR (G := GG w K mg base) (C := E_with_word) (d := gD "with_word" 21) (ps := ["basis", "word"]) (F.c.def_ 10 rfl rfl) ⟨rfl, rfl, rfl, by decide +kernel, rfl, by decide +kernel, by decide +kernel⟩ rfl rfl (fun _ _ _ _ _ _ us hl => match us, hl with | [_, _], _ => rfl) (g.re N_with_word (defScope (top 21)) false none) c_with_word (fun X _ l e => nomatch (show (none : Option LamE) = some l from e))
theorem g11 (F : Fac K mg base h) : GOk (GG w K mg base) 12 C11 := (g10 F).addFn (x := "with_word") (r_with_word F (g10 F)) (F.glo "with_word" 10 rfl) (F.c.def_ 10 rfl rfl).kp rfl
theorem r_basis_in (F : Fac K mg base h) (g : GOk (GG w K mg base) 12 C11) : FnR PP w K mg base (L2.CX PP w) 13 (ga K "basis_in") (spF (GG w K mg base) f_basis_in) :=
  def_fnR (G := GG w K mg base) (C := E_basis_in) (d := gD "basis_in" 22) (ps := ["words"]) (F.c.def_ 11 rfl rfl) ⟨rfl, rfl, rfl, by decide +kernel, rfl, by decide +kernel, by decide +kernel⟩ rfl rfl (fun _ _ _ _ _ _ us hl => match us, hl with | [_], _ => rfl) (g.re N_basis_in (defScope (top 22)) false none) c_basis_in (fun X _ l e => nomatch (show (none : Option LamE) = some l from e))
theorem g12 (F : Fac K mg base h) : GOk (GG w K mg base) 13 C12 := (g11 F).addFn (x := "basis_in") (r_basis_in F (g11 F)) (F.glo "basis_in" 11 rfl) (F.c.def_ 11 rfl rfl).kp rfl
theorem r_heads_in (F : Fac K mg base h) (g : GOk (GG w K mg base) 13 C12) : FnR PP w K mg base (L2.CX PP w) 14 (ga K "heads_in") (spF (GG w K mg base) f_heads_in) :=
  def_fnR (G := GG w K mg base) (C := E_heads_in) (d := gD "heads_in" 23) (ps := ["basis"]) (F.c.def_ 12 rfl rfl) ⟨rfl, rfl, rfl, by decide +kernel, rfl, by decide +kernel, by decide +kernel⟩ rfl rfl (fun _ _ _ _ _ _ us hl => match us, hl with | [_], _ => rfl) (g.re N_heads_in (defScope (top 23)) false none) c_heads_in (fun X _ l e => nomatch (show (none : Option LamE) = some l from e))
theorem g13 (F : Fac K mg base h) : GOk (GG w K mg base) 14 C13 := (g12 F).addFn (x := "heads_in") (r_heads_in F (g12 F)) (F.glo "heads_in" 12 rfl) (F.c.def_ 12 rfl rfl).kp rfl
theorem r_free_in (F : Fac K mg base h) (g : GOk (GG w K mg base) 14 C13) : FnR PP w K mg base (L2.CX PP w) 15 (ga K "free_in") (spF (GG w K mg base) f_free_in) :=
  def_fnR (G := GG w K mg base) (C := E_free_in) (d := gD "free_in" 24) (ps := ["length", "basis"]) (F.c.def_ 13 rfl rfl) ⟨rfl, rfl, rfl, by decide +kernel, rfl, by decide +kernel, by decide +kernel⟩ rfl rfl (fun _ _ _ _ _ _ us hl => match us, hl with | [_, _], _ => rfl) (g.re N_free_in (defScope (top 24)) false none) c_free_in (fun X _ l e => nomatch (show (none : Option LamE) = some l from e))
theorem g14 (F : Fac K mg base h) : GOk (GG w K mg base) 15 C14 := (g13 F).addFn (x := "free_in") (r_free_in F (g13 F)) (F.glo "free_in" 13 rfl) (F.c.def_ 13 rfl rfl).kp rfl
theorem r_span_in (F : Fac K mg base h) (g : GOk (GG w K mg base) 15 C14) : FnR PP w K mg base (L2.CX PP w) 16 (ga K "span_in") (spF (GG w K mg base) f_span_in) :=
  def_fnR (G := GG w K mg base) (C := E_span_in) (d := gD "span_in" 25) (ps := ["basis"]) (F.c.def_ 14 rfl rfl) ⟨rfl, rfl, rfl, by decide +kernel, rfl, by decide +kernel, by decide +kernel⟩ rfl rfl (fun _ _ _ _ _ _ us hl => match us, hl with | [_], _ => rfl) (g.re N_span_in (defScope (top 25)) false none) c_span_in (fun X _ l e => nomatch (show (none : Option LamE) = some l from e))
theorem g15 (F : Fac K mg base h) : GOk (GG w K mg base) 16 C15 := (g14 F).addFn (x := "span_in") (r_span_in F (g14 F)) (F.glo "span_in" 14 rfl) (F.c.def_ 14 rfl rfl).kp rfl
theorem r_checks_in (F : Fac K mg base h) (g : GOk (GG w K mg base) 16 C15) : FnR PP w K mg base (L2.CX PP w) 17 (ga K "checks_in") (spF (GG w K mg base) f_checks_in) :=
  def_fnR (G := GG w K mg base) (C := E_checks_in) (d := gD "checks_in" 26) (ps := ["length", "basis"]) (F.c.def_ 15 rfl rfl) ⟨rfl, rfl, rfl, by decide +kernel, rfl, by decide +kernel, by decide +kernel⟩ rfl rfl (fun _ _ _ _ _ _ us hl => match us, hl with | [_, _], _ => rfl) (g.re N_checks_in (defScope (top 26)) false none) c_checks_in (fun X _ l e => nomatch (show (none : Option LamE) = some l from e))
theorem g16 (F : Fac K mg base h) : GOk (GG w K mg base) 17 C16 := (g15 F).addFn (x := "checks_in") (r_checks_in F (g15 F)) (F.glo "checks_in" 15 rfl) (F.c.def_ 15 rfl rfl).kp rfl
theorem r_require_length (F : Fac K mg base h) (g : GOk (GG w K mg base) 17 C16) : FnR PP w K mg base (L2.CX PP w) 18 (ga K "require_length") (spF (GG w K mg base) f_require_length) :=
  def_fnR (G := GG w K mg base) (C := E_require_length) (d := gD "require_length" 27) (ps := ["value"]) (F.c.def_ 16 rfl rfl) ⟨rfl, rfl, rfl, by decide +kernel, rfl, by decide +kernel, by decide +kernel⟩ rfl rfl (fun _ _ _ _ _ _ us hl => match us, hl with | [_], _ => rfl) (g.re N_require_length (defScope (top 27)) false none) c_require_length (fun X _ l e => nomatch (show (none : Option LamE) = some l from e))
theorem g17 (F : Fac K mg base h) : GOk (GG w K mg base) 18 C17 := (g16 F).addFn (x := "require_length") (r_require_length F (g16 F)) (F.glo "require_length" 16 rfl) (F.c.def_ 16 rfl rfl).kp rfl
theorem r_require_word (F : Fac K mg base h) (g : GOk (GG w K mg base) 18 C17) : FnR PP w K mg base (L2.CX PP w) 19 (ga K "require_word") (spF (GG w K mg base) f_require_word) :=
  def_fnR (G := GG w K mg base) (C := E_require_word) (d := gD "require_word" 28) (ps := ["length", "value"]) (F.c.def_ 17 rfl rfl) ⟨rfl, rfl, rfl, by decide +kernel, rfl, by decide +kernel, by decide +kernel⟩ rfl rfl (fun _ _ _ _ _ _ us hl => match us, hl with | [_, _], _ => rfl) (g.re N_require_word (defScope (top 28)) false none) c_require_word (fun X _ l e => nomatch (show (none : Option LamE) = some l from e))
theorem g18 (F : Fac K mg base h) : GOk (GG w K mg base) 19 C18 := (g17 F).addFn (x := "require_word") (r_require_word F (g17 F)) (F.glo "require_word" 17 rfl) (F.c.def_ 17 rfl rfl).kp rfl
theorem r_require_words (F : Fac K mg base h) (g : GOk (GG w K mg base) 19 C18) : FnR PP w K mg base (L2.CX PP w) 20 (ga K "require_words") (spF (GG w K mg base) f_require_words) :=
  def_fnR (G := GG w K mg base) (C := E_require_words) (d := gD "require_words" 29) (ps := ["length", "value"]) (F.c.def_ 18 rfl rfl) ⟨rfl, rfl, rfl, by decide +kernel, rfl, by decide +kernel, by decide +kernel⟩ rfl rfl (fun _ _ _ _ _ _ us hl => match us, hl with | [_, _], _ => rfl) (g.re N_require_words (defScope (top 29)) false none) c_require_words (fun X _ l e => nomatch (show (none : Option LamE) = some l from e))
theorem g19 (F : Fac K mg base h) : GOk (GG w K mg base) 20 C19 := (g18 F).addFn (x := "require_words") (r_require_words F (g18 F)) (F.glo "require_words" 18 rfl) (F.c.def_ 18 rfl rfl).kp rfl
theorem i_Code_init : cIni E_Code_init ["own_length", "own_basis"] (defBody (inC 31 1)) = some (m_Code_init, a_Code_init) := by kernel_rfl
theorem r_Code_init (F : Fac K mg base h) (g : GOk (GG w K mg base) 20 C19) : FnR PP w K mg base (L2.CX PP w) 21 (iniA "Code" K) (spI (GG w K mg base) 6 f_Code_init.run) :=
  ini_fnR (G := GG w K mg base) (C := E_Code_init) (d := iD "Code" 31 1 false) (ps := ["self", "length", "words"]) (F.c.def_ 56 rfl rfl) ⟨rfl, rfl, rfl, by decide +kernel, rfl, by decide +kernel, by decide +kernel⟩ rfl rfl rfl rfl (fun _ _ _ _ _ _ us hl => match us, hl with | [_, _, _], _ => rfl) (g.re N_Code_init (defScope (inC 31 1)) false none) i_Code_init (fun A hA => by cases hA; exact (iniF_cons (slot_ok (F.ex 95 rfl)) (iniF_cons (slot_ok (F.ex 94 rfl)) (iniF_nil (clf_ok (F.ex 89 rfl)).sc)))) (by decide) (by decide)
theorem g20 (F : Fac K mg base h) : GOk (GG w K mg base) 22 C20 := (g19 F).addMk (x := "Code") (A := ga K "Code") (r_Code_init F (g19 F)) rfl ini_only rfl (F.glo "Code" 62 rfl) (mkr_ok (F.ex 93 rfl))
theorem r_Code_length (F : Fac K mg base h) (g : GOk (GG w K mg base) 22 C20) : FnR PP w K mg base (L2.CX PP w) 23 (geta "Code" "length" K) (spF (GG w K mg base) f_Code_length) :=
  def_fnR (G := GG w K mg base) (C := E_Code_length) (d := pD "Code" "length" 31 2) (ps := ["self"]) (F.c.def_ 57 rfl rfl) ⟨rfl, rfl, rfl, by decide +kernel, rfl, by decide +kernel, by decide +kernel⟩ rfl rfl (fun _ _ _ _ _ _ us hl => match us, hl with | [_], _ => rfl) (g.re N_Code_length (defScope (inC 31 2)) false none) c_Code_length (fun X _ l e => nomatch (show (none : Option LamE) = some l from e))
theorem g21 (F : Fac K mg base h) : GOk (GG w K mg base) 24 C21 := (g20 F).addProp (x := "length") (A := ga K "Code") (r_Code_length F (g20 F)) rfl rfl (clf_ok (F.ex 89 rfl)).sc (prop_ok (F.ex 90 rfl))
theorem r_Code_basis (F : Fac K mg base h) (g : GOk (GG w K mg base) 24 C21) : FnR PP w K mg base (L2.CX PP w) 25 (geta "Code" "basis" K) (spF (GG w K mg base) f_Code_basis) :=
  def_fnR (G := GG w K mg base) (C := E_Code_basis) (d := pD "Code" "basis" 31 3) (ps := ["self"]) (F.c.def_ 58 rfl rfl) ⟨rfl, rfl, rfl, by decide +kernel, rfl, by decide +kernel, by decide +kernel⟩ rfl rfl (fun _ _ _ _ _ _ us hl => match us, hl with | [_], _ => rfl) (g.re N_Code_basis (defScope (inC 31 3)) false none) c_Code_basis (fun X _ l e => nomatch (show (none : Option LamE) = some l from e))
theorem g22 (F : Fac K mg base h) : GOk (GG w K mg base) 26 C22 := (g21 F).addProp (x := "basis") (A := ga K "Code") (r_Code_basis F (g21 F)) rfl rfl (clf_ok (F.ex 89 rfl)).sc (prop_ok (F.ex 91 rfl))
theorem r_Code_dimension (F : Fac K mg base h) (g : GOk (GG w K mg base) 26 C22) : FnR PP w K mg base (L2.CX PP w) 27 (geta "Code" "dimension" K) (spF (GG w K mg base) f_Code_dimension) :=
  def_fnR (G := GG w K mg base) (C := E_Code_dimension) (d := pD "Code" "dimension" 31 4) (ps := ["self"]) (F.c.def_ 59 rfl rfl) ⟨rfl, rfl, rfl, by decide +kernel, rfl, by decide +kernel, by decide +kernel⟩ rfl rfl (fun _ _ _ _ _ _ us hl => match us, hl with | [_], _ => rfl) (g.re N_Code_dimension (defScope (inC 31 4)) false none) c_Code_dimension (fun X _ l e => nomatch (show (none : Option LamE) = some l from e))
theorem g23 (F : Fac K mg base h) : GOk (GG w K mg base) 28 C23 := (g22 F).addProp (x := "dimension") (A := ga K "Code") (r_Code_dimension F (g22 F)) rfl rfl (clf_ok (F.ex 89 rfl)).sc (prop_ok (F.ex 92 rfl))
theorem r_is_own_in (F : Fac K mg base h) (g : GOk (GG w K mg base) 28 C23) : FnR PP w K mg base (L2.CX PP w) 29 (ga K "is_own_in") (spF (GG w K mg base) f_is_own_in) :=
  def_fnR (G := GG w K mg base) (C := E_is_own_in) (d := gD "is_own_in" 32) (ps := ["length", "basis"]) (F.c.def_ 19 rfl rfl) ⟨rfl, rfl, rfl, by decide +kernel, rfl, by decide +kernel, by decide +kernel⟩ rfl rfl (fun _ _ _ _ _ _ us hl => match us, hl with | [_, _], _ => rfl) (g.re N_is_own_in (defScope (top 32)) false none) c_is_own_in (fun X _ l e => nomatch (show (none : Option LamE) = some l from e))
theorem g24 (F : Fac K mg base h) : GOk (GG w K mg base) 29 C24 := (g23 F).addFn (x := "is_own_in") (r_is_own_in F (g23 F)) (F.glo "is_own_in" 19 rfl) (F.c.def_ 19 rfl rfl).kp rfl
theorem r_is_own_code (F : Fac K mg base h) (g : GOk (GG w K mg base) 29 C24) : FnR PP w K mg base (L2.CX PP w) 30 (ga K "is_own_code") (spF (GG w K mg base) f_is_own_code) :=
  def_fnR (G := GG w K mg base) (C := E_is_own_code) (d := gD "is_own_code" 33) (ps := ["value"]) (F.c.def_ 20 rfl rfl) ⟨rfl, rfl, rfl, by decide +kernel, rfl, by decide +kernel, by decide +kernel⟩ rfl rfl (fun _ _ _ _ _ _ us hl => match us, hl with | [_], _ => rfl) (g.re N_is_own_code (defScope (top 33)) false none) c_is_own_code (fun X _ l e => nomatch (show (none : Option LamE) = some l from e))
theorem g25 (F : Fac K mg base h) : GOk (GG w K mg base) 30 C25 := (g24 F).addFn (x := "is_own_code") (r_is_own_code F (g24 F)) (F.glo "is_own_code" 20 rfl) (F.c.def_ 20 rfl rfl).kp rfl
theorem r_require_own (F : Fac K mg base h) (g : GOk (GG w K mg base) 30 C25) : FnR PP w K mg base (L2.CX PP w) 31 (ga K "require_own") (spF (GG w K mg base) f_require_own) :=
  def_fnR (G := GG w K mg base) (C := E_require_own) (d := gD "require_own" 34) (ps := ["value"]) (F.c.def_ 21 rfl rfl) ⟨rfl, rfl, rfl, by decide +kernel, rfl, by decide +kernel, by decide +kernel⟩ rfl rfl (fun _ _ _ _ _ _ us hl => match us, hl with | [_], _ => rfl) (g.re N_require_own (defScope (top 34)) false none) c_require_own (fun X _ l e => nomatch (show (none : Option LamE) = some l from e))
theorem g26 (F : Fac K mg base h) : GOk (GG w K mg base) 31 C26 := (g25 F).addFn (x := "require_own") (r_require_own F (g25 F)) (F.glo "require_own" 21 rfl) (F.c.def_ 21 rfl rfl).kp rfl
theorem r_coset_in (F : Fac K mg base h) (g : GOk (GG w K mg base) 31 C26) : FnR PP w K mg base (L2.CX PP w) 32 (ga K "coset_in") (spF (GG w K mg base) f_coset_in) :=
  def_fnR (G := GG w K mg base) (C := E_coset_in) (d := gD "coset_in" 38) (ps := ["code", "word"]) (F.c.def_ 22 rfl rfl) ⟨rfl, rfl, rfl, by decide +kernel, rfl, by decide +kernel, by decide +kernel⟩ rfl rfl (fun _ _ _ _ _ _ us hl => match us, hl with | [_, _], _ => rfl) (g.re N_coset_in (defScope (top 38)) false none) c_coset_in (fun X _ l e => nomatch (show (none : Option LamE) = some l from e))
theorem g27 (F : Fac K mg base h) : GOk (GG w K mg base) 32 C27 := (g26 F).addFn (x := "coset_in") (r_coset_in F (g26 F)) (F.glo "coset_in" 22 rfl) (F.c.def_ 22 rfl rfl).kp rfl
theorem r_products_in (F : Fac K mg base h) (g : GOk (GG w K mg base) 32 C27) : FnR PP w K mg base (L2.CX PP w) 33 (ga K "products_in") (spF (GG w K mg base) f_products_in) :=
  def_fnR (G := GG w K mg base) (C := E_products_in) (d := gD "products_in" 39) (ps := ["code", "word"]) (F.c.def_ 23 rfl rfl) ⟨rfl, rfl, rfl, by decide +kernel, rfl, by decide +kernel, by decide +kernel⟩ rfl rfl (fun _ _ _ _ _ _ us hl => match us, hl with | [_, _], _ => rfl) (g.re N_products_in (defScope (top 39)) false none) c_products_in (fun X _ l e => nomatch (show (none : Option LamE) = some l from e))
theorem g28 (F : Fac K mg base h) : GOk (GG w K mg base) 33 C28 := (g27 F).addFn (x := "products_in") (r_products_in F (g27 F)) (F.glo "products_in" 23 rfl) (F.c.def_ 23 rfl rfl).kp rfl
theorem r_lessened (F : Fac K mg base h) (g : GOk (GG w K mg base) 33 C28) : FnR PP w K mg base (L2.CX PP w) 34 (ga K "lessened") (spF (GG w K mg base) f_lessened) :=
  def_fnR (G := GG w K mg base) (C := E_lessened) (d := gD "lessened" 43) (ps := ["held", "column", "word"]) (F.c.def_ 27 rfl rfl) ⟨rfl, rfl, rfl, by decide +kernel, rfl, by decide +kernel, by decide +kernel⟩ rfl rfl (fun _ _ _ _ _ _ us hl => match us, hl with | [_, _, _], _ => rfl) (g.re N_lessened (defScope (top 43)) false none) c_lessened (fun X _ l e => nomatch (show (none : Option LamE) = some l from e))
theorem g29 (F : Fac K mg base h) : GOk (GG w K mg base) 34 C29 := (g28 F).addFn (x := "lessened") (r_lessened F (g28 F)) (F.glo "lessened" 27 rfl) (F.c.def_ 27 rfl rfl).kp rfl
theorem r_apart_in (F : Fac K mg base h) (g : GOk (GG w K mg base) 34 C29) : FnR PP w K mg base (L2.CX PP w) 35 (ga K "apart_in") (spF (GG w K mg base) f_apart_in) :=
  def_fnR (G := GG w K mg base) (C := E_apart_in) (d := gD "apart_in" 42) (ps := ["places", "columns", "wanted"]) (F.c.def_ 26 rfl rfl) ⟨rfl, rfl, rfl, by decide +kernel, rfl, by decide +kernel, by decide +kernel⟩ rfl rfl (fun _ _ _ _ _ _ us hl => match us, hl with | [_, _, _], _ => rfl) (g.re N_apart_in (defScope (top 42)) false none) c_apart_in (fun X _ l e => nomatch (show (none : Option LamE) = some l from e))
theorem g30 (F : Fac K mg base h) : GOk (GG w K mg base) 35 C30 := (g29 F).addFn (x := "apart_in") (r_apart_in F (g29 F)) (F.glo "apart_in" 26 rfl) (F.c.def_ 26 rfl rfl).kp rfl
theorem r_columns_of (F : Fac K mg base h) (g : GOk (GG w K mg base) 35 C30) : FnR PP w K mg base (L2.CX PP w) 36 (ga K "columns_of") (spF (GG w K mg base) f_columns_of) :=
  def_fnR (G := GG w K mg base) (C := E_columns_of) (d := gD "columns_of" 41) (ps := ["code"]) (F.c.def_ 25 rfl rfl) ⟨rfl, rfl, rfl, by decide +kernel, rfl, by decide +kernel, by decide +kernel⟩ rfl rfl (fun _ _ _ _ _ _ us hl => match us, hl with | [_], _ => rfl) (g.re N_columns_of (defScope (top 41)) false none) c_columns_of (fun X _ l e => nomatch (show (none : Option LamE) = some l from e))
theorem g31 (F : Fac K mg base h) : GOk (GG w K mg base) 36 C31 := (g30 F).addFn (x := "columns_of") (r_columns_of F (g30 F)) (F.glo "columns_of" 25 rfl) (F.c.def_ 25 rfl rfl).kp rfl
theorem r_rest_with (F : Fac K mg base h) (g : GOk (GG w K mg base) 36 C31) : FnR PP w K mg base (L2.CX PP w) 37 (ga K "rest_with") (spF (GG w K mg base) f_rest_with) :=
  def_fnR (G := GG w K mg base) (C := E_rest_with) (d := gD "rest_with" 40) (ps := ["code", "bits"]) (F.c.def_ 24 rfl rfl) ⟨rfl, rfl, rfl, by decide +kernel, rfl, by decide +kernel, by decide +kernel⟩ rfl rfl (fun _ _ _ _ _ _ us hl => match us, hl with | [_, _], _ => rfl) (g.re N_rest_with (defScope (top 40)) false none) c_rest_with (fun X _ l e => nomatch (show (none : Option LamE) = some l from e))
theorem g32 (F : Fac K mg base h) : GOk (GG w K mg base) 37 C32 := (g31 F).addFn (x := "rest_with") (r_rest_with F (g31 F)) (F.glo "rest_with" 24 rfl) (F.c.def_ 24 rfl rfl).kp rfl
theorem r_leader_in (F : Fac K mg base h) (g : GOk (GG w K mg base) 37 C32) : FnR PP w K mg base (L2.CX PP w) 38 (ga K "leader_in") (spF (GG w K mg base) f_leader_in) :=
  def_fnR (G := GG w K mg base) (C := E_leader_in) (d := gD "leader_in" 44) (ps := ["code", "word"]) (F.c.def_ 28 rfl rfl) ⟨rfl, rfl, rfl, by decide +kernel, rfl, by decide +kernel, by decide +kernel⟩ rfl rfl (fun _ _ _ _ _ _ us hl => match us, hl with | [_, _], _ => rfl) (g.re N_leader_in (defScope (top 44)) false none) c_leader_in (fun X _ l e => nomatch (show (none : Option LamE) = some l from e))
theorem g33 (F : Fac K mg base h) : GOk (GG w K mg base) 38 C33 := (g32 F).addFn (x := "leader_in") (r_leader_in F (g32 F)) (F.glo "leader_in" 28 rfl) (F.c.def_ 28 rfl rfl).kp rfl
theorem r_rests_in (F : Fac K mg base h) (g : GOk (GG w K mg base) 38 C33) : FnR PP w K mg base (L2.CX PP w) 39 (ga K "rests_in") (spF (GG w K mg base) f_rests_in) :=
  def_fnR (G := GG w K mg base) (C := E_rests_in) (d := gD "rests_in" 45) (ps := ["code"]) (F.c.def_ 29 rfl rfl) ⟨rfl, rfl, rfl, by decide +kernel, rfl, by decide +kernel, by decide +kernel⟩ rfl rfl (fun _ _ _ _ _ _ us hl => match us, hl with | [_], _ => rfl) (g.re N_rests_in (defScope (top 45)) false none) c_rests_in (fun X _ l e => nomatch (show (none : Option LamE) = some l from e))
theorem g34 (F : Fac K mg base h) : GOk (GG w K mg base) 39 C34 := (g33 F).addFn (x := "rests_in") (r_rests_in F (g33 F)) (F.glo "rests_in" 29 rfl) (F.c.def_ 29 rfl rfl).kp rfl
theorem r_leaders_in (F : Fac K mg base h) (g : GOk (GG w K mg base) 39 C34) : FnR PP w K mg base (L2.CX PP w) 40 (ga K "leaders_in") (spF (GG w K mg base) f_leaders_in) :=
  def_fnR (G := GG w K mg base) (C := E_leaders_in) (d := gD "leaders_in" 46) (ps := ["code"]) (F.c.def_ 30 rfl rfl) ⟨rfl, rfl, rfl, by decide +kernel, rfl, by decide +kernel, by decide +kernel⟩ rfl rfl (fun _ _ _ _ _ _ us hl => match us, hl with | [_], _ => rfl) (g.re N_leaders_in (defScope (top 46)) false none) c_leaders_in (fun X _ l e => nomatch (show (none : Option LamE) = some l from e))
theorem g35 (F : Fac K mg base h) : GOk (GG w K mg base) 40 C35 := (g34 F).addFn (x := "leaders_in") (r_leaders_in F (g34 F)) (F.glo "leaders_in" 30 rfl) (F.c.def_ 30 rfl rfl).kp rfl
theorem r_counted (F : Fac K mg base h) (g : GOk (GG w K mg base) 40 C35) : FnR PP w K mg base (L2.CX PP w) 41 (ga K "counted") (spF (GG w K mg base) f_counted) :=
  def_fnR (G := GG w K mg base) (C := E_counted) (d := gD "counted" 47) (ps := ["length", "words"]) (F.c.def_ 31 rfl rfl) ⟨rfl, rfl, rfl, by decide +kernel, rfl, by decide +kernel, by decide +kernel⟩ rfl rfl (fun _ _ _ _ _ _ us hl => match us, hl with | [_, _], _ => rfl) (g.re N_counted (defScope (top 47)) false none) c_counted (fun X _ l e => nomatch (show (none : Option LamE) = some l from e))
theorem g36 (F : Fac K mg base h) : GOk (GG w K mg base) 41 C36 := (g35 F).addFn (x := "counted") (r_counted F (g35 F)) (F.glo "counted" 31 rfl) (F.c.def_ 31 rfl rfl).kp rfl
theorem r_even_and_odd (F : Fac K mg base h) (g : GOk (GG w K mg base) 41 C36) : FnR PP w K mg base (L2.CX PP w) 42 (ga K "even_and_odd") (spF (GG w K mg base) f_even_and_odd) :=
  def_fnR (G := GG w K mg base) (C := E_even_and_odd) (d := gD "even_and_odd" 48) (ps := ["code", "word"]) (F.c.def_ 32 rfl rfl) ⟨rfl, rfl, rfl, by decide +kernel, rfl, by decide +kernel, by decide +kernel⟩ rfl rfl (fun _ _ _ _ _ _ us hl => match us, hl with | [_, _], _ => rfl) (g.re N_even_and_odd (defScope (top 48)) false none) c_even_and_odd (fun X _ l e => nomatch (show (none : Option LamE) = some l from e))
theorem g37 (F : Fac K mg base h) : GOk (GG w K mg base) 42 C37 := (g36 F).addFn (x := "even_and_odd") (r_even_and_odd F (g36 F)) (F.glo "even_and_odd" 32 rfl) (F.c.def_ 32 rfl rfl).kp rfl
theorem r_parent_counts_in (F : Fac K mg base h) (g : GOk (GG w K mg base) 42 C37) : FnR PP w K mg base (L2.CX PP w) 43 (ga K "parent_counts_in") (spF (GG w K mg base) f_parent_counts_in) :=
  def_fnR (G := GG w K mg base) (C := E_parent_counts_in) (d := gD "parent_counts_in" 49) (ps := ["code", "word"]) (F.c.def_ 33 rfl rfl) ⟨rfl, rfl, rfl, by decide +kernel, rfl, by decide +kernel, by decide +kernel⟩ rfl rfl (fun _ _ _ _ _ _ us hl => match us, hl with | [_, _], _ => rfl) (g.re N_parent_counts_in (defScope (top 49)) false none) c_parent_counts_in (fun X _ l e => nomatch (show (none : Option LamE) = some l from e))
theorem g38 (F : Fac K mg base h) : GOk (GG w K mg base) 43 C38 := (g37 F).addFn (x := "parent_counts_in") (r_parent_counts_in F (g37 F)) (F.glo "parent_counts_in" 33 rfl) (F.c.def_ 33 rfl rfl).kp rfl
theorem r_nearest_in (F : Fac K mg base h) (g : GOk (GG w K mg base) 43 C38) : FnR PP w K mg base (L2.CX PP w) 44 (ga K "nearest_in") (spF (GG w K mg base) f_nearest_in) :=
  def_fnR (G := GG w K mg base) (C := E_nearest_in) (d := gD "nearest_in" 50) (ps := ["code", "word"]) (F.c.def_ 34 rfl rfl) ⟨rfl, rfl, rfl, by decide +kernel, rfl, by decide +kernel, by decide +kernel⟩ rfl rfl (fun _ _ _ _ _ _ us hl => match us, hl with | [_, _], _ => rfl) (g.re N_nearest_in (defScope (top 50)) false none) c_nearest_in (fun X _ l e => nomatch (show (none : Option LamE) = some l from e))
theorem g39 (F : Fac K mg base h) : GOk (GG w K mg base) 44 C39 := (g38 F).addFn (x := "nearest_in") (r_nearest_in F (g38 F)) (F.glo "nearest_in" 34 rfl) (F.c.def_ 34 rfl rfl).kp rfl
theorem r_require_short (F : Fac K mg base h) (g : GOk (GG w K mg base) 44 C39) : FnR PP w K mg base (L2.CX PP w) 45 (ga K "require_short") (spF (GG w K mg base) f_require_short) :=
  def_fnR (G := GG w K mg base) (C := E_require_short) (d := gD "require_short" 51) (ps := ["code"]) (F.c.def_ 35 rfl rfl) ⟨rfl, rfl, rfl, by decide +kernel, rfl, by decide +kernel, by decide +kernel⟩ rfl rfl (fun _ _ _ _ _ _ us hl => match us, hl with | [_], _ => rfl) (g.re N_require_short (defScope (top 51)) false none) c_require_short (fun X _ l e => nomatch (show (none : Option LamE) = some l from e))
theorem g40 (F : Fac K mg base h) : GOk (GG w K mg base) 45 C40 := (g39 F).addFn (x := "require_short") (r_require_short F (g39 F)) (F.glo "require_short" 35 rfl) (F.c.def_ 35 rfl rfl).kp rfl
theorem r_require_both (F : Fac K mg base h) (g : GOk (GG w K mg base) 45 C40) : FnR PP w K mg base (L2.CX PP w) 46 (ga K "require_both") (spF (GG w K mg base) f_require_both) :=
  def_fnR (G := GG w K mg base) (C := E_require_both) (d := gD "require_both" 52) (ps := ["code", "word"]) (F.c.def_ 36 rfl rfl) ⟨rfl, rfl, rfl, by decide +kernel, rfl, by decide +kernel, by decide +kernel⟩ rfl rfl (fun _ _ _ _ _ _ us hl => match us, hl with | [_, _], _ => rfl) (g.re N_require_both (defScope (top 52)) false none) c_require_both (fun X _ l e => nomatch (show (none : Option LamE) = some l from e))
theorem g41 (F : Fac K mg base h) : GOk (GG w K mg base) 46 C41 := (g40 F).addFn (x := "require_both") (r_require_both F (g40 F)) (F.glo "require_both" 36 rfl) (F.c.def_ 36 rfl rfl).kp rfl
theorem r_coset_of (F : Fac K mg base h) (g : GOk (GG w K mg base) 46 C41) : FnR PP w K mg base (L2.CX PP w) 47 (ga K "coset_of") (spF (GG w K mg base) f_coset_of) :=
  def_fnR (G := GG w K mg base) (C := E_coset_of) (d := gD "coset_of" 53) (ps := ["code", "word"]) (F.c.def_ 37 rfl rfl) ⟨rfl, rfl, rfl, by decide +kernel, rfl, by decide +kernel, by decide +kernel⟩ rfl rfl (fun _ _ _ _ _ _ us hl => match us, hl with | [_, _], _ => rfl) (g.re N_coset_of (defScope (top 53)) false none) c_coset_of (fun X _ l e => nomatch (show (none : Option LamE) = some l from e))
theorem g42 (F : Fac K mg base h) : GOk (GG w K mg base) 47 C42 := (g41 F).addFn (x := "coset_of") (r_coset_of F (g41 F)) (F.glo "coset_of" 37 rfl) (F.c.def_ 37 rfl rfl).kp rfl
theorem r_products_of (F : Fac K mg base h) (g : GOk (GG w K mg base) 47 C42) : FnR PP w K mg base (L2.CX PP w) 48 (ga K "products_of") (spF (GG w K mg base) f_products_of) :=
  def_fnR (G := GG w K mg base) (C := E_products_of) (d := gD "products_of" 54) (ps := ["code", "word"]) (F.c.def_ 38 rfl rfl) ⟨rfl, rfl, rfl, by decide +kernel, rfl, by decide +kernel, by decide +kernel⟩ rfl rfl (fun _ _ _ _ _ _ us hl => match us, hl with | [_, _], _ => rfl) (g.re N_products_of (defScope (top 54)) false none) c_products_of (fun X _ l e => nomatch (show (none : Option LamE) = some l from e))
theorem g43 (F : Fac K mg base h) : GOk (GG w K mg base) 48 C43 := (g42 F).addFn (x := "products_of") (r_products_of F (g42 F)) (F.glo "products_of" 38 rfl) (F.c.def_ 38 rfl rfl).kp rfl
theorem r_word_with (F : Fac K mg base h) (g : GOk (GG w K mg base) 48 C43) : FnR PP w K mg base (L2.CX PP w) 49 (ga K "word_with") (spF (GG w K mg base) f_word_with) :=
  def_fnR (G := GG w K mg base) (C := E_word_with) (d := gD "word_with" 55) (ps := ["code", "bits"]) (F.c.def_ 39 rfl rfl) ⟨rfl, rfl, rfl, by decide +kernel, rfl, by decide +kernel, by decide +kernel⟩ rfl rfl (fun _ _ _ _ _ _ us hl => match us, hl with | [_, _], _ => rfl) (g.re N_word_with (defScope (top 55)) false none) c_word_with (fun X _ l e => nomatch (show (none : Option LamE) = some l from e))
theorem g44 (F : Fac K mg base h) : GOk (GG w K mg base) 49 C44 := (g43 F).addFn (x := "word_with") (r_word_with F (g43 F)) (F.glo "word_with" 39 rfl) (F.c.def_ 39 rfl rfl).kp rfl
theorem r_leader (F : Fac K mg base h) (g : GOk (GG w K mg base) 49 C44) : FnR PP w K mg base (L2.CX PP w) 50 (ga K "leader") (spF (GG w K mg base) f_leader) :=
  def_fnR (G := GG w K mg base) (C := E_leader) (d := gD "leader" 56) (ps := ["code", "word"]) (F.c.def_ 40 rfl rfl) ⟨rfl, rfl, rfl, by decide +kernel, rfl, by decide +kernel, by decide +kernel⟩ rfl rfl (fun _ _ _ _ _ _ us hl => match us, hl with | [_, _], _ => rfl) (g.re N_leader (defScope (top 56)) false none) c_leader (fun X _ l e => nomatch (show (none : Option LamE) = some l from e))
theorem g45 (F : Fac K mg base h) : GOk (GG w K mg base) 50 C45 := (g44 F).addFn (x := "leader") (r_leader F (g44 F)) (F.glo "leader" 40 rfl) (F.c.def_ 40 rfl rfl).kp rfl
theorem r_is_leader (F : Fac K mg base h) (g : GOk (GG w K mg base) 50 C45) : FnR PP w K mg base (L2.CX PP w) 51 (ga K "is_leader") (spF (GG w K mg base) f_is_leader) :=
  def_fnR (G := GG w K mg base) (C := E_is_leader) (d := gD "is_leader" 57) (ps := ["code", "value"]) (F.c.def_ 41 rfl rfl) ⟨rfl, rfl, rfl, by decide +kernel, rfl, by decide +kernel, by decide +kernel⟩ rfl rfl (fun _ _ _ _ _ _ us hl => match us, hl with | [_, _], _ => rfl) (g.re N_is_leader (defScope (top 57)) false none) c_is_leader (fun X _ l e => nomatch (show (none : Option LamE) = some l from e))
theorem g46 (F : Fac K mg base h) : GOk (GG w K mg base) 51 C46 := (g45 F).addFn (x := "is_leader") (r_is_leader F (g45 F)) (F.glo "is_leader" 41 rfl) (F.c.def_ 41 rfl rfl).kp rfl
theorem r_nearest (F : Fac K mg base h) (g : GOk (GG w K mg base) 51 C46) : FnR PP w K mg base (L2.CX PP w) 52 (ga K "nearest") (spF (GG w K mg base) f_nearest) :=
  def_fnR (G := GG w K mg base) (C := E_nearest) (d := gD "nearest" 58) (ps := ["code", "word"]) (F.c.def_ 42 rfl rfl) ⟨rfl, rfl, rfl, by decide +kernel, rfl, by decide +kernel, by decide +kernel⟩ rfl rfl (fun _ _ _ _ _ _ us hl => match us, hl with | [_, _], _ => rfl) (g.re N_nearest (defScope (top 58)) false none) c_nearest (fun X _ l e => nomatch (show (none : Option LamE) = some l from e))
theorem g47 (F : Fac K mg base h) : GOk (GG w K mg base) 52 C47 := (g46 F).addFn (x := "nearest") (r_nearest F (g46 F)) (F.glo "nearest" 42 rfl) (F.c.def_ 42 rfl rfl).kp rfl
theorem r_leaders (F : Fac K mg base h) (g : GOk (GG w K mg base) 52 C47) : FnR PP w K mg base (L2.CX PP w) 53 (ga K "leaders") (spF (GG w K mg base) f_leaders) :=
  def_fnR (G := GG w K mg base) (C := E_leaders) (d := gD "leaders" 59) (ps := ["code"]) (F.c.def_ 43 rfl rfl) ⟨rfl, rfl, rfl, by decide +kernel, rfl, by decide +kernel, by decide +kernel⟩ rfl rfl (fun _ _ _ _ _ _ us hl => match us, hl with | [_], _ => rfl) (g.re N_leaders (defScope (top 59)) false none) c_leaders (fun X _ l e => nomatch (show (none : Option LamE) = some l from e))
theorem g48 (F : Fac K mg base h) : GOk (GG w K mg base) 53 C48 := (g47 F).addFn (x := "leaders") (r_leaders F (g47 F)) (F.glo "leaders" 43 rfl) (F.c.def_ 43 rfl rfl).kp rfl
theorem r_least_weights (F : Fac K mg base h) (g : GOk (GG w K mg base) 53 C48) : FnR PP w K mg base (L2.CX PP w) 54 (ga K "least_weights") (spF (GG w K mg base) f_least_weights) :=
  def_fnR (G := GG w K mg base) (C := E_least_weights) (d := gD "least_weights" 60) (ps := ["code"]) (F.c.def_ 44 rfl rfl) ⟨rfl, rfl, rfl, by decide +kernel, rfl, by decide +kernel, by decide +kernel⟩ rfl rfl (fun _ _ _ _ _ _ us hl => match us, hl with | [_], _ => rfl) (g.re N_least_weights (defScope (top 60)) false none) c_least_weights (fun X _ l e => nomatch (show (none : Option LamE) = some l from e))
theorem g49 (F : Fac K mg base h) : GOk (GG w K mg base) 54 C49 := (g48 F).addFn (x := "least_weights") (r_least_weights F (g48 F)) (F.glo "least_weights" 44 rfl) (F.c.def_ 44 rfl rfl).kp rfl
theorem r_signed_counts (F : Fac K mg base h) (g : GOk (GG w K mg base) 54 C49) : FnR PP w K mg base (L2.CX PP w) 55 (ga K "signed_counts") (spF (GG w K mg base) f_signed_counts) :=
  def_fnR (G := GG w K mg base) (C := E_signed_counts) (d := gD "signed_counts" 61) (ps := ["code", "word"]) (F.c.def_ 45 rfl rfl) ⟨rfl, rfl, rfl, by decide +kernel, rfl, by decide +kernel, by decide +kernel⟩ rfl rfl (fun _ _ _ _ _ _ us hl => match us, hl with | [_, _], _ => rfl) (g.re N_signed_counts (defScope (top 61)) false none) c_signed_counts (fun X _ l e => nomatch (show (none : Option LamE) = some l from e))
theorem g50 (F : Fac K mg base h) : GOk (GG w K mg base) 55 C50 := (g49 F).addFn (x := "signed_counts") (r_signed_counts F (g49 F)) (F.glo "signed_counts" 45 rfl) (F.c.def_ 45 rfl rfl).kp rfl
theorem r_radius (F : Fac K mg base h) (g : GOk (GG w K mg base) 55 C50) : FnR PP w K mg base (L2.CX PP w) 56 (ga K "radius") (spF (GG w K mg base) f_radius) :=
  def_fnR (G := GG w K mg base) (C := E_radius) (d := gD "radius" 62) (ps := ["code"]) (F.c.def_ 46 rfl rfl) ⟨rfl, rfl, rfl, by decide +kernel, rfl, by decide +kernel, by decide +kernel⟩ rfl rfl (fun _ _ _ _ _ _ us hl => match us, hl with | [_], _ => rfl) (g.re N_radius (defScope (top 62)) false none) c_radius (fun X _ l e => nomatch (show (none : Option LamE) = some l from e))
theorem g51 (F : Fac K mg base h) : GOk (GG w K mg base) 56 C51 := (g50 F).addFn (x := "radius") (r_radius F (g50 F)) (F.glo "radius" 46 rfl) (F.c.def_ 46 rfl rfl).kp rfl
theorem r_farthest (F : Fac K mg base h) (g : GOk (GG w K mg base) 56 C51) : FnR PP w K mg base (L2.CX PP w) 57 (ga K "farthest") (spF (GG w K mg base) f_farthest) :=
  def_fnR (G := GG w K mg base) (C := E_farthest) (d := gD "farthest" 63) (ps := ["code"]) (F.c.def_ 47 rfl rfl) ⟨rfl, rfl, rfl, by decide +kernel, rfl, by decide +kernel, by decide +kernel⟩ rfl rfl (fun _ _ _ _ _ _ us hl => match us, hl with | [_], _ => rfl) (g.re N_farthest (defScope (top 63)) false none) c_farthest (fun X _ l e => nomatch (show (none : Option LamE) = some l from e))
theorem g52 (F : Fac K mg base h) : GOk (GG w K mg base) 57 C52 := (g51 F).addFn (x := "farthest") (r_farthest F (g51 F)) (F.glo "farthest" 47 rfl) (F.c.def_ 47 rfl rfl).kp rfl
theorem r_parent_counts (F : Fac K mg base h) (g : GOk (GG w K mg base) 57 C52) : FnR PP w K mg base (L2.CX PP w) 58 (ga K "parent_counts") (spF (GG w K mg base) f_parent_counts) :=
  def_fnR (G := GG w K mg base) (C := E_parent_counts) (d := gD "parent_counts" 64) (ps := ["code", "word"]) (F.c.def_ 48 rfl rfl) ⟨rfl, rfl, rfl, by decide +kernel, rfl, by decide +kernel, by decide +kernel⟩ rfl rfl (fun _ _ _ _ _ _ us hl => match us, hl with | [_, _], _ => rfl) (g.re N_parent_counts (defScope (top 64)) false none) c_parent_counts (fun X _ l e => nomatch (show (none : Option LamE) = some l from e))
theorem g53 (F : Fac K mg base h) : GOk (GG w K mg base) 58 C53 := (g52 F).addFn (x := "parent_counts") (r_parent_counts F (g52 F)) (F.glo "parent_counts" 48 rfl) (F.c.def_ 48 rfl rfl).kp rfl
theorem r__law_pail (F : Fac K mg base h) (g : GOk (GG w K mg base) 58 C53) : FnR PP w K mg base (L2.CX PP w) 59 (ga K "_law_pail") (spF (GG w K mg base) f__law_pail) :=
  def_fnR (G := GG w K mg base) (C := E__law_pail) (d := gD "_law_pail" 66) (ps := ["script", "spot"]) (F.c.def_ 49 rfl rfl) ⟨rfl, rfl, rfl, by decide +kernel, rfl, by decide +kernel, by decide +kernel⟩ rfl rfl (fun _ _ _ _ _ _ us hl => match us, hl with | [_, _], _ => rfl) (g.re N__law_pail (defScope (top 66)) false none) c__law_pail (fun X _ l e => nomatch (show (none : Option LamE) = some l from e))
theorem g54 (F : Fac K mg base h) : GOk (GG w K mg base) 59 C54 := (g53 F).addFn (x := "_law_pail") (r__law_pail F (g53 F)) (F.glo "_law_pail" 49 rfl) (F.c.def_ 49 rfl rfl).kp rfl
theorem r__law_scooped (F : Fac K mg base h) (g : GOk (GG w K mg base) 59 C54) : FnR PP w K mg base (L2.CX PP w) 60 (ga K "_law_scooped") (spF (GG w K mg base) f__law_scooped) :=
  def_fnR (G := GG w K mg base) (C := E__law_scooped) (d := gD "_law_scooped" 67) (ps := ["pail", "total"]) (F.c.def_ 50 rfl rfl) ⟨rfl, rfl, rfl, by decide +kernel, rfl, by decide +kernel, by decide +kernel⟩ rfl rfl (fun _ _ _ _ _ _ us hl => match us, hl with | [_, _], _ => rfl) (g.re N__law_scooped (defScope (top 67)) true none) c__law_scooped (fun X _ l e => nomatch (show (none : Option LamE) = some l from e))
theorem g55 (F : Fac K mg base h) : GOk (GG w K mg base) 60 C55 := (g54 F).addFn (x := "_law_scooped") (r__law_scooped F (g54 F)) (F.glo "_law_scooped" 50 rfl) (F.c.def_ 50 rfl rfl).kp rfl
theorem r__law_any_of (F : Fac K mg base h) (g : GOk (GG w K mg base) 60 C55) : FnR PP w K mg base (L2.CX PP w) 61 (ga K "_law_any_of") (spF (GG w K mg base) f__law_any_of) :=
  def_fnR (G := GG w K mg base) (C := E__law_any_of) (d := gD "_law_any_of" 68) (ps := ["pail", "items"]) (F.c.def_ 51 rfl rfl) ⟨rfl, rfl, rfl, by decide +kernel, rfl, by decide +kernel, by decide +kernel⟩ rfl rfl (fun _ _ _ _ _ _ us hl => match us, hl with | [_, _], _ => rfl) (g.re N__law_any_of (defScope (top 68)) true none) c__law_any_of (fun X _ l e => nomatch (show (none : Option LamE) = some l from e))
theorem g56 (F : Fac K mg base h) : GOk (GG w K mg base) 61 C56 := (g55 F).addFn (x := "_law_any_of") (r__law_any_of F (g55 F)) (F.glo "_law_any_of" 51 rfl) (F.c.def_ 51 rfl rfl).kp rfl
theorem r__law_plain (F : Fac K mg base h) (g : GOk (GG w K mg base) 61 C56) : FnR PP w K mg base (L2.CX PP w) 62 (ga K "_law_plain") (spF (GG w K mg base) f__law_plain) :=
  def_fnR (G := GG w K mg base) (C := E__law_plain) (d := gD "_law_plain" 70) (ps := ["length"]) (F.c.def_ 53 rfl rfl) ⟨rfl, rfl, rfl, by decide +kernel, rfl, by decide +kernel, by decide +kernel⟩ rfl rfl (fun _ _ _ _ _ _ us hl => match us, hl with | [_], _ => rfl) (g.re N__law_plain (defScope (top 70)) false none) c__law_plain (fun X _ l e => nomatch (show (none : Option LamE) = some l from e))
theorem g57 (F : Fac K mg base h) : GOk (GG w K mg base) 62 C57 := (g56 F).addFn (x := "_law_plain") (r__law_plain F (g56 F)) (F.glo "_law_plain" 53 rfl) (F.c.def_ 53 rfl rfl).kp rfl
end
end Ev
set_option maxHeartbeats 0
/-! k83: the def that gets lambdas. -/
namespace Ev
open PySem PySem.Spec PyProof.Rows L2 He
def Nmet : List Str := ["call", "error"]
section
variable {w : World} {K : PySem.W.Frag} {mg : Str → Option Value} {base h : Heap}
def ssK (K : PySem.W.Frag) : List HdS := [⟨(.ref (ga K "InvalidCode")), (.t1 "refused"), "code", none⟩, ⟨(.ref (ga K "InvalidWord")), (.t1 "refused"), "word", none⟩, ⟨(.ref (ga K "InvalidOperation")), (.t1 "refused"), "operation", none⟩, ⟨(.ref (ga K "TooMany")), (.t1 "refused"), "many ", some (ga K "TooMany", "limit", 1)⟩]
theorem relK : HRels (GG w K mg base) lm.hs (ssK K) := (.cons ⟨rfl, rfl, _, rfl, rfl, .inl ⟨rfl, rfl⟩⟩ (.cons ⟨rfl, rfl, _, rfl, rfl, .inl ⟨rfl, rfl⟩⟩ (.cons ⟨rfl, rfl, _, rfl, rfl, .inl ⟨rfl, rfl⟩⟩ (.cons ⟨rfl, rfl, _, rfl, rfl, .inr ⟨rfl, _, rfl⟩⟩ .nil))))
theorem givesK (F : Fac K mg base h) {X : Cx} (hK : X.K = K) (hm : X.mg = mg) {g : Addr} {cdg : Value} (q : Str) : LamX.GivesTo X Nmet "_law_met" (defScope (top 69)) g cdg (defBody (top 69)) "call" q (TTmet K (ssK K) lm.fsh lm.ftxt) := by
  have e : LamX.GivesTo X Nmet "_law_met" (defScope (top 69)) g cdg (defBody (top 69)) "call" q (TTmet X.K (ssK K) lm.fsh lm.ftxt) := met_gives (X := X) (Ng := Nmet) (x := "_law_met") (a := "call") (q := q) (sg := defScope (top 69)) (g := g) (cdg := cdg) (hs := ssK K) (fsh := lm.fsh) (ftxt := lm.ftxt) (fun f => rfl) (fun s H => (.plain (x := "InvalidCode") ⟨rfl, by decide, .inl (by rw [hm]; exact F.glo "InvalidCode" 58 rfl)⟩ (fun a oe cls d pn hz hf => pss_one (ps_ret (PE_sh (.t1 _ _ _ _ _ _) pe_str rfl))) (.plain (x := "InvalidWord") ⟨rfl, by decide, .inl (by rw [hm]; exact F.glo "InvalidWord" 57 rfl)⟩ (fun a oe cls d pn hz hf => pss_one (ps_ret (PE_sh (.t1 _ _ _ _ _ _) pe_str rfl))) (.plain (x := "InvalidOperation") ⟨rfl, by decide, .inl (by rw [hm]; exact F.glo "InvalidOperation" 59 rfl)⟩ (fun a oe cls d pn hz hf => pss_one (ps_ret (PE_sh (.t1 _ _ _ _ _ _) pe_str rfl))) (.named (x := "TooMany") (n := "error") (show Nmet.Nodup by decide) (i := 1) rfl rfl ⟨rfl, by decide, .inl (by rw [hm]; exact F.glo "TooMany" 61 rfl)⟩ (fun a oe cls d pn hz hf => pss_one (ps_ret (PE_sh (.t1 _ _ _ _ _ _) (PE_told (show XfC X.K (ga K "TooMany") by rw [hK]; exact (xfc_ok (f := "limit") (F.ex 126 rfl)).1) (show PySem.W.findIn X.K (.ref (ga K "TooMany")) "limit" = some none by rw [hK]; exact (xfc_ok (F.ex 126 rfl)).2) hz hf rfl (.inl rfl) (by decide) (by decide) rfl (by show X.mg "repr" = none; rw [hm]; exact F.free "repr" 82 rfl) rfl) rfl))) .nil))))) (.t0 _ _ _)
  rw [hK] at e
  exact e
theorem lamK {k : Nat} {C : CEnv} (F : Fac K mg base h) (g : GOk (GG w K mg base) k C) : LamG (GG w K mg base) k C lm (TT K) := by
  have Z := F.c.def_ (d := gD "_law_met" 69) 52 rfl rfl
  obtain ⟨oc, od, kV, doc, pm, an, ct, osl, lk, hcd⟩ := Z.ex
  exact ⟨"call", ga K "_law_met", defArgs (top 69), defBody (top 69), defScope (top 69), .none, kV, doc, pm, .ref (fzC K (gD "_law_met" 69)), ct, oc, an, od, osl, Nmet, ssK K,
    ⟨fun H t => t, fun H t => t, relK, (all_cons (all_cons (fun C Cx h1 h2 => by cases h1; cases h2; exact exm_ok (F.ex 102 rfl)) (all_cons (fun C Cx h1 h2 => by cases h1; cases h2; exact exm_ok (F.ex 103 rfl)) (all_cons (fun C Cx h1 h2 => by cases h1; cases h2; exact exm_ok (F.ex 104 rfl)) (all_cons (fun C Cx h1 h2 => by cases h1; cases h2; exact exm_ok (F.ex 105 rfl)) all_nil)))) (all_cons (all_cons (fun C Cx h1 h2 => by cases h1; cases h2; exact exm_ok (F.ex 106 rfl)) (all_cons (fun C Cx h1 h2 => by cases h1; cases h2; exact exm_ok (F.ex 107 rfl)) (all_cons (fun C Cx h1 h2 => by cases h1; cases h2; exact exm_ok (F.ex 108 rfl)) (all_cons (fun C Cx h1 h2 => by cases h1; cases h2; exact exm_ok (F.ex 109 rfl)) all_nil)))) (all_cons (all_cons (fun C Cx h1 h2 => by cases h1; cases h2; exact exm_ok (F.ex 110 rfl)) (all_cons (fun C Cx h1 h2 => by cases h1; cases h2; exact exm_ok (F.ex 111 rfl)) (all_cons (fun C Cx h1 h2 => by cases h1; cases h2; exact exm_ok (F.ex 112 rfl)) (all_cons (fun C Cx h1 h2 => by cases h1; cases h2; exact exm_ok (F.ex 113 rfl)) all_nil)))) (all_cons (all_cons (fun C Cx h1 h2 => by cases h1; cases h2; exact exm_ok (F.ex 114 rfl)) (all_cons (fun C Cx h1 h2 => by cases h1; cases h2; exact exm_ok (F.ex 115 rfl)) (all_cons (fun C Cx h1 h2 => by cases h1; cases h2; exact exm_ok (F.ex 116 rfl)) (all_cons (fun C Cx h1 h2 => by cases h1; cases h2; exact exm_ok (F.ex 117 rfl)) all_nil)))) (all_cons (all_cons (fun C Cx h1 h2 => by cases h1; cases h2; exact exm_ok (F.ex 118 rfl)) (all_cons (fun C Cx h1 h2 => by cases h1; cases h2; exact exm_ok (F.ex 119 rfl)) (all_cons (fun C Cx h1 h2 => by cases h1; cases h2; exact exm_ok (F.ex 120 rfl)) (all_cons (fun C Cx h1 h2 => by cases h1; cases h2; exact exm_ok (F.ex 121 rfl)) all_nil)))) (all_cons (all_cons (fun C Cx h1 h2 => by cases h1; cases h2; exact exm_ok (F.ex 122 rfl)) (all_cons (fun C Cx h1 h2 => by cases h1; cases h2; exact exm_ok (F.ex 123 rfl)) (all_cons (fun C Cx h1 h2 => by cases h1; cases h2; exact exm_ok (F.ex 124 rfl)) (all_cons (fun C Cx h1 h2 => by cases h1; cases h2; exact exm_ok (F.ex 125 rfl)) all_nil)))) all_nil))))))⟩,
    ⟨F.glo "_law_met" 52 rfl, Z.kp, lk, hcd, .all fun us hl => match us, hl with | [_], _ => rfl⟩,
    ⟨⟨rfl, rfl, rfl, by decide +kernel, rfl, by decide +kernel, by decide +kernel⟩, rfl, .inl rfl, fun X hK hm q => givesK F hK hm q⟩, ⟨g, by decide, by decide⟩⟩
end
end Ev
set_option maxHeartbeats 0
/-! k83: the defs with lambdas, the law's def. -/
namespace Ev
open PySem PySem.Spec PyProof.Rows L2 He
section
variable {w : World} {K : PySem.W.Frag} {mg : Str → Option Value} {base h : Heap}
def TbK (K : PySem.W.Frag) (mg : Str → Option Value) (base : Heap) : Prop := ∀ d ∈ tf, LamX.TabB base mg (fzC K d) (fzT K d)
theorem r__law_right (F : Fac K mg base h) (hT : TbK K mg base) (g : GOk (GG w K mg base) 62 C57) : FnR PP w K mg base (L2.CX PP w) 65 (ga K "_law_right") (spF (GG w K mg base) f__law_right) :=
  def_fnR (G := GG w K mg base) (C := E__law_right) (d := gD "_law_right" 71) (ps := ["pail"]) (F.c.def_ 54 rfl rfl) ⟨rfl, rfl, rfl, by decide +kernel, rfl, by decide +kernel, by decide +kernel⟩ rfl rfl (fun _ _ _ _ _ _ us hl => match us, hl with | [_], _ => rfl) ((g.mono (Nat.le_add_right 62 2)).re N__law_right (defScope (top 71)) true (some lm)) c__law_right (fun X hX l e => by cases e; exact (lamK F (g.re N__law_right (defScope (top 71)) true (some lm))).at_ (Nat.le_refl _) hX (hT _ (List.mem_of_getElem? (i := 0) rfl)) (List.mem_of_getElem? (i := 0) rfl) (fun p hp e => (show ∀ p ∈ TT K, p.1 = fzT K (gD "_law_right" 71) → p.2 = lq (gD "_law_right" 71) ++ "<lambda>" from (all_cons (fun _ => rfl) (all_cons (fun e => absurd e (of_decide_eq_true (F.ex 128 rfl))) all_nil))) p hp e))
theorem gL58 (F : Fac K mg base h) (hT : TbK K mg base) : GOk (GG w K mg base) 65 C58 := (((g57 F).mono (Nat.le_add_right 62 2))).addFn (x := "_law_right") (r__law_right F hT (g57 F)) (F.glo "_law_right" 54 rfl) (F.c.def_ 54 rfl rfl).kp rfl
theorem law_ok (F : Fac K mg base h) (hT : TbK K mg base) (g : GOk (GG w K mg base) 65 C58) : ∀ fd, IsFd K (ga K "law") fd → (∀ (s : Shared) (us : List Value), us.length = 1 → BindsTo s fd ⟨us, []⟩ ((["script"] : List Str).zip us)) ∧ L2.Binds K fd ["script"] [] ∧ FnOk PP w K mg base (L2.CX PP w) 68 (ga K "law") fd ["script"] (spF (GG w K mg base) f_law) :=
  def_ok (G := GG w K mg base) (C := E_law) (d := gD "law" 72) (ps := ["script"]) (F.c.def_ 55 rfl rfl) ⟨rfl, rfl, rfl, by decide +kernel, rfl, by decide +kernel, by decide +kernel⟩ rfl rfl (fun _ _ _ _ _ _ us hl => match us, hl with | [_], _ => rfl) ((g.mono (Nat.le_add_right 65 2)).re N_law (defScope (top 72)) false (some lm)) c_law (fun X hX l e => by cases e; exact (lamK F (g.re N_law (defScope (top 72)) false (some lm))).at_ (Nat.le_refl _) hX (hT _ (List.mem_of_getElem? (i := 1) rfl)) (List.mem_of_getElem? (i := 1) rfl) (fun p hp e => (show ∀ p ∈ TT K, p.1 = fzT K (gD "law" 72) → p.2 = lq (gD "law" 72) ++ "<lambda>" from (all_cons (fun e => absurd e (of_decide_eq_true (F.ex 127 rfl))) (all_cons (fun _ => rfl) all_nil))) p hp e))
def kLaw : Nat := 68
theorem gLaw (F : Fac K mg base h) (hT : TbK K mg base) : GOk (GG w K mg base) 65 C58 := gL58 F hT
end
end Ev
set_option maxHeartbeats 0
/-! k83: the end. -/
namespace Ev
open PySem PySem.Spec PyProof.Rows L2 He
/-- the plain law -/
def Plain : Prop := ∀ ns : List Int, ns.length ≤ 63 → (∀ z ∈ ns, Builtin.Int.intBits z ≤ 1048576) → ∃ out, f_law.run [.scr (ns.map D.int)] = .ok (.val (.bl true)) out
theorem lawAt (hp : Plain) {w : World} {K : PySem.W.Frag} {mg : Str → Option Value} {fa : Addr} {h : Heap} (KX : K.In h) (N : h.Ns mainGlobals mg) (c : SaysZ fz tf exA h K) (hm : mg "law" = some (.ref fa)) : LamX.LawAtS PySem.Challenge.rw_codegrates_k83_errors_of_cosets w K (L2.CX PP w) kLaw 63 "script" mg fa h := by
  have e : fa = ga K "law" := by
    have := hm.symm.trans (glo_ok KX N (exL_at (K := K) c.more 55 rfl : (Fa.glo "law").ok K = true))
    cases this
    rfl
  subst e
  have Z := c.def_ (d := gD "law" 72) 55 rfl rfl
  obtain ⟨fd, hfd⟩ := Z.isFd
  have F0 : ∀ base : Heap, K.In base → base.Ns mainGlobals mg → Fac K mg base h := fun base X N => ⟨c, X, N⟩
  have bnd : ∀ (s : Shared) (us : List Value), us.length = 1 → BindsTo s fd ⟨us, []⟩ ((["script"] : List Str).zip us) := by
    obtain ⟨oc, od, kV, doc, pm, an, ct, osl, lk, hcd⟩ := Z.ex
    obtain ⟨oc', od', osl', lk'⟩ := hfd
    rw [lk] at lk'
    cases lk'
    exact fun s us hl => .of_eq (match us, hl with | [_], _ => rfl)
  refine ⟨fd, tf.map fun d => (fzC K d, fzT K d), fun vs H Q E => ∀ base : Heap, spF (GG w K mg base) f_law vs H Q E, ?_, ?_, ?_, fun s u => bnd s [u] rfl, ?_, ?_⟩
  · intro p hp
    obtain ⟨d, hd, rfl⟩ := List.mem_map.mp hp
    exact c.empty d hd
  · intro p hp
    obtain ⟨d, hd, rfl⟩ := List.mem_map.mp hp
    exact c.out d hd
  · intro p hp
    obtain ⟨d, hd, rfl⟩ := List.mem_map.mp hp
    exact PySem.W.codeHd_of_K KX (c.hd d hd)
  · intro H a ns hl hb hT hS base
    obtain ⟨out, ho⟩ := hp ns hl hb
    refine law_sp (G := GG w K mg base) (f := f_law) rfl ?_ hS ho
    intro p hp
    obtain ⟨d, hd, rfl⟩ := List.mem_map.mp hp
    exact LamX.TabS.nil (hT (fzC K d, fzT K d) (List.mem_map_of_mem hd))
  · intro base X N hT
    have F := F0 base X N
    have tb : TbK K mg base := fun d hd => hT (fzC K d, fzT K d) (List.mem_map_of_mem hd)
    exact FnOk.pre (law_ok F tb (gLaw F tb) fd hfd).2.2 fun vs H Q E z => z base
end Ev
open PySem PySem.W PySem.Calls PyProof.Rows
theorem Ev.holds (hp : Ev.Plain) : PySem.Challenge.rw_codegrates_k83_errors_of_cosets.Holds := by
  w_on; o_law
  refine HandSHeadRun.head_any (r := OpenLaw.row PySem.Challenge.rw_codegrates_k83_errors_of_cosets) (q := view (OpenLaw.row PySem.Challenge.rw_codegrates_k83_errors_of_cosets).prog [72]) (H := Ev.hk) (ob := Ev.ob) (M := 4000) (loose := Ev.loose) (d := HandSHeadRun.topDef (OpenLaw.row PySem.Challenge.rw_codegrates_k83_errors_of_cosets).prog 72) (kwd := []) Ev.ob_eq
    (by kernel_rfl) (fun s => by kernel_rfl) Ev.run (by kernel_rfl) (by kernel_rfl) (by kernel_rfl) (by rfl) (by first | assumption | decide +kernel) (by decide +kernel) ⟨rfl, rfl, rfl, rfl, rfl, by decide +kernel⟩ ?hw ?hc
  case hw => w_witness2
  case hc =>
    refine LamX.walk_ofTsE (l := PySem.Challenge.rw_codegrates_k83_errors_of_cosets) (n := 63) (k := Ev.kLaw) (x := "script") (CX := fun w => L2.CX Ev.PP w) rfl (by decide) (by kernel_rfl) ⟨rfl, by decide, by decide⟩ ?F (fun _ _ _ _ _ z => ?z)
    case z =>
      obtain ⟨_, _, _, _, _, _, _, _, _, _, _, _, z⟩ := z
      exact z
    intro w mg fa h Y G hmg0
    obtain ⟨K, KX, c⟩ := Y
    have hmg : mg ("law" : PySem.Str) = some (.ref fa) := by
      have e : (HandSHeadRun.topDef (OpenLaw.row PySem.Challenge.rw_codegrates_k83_errors_of_cosets).prog 72).name = ("law" : PySem.Str) := by kernel_rfl
      rw [← e]
      exact hmg0
    exact ⟨K, KX, Ev.lawAt hp KX G c hmg⟩
set_option maxHeartbeats 4000000
/-! k83: the draws. -/
namespace Ev
open PySem PySem.Spec PyProof.Rows L2
def pailD (a b c : Int) : D := .lst [.int a, .int b, .int c]
theorem log_lt {x : Int} {k : Nat} (h : x.natAbs < 2 ^ k) (hk : 0 < k) : x.natAbs.log2 < k := by
  by_cases hx : x.natAbs = 0
  · rw [hx]; simpa using hk
  · exact (Nat.log2_lt hx).mpr h
theorem scoop_big {a b c n : Int} (ha : 0 < a) (hn : 0 < n) (hl : n.natAbs.log2 < 9000) : f__law_scooped.run [pailD a b c, .int n] = .ok (.val (.int (a % n))) (pailD (a / n) b c) := by
  simp [f__law_scooped, runB, startR, padR, N__law_scooped, pailD, s__law_scooped, sSeq, sIf, bindS, mBool, mOp, mArgs, bindR, mVal, mVar, noFresh, opt, peeks, peek, sat, oGt, two, pIntB, oIx, one, orD2, pIxL, atI, L2.ixN, boolD, sSet, sSetIx, sRet, putSl, pInt1, oMod, pInt, oDiv, cDiv, ha, hn, hl, frz, ownL, setAt, endB, outS, endO]
def v83 (b c : Int) : Int := ((((b + 67867979 * (c + 1)) % 2305843009213693951 * ((b + 67867979 * (c + 1)) % 2305843009213693951) + 49979687) % 2305843009213693907 * 86028121 + (b + 67867979 * (c + 1)) % 2305843009213693951 + 23 * (c + 1)) / 65537)
theorem scoop_small {a b c n : Int} (ha : ¬ 0 < a) (hn : 0 < n) (hc : 0 ≤ c ∧ c < 2 ^ 60) : f__law_scooped.run [pailD a b c, .int n] = .ok (.val (.int (v83 b c % n))) (pailD a b (c + 1)) := by
  have h1 : Nat.log2 67867979 + (c + 1).natAbs.log2 < 1000000 := by
    have := log_lt (x := c + 1) (k := 64) (by omega) (by decide)
    have : Nat.log2 67867979 < 64 := by decide
    omega
  have h2 : ∀ z : Int, (z % 2305843009213693951).natAbs.log2 + (z % 2305843009213693951).natAbs.log2 < 1000000 := fun z => by
    have := log_lt (x := z % 2305843009213693951) (k := 64) (by omega) (by decide)
    omega
  have h3 : ∀ z : Int, (z % 2305843009213693907).natAbs.log2 + Nat.log2 86028121 < 1000000 := fun z => by
    have := log_lt (x := z % 2305843009213693907) (k := 64) (by omega) (by decide)
    have : Nat.log2 86028121 < 64 := by decide
    omega
  have h4 : Nat.log2 23 + (c + 1).natAbs.log2 < 1000000 := by
    have := log_lt (x := c + 1) (k := 64) (by omega) (by decide)
    have : Nat.log2 23 < 64 := by decide
    omega
  have h5 : Nat.log2 65537 < 9000 := by decide
  simp [v83, f__law_scooped, runB, startR, padR, N__law_scooped, pailD, s__law_scooped, sSeq, sIf, bindS, mBool, mOp, mArgs, bindR, mVal, mVar, noFresh, opt, peeks, peek, sat, oGt, two, pIntB, oIx, one, orD2, pIxL, atI, L2.ixN, boolD, sSet, sSetIx, sRet, putSl, pInt1, oMod, oAdd, oMul, pInt, oDiv, cDiv, cMul, ha, hn, h1, h2, h3, h4, h5, frz, ownL, setAt, endB, outS, endO, sPass]
/-- a draw -/
theorem scoop {a b c n : Int} (hn : 0 < n) (hl : n.natAbs.log2 < 9000) (hc : 0 ≤ c ∧ c < 2 ^ 60) : ∃ m a' c', f__law_scooped.run [pailD a b c, .int n] = .ok (.val (.int m)) (pailD a' b c') ∧ (0 ≤ m ∧ m < n) ∧ 0 ≤ c' ∧ c' ≤ c + 1 := by
  by_cases ha : 0 < a
  · exact ⟨_, _, _, scoop_big ha hn hl, ⟨Int.emod_nonneg _ (by omega), Int.emod_lt_of_pos _ hn⟩, by omega, by omega⟩
  · exact ⟨_, _, _, scoop_small (b := b) ha hn hc, ⟨Int.emod_nonneg _ (by omega), Int.emod_lt_of_pos _ hn⟩, by omega, by omega⟩
theorem any_of {a b c : Int} {xs : List D} (hx : xs ≠ []) (hl : xs.length < 2 ^ 60) (hc : 0 ≤ c ∧ c < 2 ^ 60) : ∃ d ∈ xs, ∃ a' c', f__law_any_of.run [pailD a b c, .lst xs] = .ok (.val d) (pailD a' b c') ∧ 0 ≤ c' ∧ c' ≤ c + 1 := by
  have h0 : 0 < xs.length := List.length_pos_iff.mpr hx
  obtain ⟨m, a', c', h1, ⟨h2, h3⟩, h4, h5⟩ := scoop (a := a) (b := b) (c := c) (n := xs.length) (by omega) (Nat.lt_of_lt_of_le (log_lt (k := 64) (by omega) (by decide)) (by decide)) hc
  obtain ⟨d, hd, e⟩ := at_mem h2 h3
  refine ⟨d, hd, a', c', ?_, h4, h5⟩
  have hm : mCall f__law_scooped (mCons (mVar 0) (mCons (mOp (one pLen) [mVar 1]) (mArgs []))) [.own (pailD a b c), .val (.lst xs)] = .ok (.val (.int m)) [.own (pailD a' b c'), .val (.lst xs)] :=
    mCall_w (i := 0) (os := [.val (.int xs.length)]) (ds := [.int xs.length]) (r1 := [.own (pailD a b c), .val (.lst xs)]) (r2 := [.own (pailD a b c), .val (.lst xs)]) (d := pailD a b c) rfl rfl rfl rfl h1
  simp only [mArgs] at hm
  simp [f__law_any_of, runB, startR, padR, N__law_any_of, s__law_any_of, sSeq, sRet, bindS, mOp, mArgs, bindR, hm, mVar, noFresh, peeks, peek, sat, opt, oIx, two, orD2, pIxL, e, endB, outS, endO]
end Ev
set_option maxHeartbeats 4000000
set_option exponentiation.threshold 1000
/-! k83: the pail. -/
namespace Ev
open PySem PySem.Spec PyProof.Rows L2
def PailRes : FRes → Prop
  | .ok (.fresh (.lst [.int _, .int _, .int c])) .non => c = 0
  | _ => False
theorem PailRes.get {f : FRes} (h : PailRes f) : ∃ a b, f = .ok (.fresh (pailD a b 0)) .non := by
  unfold PailRes at h
  split at h
  · exact ⟨_, _, by rw [h]; rfl⟩
  · exact h.elim
theorem pail_res {ns : List Int} {spot : Int} (h : 0 ≤ spot ∧ spot < 4) : PailRes (f__law_pail.run [.scr (ns.map D.int), .int spot]) := by
  have h1 : ∀ z : Int, (z % 2305843009213693921).natAbs.log2 + Nat.log2 61 < 1000000 := fun z => by
    have := log_lt (x := z % 2305843009213693921) (k := 64) (by omega) (by decide)
    have : Nat.log2 61 < 64 := by decide
    omega
  have h2 : Nat.log2 6473 + spot.natAbs.log2 < 1000000 := by
    have := log_lt (x := spot) (k := 64) (by omega) (by decide)
    have : Nat.log2 6473 < 64 := by decide
    omega
  have h3 : Nat.log2 31 + Nat.log2 1 < 1000000 := by decide
  have h3' : Nat.log2 31 < 1000000 := by decide
  have h4 : Nat.log2 167 + spot.natAbs.log2 < 1000000 := by
    have := log_lt (x := spot) (k := 64) (by omega) (by decide)
    have : Nat.log2 167 < 64 := by decide
    omega
  have hp : oPow [.int 10, .int 57] = some (.val (.int 1000000000000000000000000000000000000000000000000000000000)) := by kernel_rfl
  have hp2 : oPow [.int 1000000000000000000000000000000000000000000000000000000000, .int 7] = some (.val (.int 1000000000000000000000000000000000000000000000000000000000000000000000000000000000000000000000000000000000000000000000000000000000000000000000000000000000000000000000000000000000000000000000000000000000000000000000000000000000000000000000000000000000000000000000000000000000000000000000000000000000000000000000000000000000000000000000000000000000000000000000000000000000000000000000000000000000000000)) := by kernel_rfl
  have hp3 : oPow [.int 10, .int 16] = some (.val (.int 10000000000000000)) := by kernel_rfl
  by_cases hl : spot < (ns.length : Int)
  · obtain ⟨d, hd, e⟩ := at_mem (xs := ns.map D.int) h.1 (by rw [List.length_map]; exact hl)
    obtain ⟨z, _, rfl⟩ := List.mem_map.mp hd
    by_cases hz : z < 0 <;>
    simp [PailRes, f__law_pail, runB, startR, padR, N__law_pail, s__law_pail, sSeq, sSet, sRet, bindS, mIf, mBool, mOp, mArgs, mCons, bindR, mVal, mVar, noFresh, opt, peeks, peek, sat, oLt, oMax, oSub, oAdd, oMul, oMod, two, one, orD, orD2, pIntB, pInt, pInt1, pAbs, pMax2, pLen, LenD, oIx, pIxL, boolD, putSl, cMul, hl, e, hz, h1, h2, h3, h3', h4, hp, hp2, hp3, mLst, mColl, frzs, frz, fLst, endB, outS, endO, sPass, sizeLine]
  · have hz : ¬ 167 * spot + 59 < 0 := by omega
    simp [PailRes, f__law_pail, runB, startR, padR, N__law_pail, s__law_pail, sSeq, sSet, sRet, bindS, mIf, mBool, mOp, mArgs, mCons, bindR, mVal, mVar, noFresh, opt, peeks, peek, sat, oLt, oMax, oSub, oAdd, oMul, oMod, two, one, orD, orD2, pIntB, pInt, pInt1, pAbs, pMax2, pLen, LenD, oIx, pIxL, boolD, putSl, cMul, hl, hz, h1, h2, h3, h3', h4, hp, hp2, hp3, mLst, mColl, frzs, frz, fLst, endB, outS, endO, sPass, sizeLine]
end Ev
set_option maxHeartbeats 0
/-! k83: what is met, statement by statement (printed). -/
namespace Ev
open PySem PySem.Spec PyProof.Rows L2 He
def four : D := (.obj 6 [.tup [.int 12, .int 3], .int 4])
def noneL : List D := [.non, .int 8, .tup [.int 3, .int 12], .str "code", .dct [] [], (.obj 6 [.tup [.int 3], .int 4]), (.obj 6 [.tup [.int 11, .int 7], .int 4]), (.obj 6 [.tup [.int 3], .int 3]), (.obj 6 [.tup [], .int 4]), .lst [(.obj 6 [.tup [.int 3], .int 2])]]
def longL : List D := [(.obj 6 [.tup [.int 196608, .int 49152, .int 12288, .int 3072, .int 768, .int 192, .int 48, .int 12, .int 3], .int 18]), (.obj 6 [.tup [.int 786432, .int 196608, .int 49152, .int 12288, .int 3072, .int 768, .int 192, .int 48, .int 12, .int 3], .int 20]), (.obj 6 [.tup [.int 12582912, .int 3145728, .int 786432, .int 196608, .int 49152, .int 12288, .int 3072, .int 768, .int 192, .int 48, .int 12, .int 3], .int 24])]
def oddL : List D := [.non, .int (-1), .int 16, .bl true, .str "1", .tup [.int 1], .int 1000000000000000000000000000000000000000000000000000000000000, .lst []]
def bitsL : List D := [.non, .tup [], .tup [.int 0], .tup [.int 0, .int 1, .int 1], .lst [.int 0, .int 1], .tup [.int 0, .int 2], .tup [.int 0, .bl true], .tup [.int 0, .int (-1)], .tup [.non, .int 0], .str "01", .int 3]
def ws : List Str := (["code", "word", "word", "many 16", "code", "word", "word", "many 16", "code", "word"] : List Str) ++ (["word", "many 16", "code", "word", "word", "many 16", "code", "word", "word", "many 16"] : List Str) ++ (["code", "word", "word", "many 16", "code", "many 16", "code", "many 16", "code", "many 16"] : List Str) ++ (["code", "many 16", "code", "operation", "operation", "many 16", "code", "many 16", "operation"] : List Str)
def mt (i : Nat) : List D := (ws.take i).map fun w => .tup [.str "refused", .str w]
def du (i : Nat) : List D := (ws.take i).map .str
def RoK (p none long odd bits : D) (met due : List D) (call : Sl) : Rho := [.own p, .val none, .val four, .val long, .val odd, .val bits, .own (.lst met), .own (.lst due), call, .no]
theorem q5_0_0 (p long odd bits : D) : ∀ none ∈ noneL, s__law_right_5_0 (RoK p none long odd bits (mt 0) (du 0) (.val (.fn 37))) = .next (RoK p none long odd bits (mt 1) (du 0) (.val (.fn 37))) := (all_cons (by kernel_rfl) (all_cons (by kernel_rfl) (all_cons (by kernel_rfl) (all_cons (by kernel_rfl) (all_cons (by kernel_rfl) (all_cons (by kernel_rfl) (all_cons (by kernel_rfl) (all_cons (by kernel_rfl) (all_cons (by kernel_rfl) (all_cons (by kernel_rfl) all_nil))))))))))
theorem q5_0_1 (p none long bits : D) : ∀ odd ∈ oddL, s__law_right_5_1 (RoK p none long odd bits (mt 1) (du 0) (.val (.fn 37))) = .next (RoK p none long odd bits (mt 2) (du 0) (.val (.fn 37))) := (all_cons (by kernel_rfl) (all_cons (by kernel_rfl) (all_cons (by kernel_rfl) (all_cons (by kernel_rfl) (all_cons (by kernel_rfl) (all_cons (by kernel_rfl) (all_cons (by kernel_rfl) (all_cons (by kernel_rfl) all_nil))))))))
theorem q5_0_2 (p none odd bits : D) : ∀ long ∈ longL, s__law_right_5_2 (RoK p none long odd bits (mt 2) (du 0) (.val (.fn 37))) = .next (RoK p none long odd bits (mt 3) (du 0) (.val (.fn 37))) := (all_cons (by kernel_rfl) (all_cons (by kernel_rfl) (all_cons (by kernel_rfl) all_nil)))
theorem q5_0_3 (p none odd bits : D) : ∀ long ∈ longL, s__law_right_5_3 (RoK p none long odd bits (mt 3) (du 0) (.val (.fn 37))) = .next (RoK p none long odd bits (mt 4) (du 0) (.val (.fn 37))) := (all_cons (by kernel_rfl) (all_cons (by kernel_rfl) (all_cons (by kernel_rfl) all_nil)))
theorem q5_0_4 (p none long odd bits : D) : s__law_right_5_4 (RoK p none long odd bits (mt 4) (du 0) (.val (.fn 37))) = .next (RoK p none long odd bits (mt 4) (du 4) (.val (.fn 37))) := by kernel_rfl
theorem q5_1_0 (p long odd bits : D) : ∀ none ∈ noneL, s__law_right_5_0 (RoK p none long odd bits (mt 4) (du 4) (.val (.fn 38))) = .next (RoK p none long odd bits (mt 5) (du 4) (.val (.fn 38))) := (all_cons (by kernel_rfl) (all_cons (by kernel_rfl) (all_cons (by kernel_rfl) (all_cons (by kernel_rfl) (all_cons (by kernel_rfl) (all_cons (by kernel_rfl) (all_cons (by kernel_rfl) (all_cons (by kernel_rfl) (all_cons (by kernel_rfl) (all_cons (by kernel_rfl) all_nil))))))))))
theorem q5_1_1 (p none long bits : D) : ∀ odd ∈ oddL, s__law_right_5_1 (RoK p none long odd bits (mt 5) (du 4) (.val (.fn 38))) = .next (RoK p none long odd bits (mt 6) (du 4) (.val (.fn 38))) := (all_cons (by kernel_rfl) (all_cons (by kernel_rfl) (all_cons (by kernel_rfl) (all_cons (by kernel_rfl) (all_cons (by kernel_rfl) (all_cons (by kernel_rfl) (all_cons (by kernel_rfl) (all_cons (by kernel_rfl) all_nil))))))))
theorem q5_1_2 (p none odd bits : D) : ∀ long ∈ longL, s__law_right_5_2 (RoK p none long odd bits (mt 6) (du 4) (.val (.fn 38))) = .next (RoK p none long odd bits (mt 7) (du 4) (.val (.fn 38))) := (all_cons (by kernel_rfl) (all_cons (by kernel_rfl) (all_cons (by kernel_rfl) all_nil)))
theorem q5_1_3 (p none odd bits : D) : ∀ long ∈ longL, s__law_right_5_3 (RoK p none long odd bits (mt 7) (du 4) (.val (.fn 38))) = .next (RoK p none long odd bits (mt 8) (du 4) (.val (.fn 38))) := (all_cons (by kernel_rfl) (all_cons (by kernel_rfl) (all_cons (by kernel_rfl) all_nil)))
theorem q5_1_4 (p none long odd bits : D) : s__law_right_5_4 (RoK p none long odd bits (mt 8) (du 4) (.val (.fn 38))) = .next (RoK p none long odd bits (mt 8) (du 8) (.val (.fn 38))) := by kernel_rfl
theorem q5_2_0 (p long odd bits : D) : ∀ none ∈ noneL, s__law_right_5_0 (RoK p none long odd bits (mt 8) (du 8) (.val (.fn 40))) = .next (RoK p none long odd bits (mt 9) (du 8) (.val (.fn 40))) := (all_cons (by kernel_rfl) (all_cons (by kernel_rfl) (all_cons (by kernel_rfl) (all_cons (by kernel_rfl) (all_cons (by kernel_rfl) (all_cons (by kernel_rfl) (all_cons (by kernel_rfl) (all_cons (by kernel_rfl) (all_cons (by kernel_rfl) (all_cons (by kernel_rfl) all_nil))))))))))
theorem q5_2_1 (p none long bits : D) : ∀ odd ∈ oddL, s__law_right_5_1 (RoK p none long odd bits (mt 9) (du 8) (.val (.fn 40))) = .next (RoK p none long odd bits (mt 10) (du 8) (.val (.fn 40))) := (all_cons (by kernel_rfl) (all_cons (by kernel_rfl) (all_cons (by kernel_rfl) (all_cons (by kernel_rfl) (all_cons (by kernel_rfl) (all_cons (by kernel_rfl) (all_cons (by kernel_rfl) (all_cons (by kernel_rfl) all_nil))))))))
theorem q5_2_2 (p none odd bits : D) : ∀ long ∈ longL, s__law_right_5_2 (RoK p none long odd bits (mt 10) (du 8) (.val (.fn 40))) = .next (RoK p none long odd bits (mt 11) (du 8) (.val (.fn 40))) := (all_cons (by kernel_rfl) (all_cons (by kernel_rfl) (all_cons (by kernel_rfl) all_nil)))
theorem q5_2_3 (p none odd bits : D) : ∀ long ∈ longL, s__law_right_5_3 (RoK p none long odd bits (mt 11) (du 8) (.val (.fn 40))) = .next (RoK p none long odd bits (mt 12) (du 8) (.val (.fn 40))) := (all_cons (by kernel_rfl) (all_cons (by kernel_rfl) (all_cons (by kernel_rfl) all_nil)))
theorem q5_2_4 (p none long odd bits : D) : s__law_right_5_4 (RoK p none long odd bits (mt 12) (du 8) (.val (.fn 40))) = .next (RoK p none long odd bits (mt 12) (du 12) (.val (.fn 40))) := by kernel_rfl
theorem q5_3_0 (p long odd bits : D) : ∀ none ∈ noneL, s__law_right_5_0 (RoK p none long odd bits (mt 12) (du 12) (.val (.fn 42))) = .next (RoK p none long odd bits (mt 13) (du 12) (.val (.fn 42))) := (all_cons (by kernel_rfl) (all_cons (by kernel_rfl) (all_cons (by kernel_rfl) (all_cons (by kernel_rfl) (all_cons (by kernel_rfl) (all_cons (by kernel_rfl) (all_cons (by kernel_rfl) (all_cons (by kernel_rfl) (all_cons (by kernel_rfl) (all_cons (by kernel_rfl) all_nil))))))))))
theorem q5_3_1 (p none long bits : D) : ∀ odd ∈ oddL, s__law_right_5_1 (RoK p none long odd bits (mt 13) (du 12) (.val (.fn 42))) = .next (RoK p none long odd bits (mt 14) (du 12) (.val (.fn 42))) := (all_cons (by kernel_rfl) (all_cons (by kernel_rfl) (all_cons (by kernel_rfl) (all_cons (by kernel_rfl) (all_cons (by kernel_rfl) (all_cons (by kernel_rfl) (all_cons (by kernel_rfl) (all_cons (by kernel_rfl) all_nil))))))))
theorem q5_3_2 (p none odd bits : D) : ∀ long ∈ longL, s__law_right_5_2 (RoK p none long odd bits (mt 14) (du 12) (.val (.fn 42))) = .next (RoK p none long odd bits (mt 15) (du 12) (.val (.fn 42))) := (all_cons (by kernel_rfl) (all_cons (by kernel_rfl) (all_cons (by kernel_rfl) all_nil)))
theorem q5_3_3 (p none odd bits : D) : ∀ long ∈ longL, s__law_right_5_3 (RoK p none long odd bits (mt 15) (du 12) (.val (.fn 42))) = .next (RoK p none long odd bits (mt 16) (du 12) (.val (.fn 42))) := (all_cons (by kernel_rfl) (all_cons (by kernel_rfl) (all_cons (by kernel_rfl) all_nil)))
theorem q5_3_4 (p none long odd bits : D) : s__law_right_5_4 (RoK p none long odd bits (mt 16) (du 12) (.val (.fn 42))) = .next (RoK p none long odd bits (mt 16) (du 16) (.val (.fn 42))) := by kernel_rfl
theorem q5_4_0 (p long odd bits : D) : ∀ none ∈ noneL, s__law_right_5_0 (RoK p none long odd bits (mt 16) (du 16) (.val (.fn 45))) = .next (RoK p none long odd bits (mt 17) (du 16) (.val (.fn 45))) := (all_cons (by kernel_rfl) (all_cons (by kernel_rfl) (all_cons (by kernel_rfl) (all_cons (by kernel_rfl) (all_cons (by kernel_rfl) (all_cons (by kernel_rfl) (all_cons (by kernel_rfl) (all_cons (by kernel_rfl) (all_cons (by kernel_rfl) (all_cons (by kernel_rfl) all_nil))))))))))
theorem q5_4_1 (p none long bits : D) : ∀ odd ∈ oddL, s__law_right_5_1 (RoK p none long odd bits (mt 17) (du 16) (.val (.fn 45))) = .next (RoK p none long odd bits (mt 18) (du 16) (.val (.fn 45))) := (all_cons (by kernel_rfl) (all_cons (by kernel_rfl) (all_cons (by kernel_rfl) (all_cons (by kernel_rfl) (all_cons (by kernel_rfl) (all_cons (by kernel_rfl) (all_cons (by kernel_rfl) (all_cons (by kernel_rfl) all_nil))))))))
theorem q5_4_2 (p none odd bits : D) : ∀ long ∈ longL, s__law_right_5_2 (RoK p none long odd bits (mt 18) (du 16) (.val (.fn 45))) = .next (RoK p none long odd bits (mt 19) (du 16) (.val (.fn 45))) := (all_cons (by kernel_rfl) (all_cons (by kernel_rfl) (all_cons (by kernel_rfl) all_nil)))
theorem q5_4_3 (p none odd bits : D) : ∀ long ∈ longL, s__law_right_5_3 (RoK p none long odd bits (mt 19) (du 16) (.val (.fn 45))) = .next (RoK p none long odd bits (mt 20) (du 16) (.val (.fn 45))) := (all_cons (by kernel_rfl) (all_cons (by kernel_rfl) (all_cons (by kernel_rfl) all_nil)))
theorem q5_4_4 (p none long odd bits : D) : s__law_right_5_4 (RoK p none long odd bits (mt 20) (du 16) (.val (.fn 45))) = .next (RoK p none long odd bits (mt 20) (du 20) (.val (.fn 45))) := by kernel_rfl
theorem q5_5_0 (p long odd bits : D) : ∀ none ∈ noneL, s__law_right_5_0 (RoK p none long odd bits (mt 20) (du 20) (.val (.fn 48))) = .next (RoK p none long odd bits (mt 21) (du 20) (.val (.fn 48))) := (all_cons (by kernel_rfl) (all_cons (by kernel_rfl) (all_cons (by kernel_rfl) (all_cons (by kernel_rfl) (all_cons (by kernel_rfl) (all_cons (by kernel_rfl) (all_cons (by kernel_rfl) (all_cons (by kernel_rfl) (all_cons (by kernel_rfl) (all_cons (by kernel_rfl) all_nil))))))))))
theorem q5_5_1 (p none long bits : D) : ∀ odd ∈ oddL, s__law_right_5_1 (RoK p none long odd bits (mt 21) (du 20) (.val (.fn 48))) = .next (RoK p none long odd bits (mt 22) (du 20) (.val (.fn 48))) := (all_cons (by kernel_rfl) (all_cons (by kernel_rfl) (all_cons (by kernel_rfl) (all_cons (by kernel_rfl) (all_cons (by kernel_rfl) (all_cons (by kernel_rfl) (all_cons (by kernel_rfl) (all_cons (by kernel_rfl) all_nil))))))))
theorem q5_5_2 (p none odd bits : D) : ∀ long ∈ longL, s__law_right_5_2 (RoK p none long odd bits (mt 22) (du 20) (.val (.fn 48))) = .next (RoK p none long odd bits (mt 23) (du 20) (.val (.fn 48))) := (all_cons (by kernel_rfl) (all_cons (by kernel_rfl) (all_cons (by kernel_rfl) all_nil)))
theorem q5_5_3 (p none odd bits : D) : ∀ long ∈ longL, s__law_right_5_3 (RoK p none long odd bits (mt 23) (du 20) (.val (.fn 48))) = .next (RoK p none long odd bits (mt 24) (du 20) (.val (.fn 48))) := (all_cons (by kernel_rfl) (all_cons (by kernel_rfl) (all_cons (by kernel_rfl) all_nil)))
theorem q5_5_4 (p none long odd bits : D) : s__law_right_5_4 (RoK p none long odd bits (mt 24) (du 20) (.val (.fn 48))) = .next (RoK p none long odd bits (mt 24) (du 24) (.val (.fn 48))) := by kernel_rfl
theorem q6_0_0 (p long odd bits : D) : ∀ none ∈ noneL, s__law_right_6_0 (RoK p none long odd bits (mt 24) (du 24) (.val (.fn 43))) = .next (RoK p none long odd bits (mt 25) (du 24) (.val (.fn 43))) := (all_cons (by kernel_rfl) (all_cons (by kernel_rfl) (all_cons (by kernel_rfl) (all_cons (by kernel_rfl) (all_cons (by kernel_rfl) (all_cons (by kernel_rfl) (all_cons (by kernel_rfl) (all_cons (by kernel_rfl) (all_cons (by kernel_rfl) (all_cons (by kernel_rfl) all_nil))))))))))
theorem q6_0_1 (p none odd bits : D) : ∀ long ∈ longL, s__law_right_6_1 (RoK p none long odd bits (mt 25) (du 24) (.val (.fn 43))) = .next (RoK p none long odd bits (mt 26) (du 24) (.val (.fn 43))) := (all_cons (by kernel_rfl) (all_cons (by kernel_rfl) (all_cons (by kernel_rfl) all_nil)))
theorem q6_0_2 (p none long odd bits : D) : s__law_right_6_2 (RoK p none long odd bits (mt 26) (du 24) (.val (.fn 43))) = .next (RoK p none long odd bits (mt 26) (du 26) (.val (.fn 43))) := by kernel_rfl
theorem q6_1_0 (p long odd bits : D) : ∀ none ∈ noneL, s__law_right_6_0 (RoK p none long odd bits (mt 26) (du 26) (.val (.fn 44))) = .next (RoK p none long odd bits (mt 27) (du 26) (.val (.fn 44))) := (all_cons (by kernel_rfl) (all_cons (by kernel_rfl) (all_cons (by kernel_rfl) (all_cons (by kernel_rfl) (all_cons (by kernel_rfl) (all_cons (by kernel_rfl) (all_cons (by kernel_rfl) (all_cons (by kernel_rfl) (all_cons (by kernel_rfl) (all_cons (by kernel_rfl) all_nil))))))))))
theorem q6_1_1 (p none odd bits : D) : ∀ long ∈ longL, s__law_right_6_1 (RoK p none long odd bits (mt 27) (du 26) (.val (.fn 44))) = .next (RoK p none long odd bits (mt 28) (du 26) (.val (.fn 44))) := (all_cons (by kernel_rfl) (all_cons (by kernel_rfl) (all_cons (by kernel_rfl) all_nil)))
theorem q6_1_2 (p none long odd bits : D) : s__law_right_6_2 (RoK p none long odd bits (mt 28) (du 26) (.val (.fn 44))) = .next (RoK p none long odd bits (mt 28) (du 28) (.val (.fn 44))) := by kernel_rfl
theorem q6_2_0 (p long odd bits : D) : ∀ none ∈ noneL, s__law_right_6_0 (RoK p none long odd bits (mt 28) (du 28) (.val (.fn 46))) = .next (RoK p none long odd bits (mt 29) (du 28) (.val (.fn 46))) := (all_cons (by kernel_rfl) (all_cons (by kernel_rfl) (all_cons (by kernel_rfl) (all_cons (by kernel_rfl) (all_cons (by kernel_rfl) (all_cons (by kernel_rfl) (all_cons (by kernel_rfl) (all_cons (by kernel_rfl) (all_cons (by kernel_rfl) (all_cons (by kernel_rfl) all_nil))))))))))
theorem q6_2_1 (p none odd bits : D) : ∀ long ∈ longL, s__law_right_6_1 (RoK p none long odd bits (mt 29) (du 28) (.val (.fn 46))) = .next (RoK p none long odd bits (mt 30) (du 28) (.val (.fn 46))) := (all_cons (by kernel_rfl) (all_cons (by kernel_rfl) (all_cons (by kernel_rfl) all_nil)))
theorem q6_2_2 (p none long odd bits : D) : s__law_right_6_2 (RoK p none long odd bits (mt 30) (du 28) (.val (.fn 46))) = .next (RoK p none long odd bits (mt 30) (du 30) (.val (.fn 46))) := by kernel_rfl
theorem q6_3_0 (p long odd bits : D) : ∀ none ∈ noneL, s__law_right_6_0 (RoK p none long odd bits (mt 30) (du 30) (.val (.fn 47))) = .next (RoK p none long odd bits (mt 31) (du 30) (.val (.fn 47))) := (all_cons (by kernel_rfl) (all_cons (by kernel_rfl) (all_cons (by kernel_rfl) (all_cons (by kernel_rfl) (all_cons (by kernel_rfl) (all_cons (by kernel_rfl) (all_cons (by kernel_rfl) (all_cons (by kernel_rfl) (all_cons (by kernel_rfl) (all_cons (by kernel_rfl) all_nil))))))))))
theorem q6_3_1 (p none odd bits : D) : ∀ long ∈ longL, s__law_right_6_1 (RoK p none long odd bits (mt 31) (du 30) (.val (.fn 47))) = .next (RoK p none long odd bits (mt 32) (du 30) (.val (.fn 47))) := (all_cons (by kernel_rfl) (all_cons (by kernel_rfl) (all_cons (by kernel_rfl) all_nil)))
theorem q6_3_2 (p none long odd bits : D) : s__law_right_6_2 (RoK p none long odd bits (mt 32) (du 30) (.val (.fn 47))) = .next (RoK p none long odd bits (mt 32) (du 32) (.val (.fn 47))) := by kernel_rfl
theorem q7 (p long odd bits : D) : ∀ none ∈ noneL, s__law_right_7 (RoK p none long odd bits (mt 32) (du 32) (.val (.fn 47))) = .next (RoK p none long odd bits (mt 33) (du 32) (.val (.fn 47))) := (all_cons (by kernel_rfl) (all_cons (by kernel_rfl) (all_cons (by kernel_rfl) (all_cons (by kernel_rfl) (all_cons (by kernel_rfl) (all_cons (by kernel_rfl) (all_cons (by kernel_rfl) (all_cons (by kernel_rfl) (all_cons (by kernel_rfl) (all_cons (by kernel_rfl) all_nil))))))))))
theorem q8 (p none long odd : D) : ∀ bits ∈ bitsL, s__law_right_8 (RoK p none long odd bits (mt 33) (du 32) (.val (.fn 47))) = .next (RoK p none long odd bits (mt 34) (du 32) (.val (.fn 47))) := (all_cons (by kernel_rfl) (all_cons (by kernel_rfl) (all_cons (by kernel_rfl) (all_cons (by kernel_rfl) (all_cons (by kernel_rfl) (all_cons (by kernel_rfl) (all_cons (by kernel_rfl) (all_cons (by kernel_rfl) (all_cons (by kernel_rfl) (all_cons (by kernel_rfl) (all_cons (by kernel_rfl) all_nil)))))))))))
theorem q9 (p none odd : D) : ∀ long ∈ longL, ∀ bits ∈ bitsL, s__law_right_9 (RoK p none long odd bits (mt 34) (du 32) (.val (.fn 47))) = .next (RoK p none long odd bits (mt 35) (du 32) (.val (.fn 47))) := (all_cons (all_cons (by kernel_rfl) (all_cons (by kernel_rfl) (all_cons (by kernel_rfl) (all_cons (by kernel_rfl) (all_cons (by kernel_rfl) (all_cons (by kernel_rfl) (all_cons (by kernel_rfl) (all_cons (by kernel_rfl) (all_cons (by kernel_rfl) (all_cons (by kernel_rfl) (all_cons (by kernel_rfl) all_nil))))))))))) (all_cons (all_cons (by kernel_rfl) (all_cons (by kernel_rfl) (all_cons (by kernel_rfl) (all_cons (by kernel_rfl) (all_cons (by kernel_rfl) (all_cons (by kernel_rfl) (all_cons (by kernel_rfl) (all_cons (by kernel_rfl) (all_cons (by kernel_rfl) (all_cons (by kernel_rfl) (all_cons (by kernel_rfl) all_nil))))))))))) (all_cons (all_cons (by kernel_rfl) (all_cons (by kernel_rfl) (all_cons (by kernel_rfl) (all_cons (by kernel_rfl) (all_cons (by kernel_rfl) (all_cons (by kernel_rfl) (all_cons (by kernel_rfl) (all_cons (by kernel_rfl) (all_cons (by kernel_rfl) (all_cons (by kernel_rfl) (all_cons (by kernel_rfl) all_nil))))))))))) all_nil)))
theorem q10 (p none odd bits : D) : ∀ long ∈ longL, s__law_right_10 (RoK p none long odd bits (mt 35) (du 32) (.val (.fn 47))) = .next (RoK p none long odd bits (mt 36) (du 32) (.val (.fn 47))) := (all_cons (by kernel_rfl) (all_cons (by kernel_rfl) (all_cons (by kernel_rfl) all_nil)))
theorem q11 (p long odd bits : D) : ∀ none ∈ noneL, s__law_right_11 (RoK p none long odd bits (mt 36) (du 32) (.val (.fn 47))) = .next (RoK p none long odd bits (mt 37) (du 32) (.val (.fn 47))) := (all_cons (by kernel_rfl) (all_cons (by kernel_rfl) (all_cons (by kernel_rfl) (all_cons (by kernel_rfl) (all_cons (by kernel_rfl) (all_cons (by kernel_rfl) (all_cons (by kernel_rfl) (all_cons (by kernel_rfl) (all_cons (by kernel_rfl) (all_cons (by kernel_rfl) all_nil))))))))))
theorem q12 (p none odd bits : D) : ∀ long ∈ longL, s__law_right_12 (RoK p none long odd bits (mt 37) (du 32) (.val (.fn 47))) = .next (RoK p none long odd bits (mt 38) (du 32) (.val (.fn 47))) := (all_cons (by kernel_rfl) (all_cons (by kernel_rfl) (all_cons (by kernel_rfl) all_nil)))
theorem q14 (p none long odd bits : D) : s__law_right_14 (RoK p none long odd bits (mt 39) (du 32) (.val (.fn 47))) = .next (RoK p none long odd bits (mt 39) (du 39) (.val (.fn 47))) := by kernel_rfl
end Ev
set_option maxHeartbeats 0
/-! k83: the plain law. -/
namespace Ev
open PySem PySem.Spec PyProof.Rows L2 He
/-- a draw from a list -/
theorem pick {L : M} {r : Rho} {a b c : Int} {xs : List D} (hL : L r = .ok (.fresh (.lst xs)) r) (h0 : r[0]? = some (.own (pailD a b c))) (hx : xs ≠ []) (hl : xs.length < 2 ^ 60) (hc : 0 ≤ c ∧ c < 2 ^ 60) :
    ∃ d ∈ xs, ∃ a' c', mCall f__law_any_of (mCons (mVar 0) (mCons L (mArgs []))) r = .ok (.val d) (r.set 0 (.own (pailD a' b c'))) ∧ 0 ≤ c' ∧ c' ≤ c + 1 := by
  obtain ⟨d, hd, a', c', h1, h2, h3⟩ := any_of (a := a) (b := b) hx hl hc
  have hv : mVar 0 r = .ok (.slot 0) r := by
    unfold mVar
    rw [h0]
  exact ⟨d, hd, a', c', mCall_w rfl (mCons_ok hv (mCons_ok hL rfl)) rfl h0 h1, h2, h3⟩
def Rp (p : D) : Rho := [.own p, .no, .no, .no, .no, .no, .no, .no, .no, .no]

def L0 : M := (mLst (mCons (mVal .non) (mCons (mVal (.int 8)) (mCons (mTup (mCons (mVal (.int 3)) (mCons (mVal (.int 12)) (mArgs [])))) (mCons (mVal (.str "code")) (mCons mDct0 (mCons (mCall f_Code_init (mCons (mVal (.int 4)) (mCons (mTup (mCons (mVal (.int 3)) (mArgs []))) (mArgs [])))) (mCons (mCall f_Code_init (mCons (mVal (.int 4)) (mCons (mTup (mCons (mVal (.int 7)) (mCons (mVal (.int 11)) (mArgs [])))) (mArgs [])))) (mCons (mCall f_Code_init (mCons (mVal (.int 3)) (mCons (mTup (mCons (mVal (.int 3)) (mArgs []))) (mArgs [])))) (mCons (mCall f_Code_init (mCons (mVal (.int 4)) (mCons (mTup (mArgs [])) (mArgs [])))) (mCons (mLst (mCons (mCall f_Code_init (mCons (mVal (.int 2)) (mCons (mTup (mCons (mVal (.int 3)) (mArgs []))) (mArgs [])))) (mArgs []))) (mArgs []))))))))))))
def L1 : M := (mLst (mCons (mVal (.int 18)) (mCons (mVal (.int 20)) (mCons (mVal (.int 24)) (mArgs [])))))
def L2 : M := (mLst (mCons (mVal .non) (mCons (mOp oNeg [(mVal (.int 1))]) (mCons (mVal (.int 16)) (mCons (mVal (.bl true)) (mCons (mVal (.str "1")) (mCons (mTup (mCons (mVal (.int 1)) (mArgs []))) (mCons (mOp oPow [(mVal (.int 10)), (mVal (.int 60))]) (mCons (mLst (mArgs [])) (mArgs []))))))))))
def L3 : M := (mLst (mCons (mVal .non) (mCons (mTup (mArgs [])) (mCons (mTup (mCons (mVal (.int 0)) (mArgs []))) (mCons (mTup (mCons (mVal (.int 0)) (mCons (mVal (.int 1)) (mCons (mVal (.int 1)) (mArgs []))))) (mCons (mLst (mCons (mVal (.int 0)) (mCons (mVal (.int 1)) (mArgs [])))) (mCons (mTup (mCons (mVal (.int 0)) (mCons (mVal (.int 2)) (mArgs [])))) (mCons (mTup (mCons (mVal (.int 0)) (mCons (mVal (.bl true)) (mArgs [])))) (mCons (mTup (mCons (mVal (.int 0)) (mCons (mOp oNeg [(mVal (.int 1))]) (mArgs [])))) (mCons (mTup (mCons (mVal .non) (mCons (mVal (.int 0)) (mArgs [])))) (mCons (mVal (.str "01")) (mCons (mVal (.int 3)) (mArgs [])))))))))))))
theorem right_ok {a b c : Int} (hc : 0 ≤ c ∧ c < 2 ^ 50) : ∃ a' c', f__law_right.run [pailD a b c] = .ok (.val (.bl true)) (pailD a' b c') ∧ 0 ≤ c' ∧ c' ≤ c + 10 := by
  have c0 := hc.1
  have c1 := hc.2
  obtain ⟨none, hn, a1, k1, e1, l1, u1⟩ := pick (L := L0) (r := Rp (pailD a b c)) (xs := noneL) (by kernel_rfl) rfl (by simp [noneL]) (by decide) ⟨by omega, by omega⟩
  have t0 : s__law_right_0 (Rp (pailD a b c)) = .next [.own (pailD a1 b k1), .val none, .no, .no, .no, .no, .no, .no, .no, .no] := setV e1
  obtain ⟨n, hn2, a2, k2, e2, l2, u2⟩ := pick (L := L1) (r := [.own (pailD a1 b k1), .val none, .no, .no, .no, .no, .no, .no, .no, .no]) (xs := [.int 18, .int 20, .int 24]) (by kernel_rfl) rfl (by simp) (by decide) ⟨by omega, by omega⟩
  unfold L1 at e2
  have t1 : ∃ long ∈ longL, s__law_right_1 [.own (pailD a1 b k1), .val none, .no, .no, .no, .no, .no, .no, .no, .no] = .next [.own (pailD a2 b k2), .val none, .val four, .val long, .no, .no, .no, .no, .no, .no] := by
    have key : ∀ long, f__law_plain.run [n] = .ok (.val long) .non → s__law_right_1 [.own (pailD a1 b k1), .val none, .no, .no, .no, .no, .no, .no, .no, .no] = .next [.own (pailD a2 b k2), .val none, .val four, .val long, .no, .no, .no, .no, .no, .no] := fun long hl => by
      have h4 : mCall f__law_plain (mCons (mVal (.int 4)) (mArgs [])) [.own (pailD a1 b k1), .val none, .no, .no, .no, .no, .no, .no, .no, .no] = .ok (.val four) [.own (pailD a1 b k1), .val none, .no, .no, .no, .no, .no, .no, .no, .no] := mCall_n rfl (mCons_ok rfl rfl) rfl (by kernel_rfl : f__law_plain.run [.int 4] = .ok (.val four) .non)
      have hp := mCall_n (f := f__law_plain) rfl (mCons_ok e2 (show mArgs [] _ = .ok [] _ from rfl)) rfl hl
      unfold s__law_right_1 sUnp mTup mColl
      rw [mCons_ok h4 (mCons_ok hp (show mArgs [] _ = .ok [] _ from rfl))]
      rfl
    rcases List.mem_cons.mp hn2 with rfl | hn2
    · exact ⟨_, .head _, key _ (by kernel_rfl)⟩
    rcases List.mem_cons.mp hn2 with rfl | hn2
    · exact ⟨_, .tail _ (.head _), key _ (by kernel_rfl)⟩
    rcases List.mem_cons.mp hn2 with rfl | hn2
    · exact ⟨_, .tail _ (.tail _ (.head _)), key _ (by kernel_rfl)⟩
    cases hn2
  obtain ⟨long, hlong, t1⟩ := t1
  obtain ⟨odd, hodd, a3, k3, e3, l3, u3⟩ := pick (L := L2) (r := [.own (pailD a2 b k2), .val none, .val four, .val long, .no, .no, .no, .no, .no, .no]) (xs := oddL) (by kernel_rfl) rfl (by simp [oddL]) (by decide) ⟨by omega, by omega⟩
  have t2 : s__law_right_2 [.own (pailD a2 b k2), .val none, .val four, .val long, .no, .no, .no, .no, .no, .no] = .next [.own (pailD a3 b k3), .val none, .val four, .val long, .val odd, .no, .no, .no, .no, .no] := setV e3
  obtain ⟨bits, hbits, a4, k4, e4, l4, u4⟩ := pick (L := L3) (r := [.own (pailD a3 b k3), .val none, .val four, .val long, .val odd, .no, .no, .no, .no, .no]) (xs := bitsL) (by kernel_rfl) rfl (by simp [bitsL]) (by decide) ⟨by omega, by omega⟩
  have t3 : s__law_right_3 [.own (pailD a3 b k3), .val none, .val four, .val long, .val odd, .no, .no, .no, .no, .no] = .next [.own (pailD a4 b k4), .val none, .val four, .val long, .val odd, .val bits, .no, .no, .no, .no] := setV e4
  have t4 : s__law_right_4 [.own (pailD a4 b k4), .val none, .val four, .val long, .val odd, .val bits, .no, .no, .no, .no] = .next (RoK (pailD a4 b k4) none long odd bits (mt 0) (du 0) .no) := by kernel_rfl
  have t5 : s__law_right_5 (RoK (pailD a4 b k4) none long odd bits (mt 0) (du 0) .no) = .next (RoK (pailD a4 b k4) none long odd bits (mt 24) (du 24) (.val (.fn 48))) := by
    unfold s__law_right_5 sFor
    rw [bindS_ok (show mIter _ _ = .ok [.fn 37, .fn 38, .fn 40, .fn 42, .fn 45, .fn 48] _ from rfl)]
    rw [forL_cons (r1 := RoK (pailD a4 b k4) none long odd bits (mt 0) (du 0) (.val (.fn 37))) (r2 := RoK (pailD a4 b k4) none long odd bits (mt 4) (du 4) (.val (.fn 37))) rfl (by unfold s__law_right_5_b; rw [sSeq_next (q5_0_0 _ _ _ _ none hn), sSeq_next (q5_0_1 _ _ _ _ odd hodd), sSeq_next (q5_0_2 _ _ _ _ long hlong), sSeq_next (q5_0_3 _ _ _ _ long hlong), sSeq_next (q5_0_4 _ _ _ _ _)]; rfl)]
    rw [forL_cons (r1 := RoK (pailD a4 b k4) none long odd bits (mt 4) (du 4) (.val (.fn 38))) (r2 := RoK (pailD a4 b k4) none long odd bits (mt 8) (du 8) (.val (.fn 38))) rfl (by unfold s__law_right_5_b; rw [sSeq_next (q5_1_0 _ _ _ _ none hn), sSeq_next (q5_1_1 _ _ _ _ odd hodd), sSeq_next (q5_1_2 _ _ _ _ long hlong), sSeq_next (q5_1_3 _ _ _ _ long hlong), sSeq_next (q5_1_4 _ _ _ _ _)]; rfl)]
    rw [forL_cons (r1 := RoK (pailD a4 b k4) none long odd bits (mt 8) (du 8) (.val (.fn 40))) (r2 := RoK (pailD a4 b k4) none long odd bits (mt 12) (du 12) (.val (.fn 40))) rfl (by unfold s__law_right_5_b; rw [sSeq_next (q5_2_0 _ _ _ _ none hn), sSeq_next (q5_2_1 _ _ _ _ odd hodd), sSeq_next (q5_2_2 _ _ _ _ long hlong), sSeq_next (q5_2_3 _ _ _ _ long hlong), sSeq_next (q5_2_4 _ _ _ _ _)]; rfl)]
    rw [forL_cons (r1 := RoK (pailD a4 b k4) none long odd bits (mt 12) (du 12) (.val (.fn 42))) (r2 := RoK (pailD a4 b k4) none long odd bits (mt 16) (du 16) (.val (.fn 42))) rfl (by unfold s__law_right_5_b; rw [sSeq_next (q5_3_0 _ _ _ _ none hn), sSeq_next (q5_3_1 _ _ _ _ odd hodd), sSeq_next (q5_3_2 _ _ _ _ long hlong), sSeq_next (q5_3_3 _ _ _ _ long hlong), sSeq_next (q5_3_4 _ _ _ _ _)]; rfl)]
    rw [forL_cons (r1 := RoK (pailD a4 b k4) none long odd bits (mt 16) (du 16) (.val (.fn 45))) (r2 := RoK (pailD a4 b k4) none long odd bits (mt 20) (du 20) (.val (.fn 45))) rfl (by unfold s__law_right_5_b; rw [sSeq_next (q5_4_0 _ _ _ _ none hn), sSeq_next (q5_4_1 _ _ _ _ odd hodd), sSeq_next (q5_4_2 _ _ _ _ long hlong), sSeq_next (q5_4_3 _ _ _ _ long hlong), sSeq_next (q5_4_4 _ _ _ _ _)]; rfl)]
    rw [forL_cons (r1 := RoK (pailD a4 b k4) none long odd bits (mt 20) (du 20) (.val (.fn 48))) (r2 := RoK (pailD a4 b k4) none long odd bits (mt 24) (du 24) (.val (.fn 48))) rfl (by unfold s__law_right_5_b; rw [sSeq_next (q5_5_0 _ _ _ _ none hn), sSeq_next (q5_5_1 _ _ _ _ odd hodd), sSeq_next (q5_5_2 _ _ _ _ long hlong), sSeq_next (q5_5_3 _ _ _ _ long hlong), sSeq_next (q5_5_4 _ _ _ _ _)]; rfl)]
    rfl
  have t6 : s__law_right_6 (RoK (pailD a4 b k4) none long odd bits (mt 24) (du 24) (.val (.fn 48))) = .next (RoK (pailD a4 b k4) none long odd bits (mt 32) (du 32) (.val (.fn 47))) := by
    unfold s__law_right_6 sFor
    rw [bindS_ok (show mIter _ _ = .ok [.fn 43, .fn 44, .fn 46, .fn 47] _ from rfl)]
    rw [forL_cons (r1 := RoK (pailD a4 b k4) none long odd bits (mt 24) (du 24) (.val (.fn 43))) (r2 := RoK (pailD a4 b k4) none long odd bits (mt 26) (du 26) (.val (.fn 43))) rfl (by unfold s__law_right_6_b; rw [sSeq_next (q6_0_0 _ _ _ _ none hn), sSeq_next (q6_0_1 _ _ _ _ long hlong), sSeq_next (q6_0_2 _ _ _ _ _)]; rfl)]
    rw [forL_cons (r1 := RoK (pailD a4 b k4) none long odd bits (mt 26) (du 26) (.val (.fn 44))) (r2 := RoK (pailD a4 b k4) none long odd bits (mt 28) (du 28) (.val (.fn 44))) rfl (by unfold s__law_right_6_b; rw [sSeq_next (q6_1_0 _ _ _ _ none hn), sSeq_next (q6_1_1 _ _ _ _ long hlong), sSeq_next (q6_1_2 _ _ _ _ _)]; rfl)]
    rw [forL_cons (r1 := RoK (pailD a4 b k4) none long odd bits (mt 28) (du 28) (.val (.fn 46))) (r2 := RoK (pailD a4 b k4) none long odd bits (mt 30) (du 30) (.val (.fn 46))) rfl (by unfold s__law_right_6_b; rw [sSeq_next (q6_2_0 _ _ _ _ none hn), sSeq_next (q6_2_1 _ _ _ _ long hlong), sSeq_next (q6_2_2 _ _ _ _ _)]; rfl)]
    rw [forL_cons (r1 := RoK (pailD a4 b k4) none long odd bits (mt 30) (du 30) (.val (.fn 47))) (r2 := RoK (pailD a4 b k4) none long odd bits (mt 32) (du 32) (.val (.fn 47))) rfl (by unfold s__law_right_6_b; rw [sSeq_next (q6_3_0 _ _ _ _ none hn), sSeq_next (q6_3_1 _ _ _ _ long hlong), sSeq_next (q6_3_2 _ _ _ _ _)]; rfl)]
    rfl
  obtain ⟨w, hw, a5, k5, e5, l5, u5⟩ := pick (L := mLst (mCons (mVal (.int 0)) (mCons (mVal (.int 3)) (mCons (mVal (.int 5)) (mCons (mVal (.int 15)) (mArgs [])))))) (r := RoK (pailD a4 b k4) none long odd bits (mt 38) (du 32) (.val (.fn 47))) (xs := [.int 0, .int 3, .int 5, .int 15]) (by kernel_rfl) rfl (by simp) (by decide) ⟨by omega, by omega⟩
  have t13 : s__law_right_13 (RoK (pailD a4 b k4) none long odd bits (mt 38) (du 32) (.val (.fn 47))) = .next (RoK (pailD a5 b k5) none long odd bits (mt 39) (du 32) (.val (.fn 47))) := by
    have e5' : mCall f__law_any_of (mCons (mVar 0) (mCons (mLst (mCons (mVal (.int 0)) (mCons (mVal (.int 3)) (mCons (mVal (.int 5)) (mCons (mVal (.int 15)) (mArgs [])))))) (mArgs []))) (RoK (pailD a4 b k4) none long odd bits (mt 38) (du 32) (.val (.fn 47))) = .ok (.val w) (RoK (pailD a5 b k5) none long odd bits (mt 38) (du 32) (.val (.fn 47))) := e5
    have hx : f_parent_counts.run [four, w] = .exn ⟨3, Option.none⟩ .non := by
      refine (show ∀ w ∈ ([.int 0, .int 3, .int 5, .int 15] : List D), f_parent_counts.run [four, w] = .exn ⟨3, Option.none⟩ .non from ?_) w hw
      exact all_cons (by kernel_rfl) (all_cons (by kernel_rfl) (all_cons (by kernel_rfl) (all_cons (by kernel_rfl) all_nil)))
    have hm : mCall f_parent_counts (mCons (mVar 2) (mCons (mCall f__law_any_of (mCons (mVar 0) (mCons (mLst (mCons (mVal (.int 0)) (mCons (mVal (.int 3)) (mCons (mVal (.int 5)) (mCons (mVal (.int 15)) (mArgs [])))))) (mArgs [])))) (mArgs []))) (RoK (pailD a4 b k4) none long odd bits (mt 38) (du 32) (.val (.fn 47))) = .exn ⟨3, Option.none⟩ (RoK (pailD a5 b k5) none long odd bits (mt 38) (du 32) (.val (.fn 47))) := by
      exact mCall_x rfl (mCons_ok (m := mVar 2) (o := .val four) (show mVar 2 (RoK (pailD a4 b k4) none long odd bits (mt 38) (du 32) (.val (.fn 47))) = .ok (.val four) (RoK (pailD a4 b k4) none long odd bits (mt 38) (du 32) (.val (.fn 47))) from rfl) (mCons_ok e5' (show mArgs [] _ = .ok [] _ from rfl))) rfl hx
    unfold s__law_right_13 sExpr mAppend mMet
    rw [hm]
    kernel_rfl
  have t14 : ∀ p, s__law_right_14 (RoK p none long odd bits (mt 39) (du 32) (.val (.fn 47))) = .next (RoK p none long odd bits (mt 39) (du 39) (.val (.fn 47))) := fun p => q14 _ _ _ _ _
  have t15 : ∀ p, ∃ r, s__law_right_15 (RoK p none long odd bits (mt 39) (du 39) (.val (.fn 47))) = .ret (.val (.bl true)) (.own p :: r) := fun p => by
    refine (show ∀ odd ∈ oddL, ∃ r, s__law_right_15 (RoK p none long odd bits (mt 39) (du 39) (.val (.fn 47))) = .ret (.val (.bl true)) (.own p :: r) from ?_) odd hodd
    exact (all_cons (⟨[.val none, .val four, .val long, .val (oddL.getD 0 .non), .val bits, .own (.lst (mt 39)), .val (.lst (du 39)), .val (.fn 47), .no], by kernel_rfl⟩) (all_cons (⟨[.val none, .val four, .val long, .val (oddL.getD 1 .non), .val bits, .own (.lst (mt 39)), .val (.lst (du 39)), .val (.fn 47), .no], by kernel_rfl⟩) (all_cons (⟨[.val none, .val four, .val long, .val (oddL.getD 2 .non), .val bits, .own (.lst (mt 39)), .val (.lst (du 39)), .val (.fn 47), .no], by kernel_rfl⟩) (all_cons (⟨[.val none, .val four, .val long, .val (oddL.getD 3 .non), .val bits, .own (.lst (mt 39)), .val (.lst (du 39)), .val (.fn 47), .no], by kernel_rfl⟩) (all_cons (⟨[.val none, .val four, .val long, .val (oddL.getD 4 .non), .val bits, .own (.lst (mt 39)), .val (.lst (du 39)), .val (.fn 47), .no], by kernel_rfl⟩) (all_cons (⟨[.val none, .val four, .val long, .val (oddL.getD 5 .non), .val bits, .own (.lst (mt 39)), .val (.lst (du 39)), .val (.fn 47), .no], by kernel_rfl⟩) (all_cons (⟨[.val none, .val four, .val long, .val (oddL.getD 6 .non), .val bits, .own (.lst (mt 39)), .val (.lst (du 39)), .val (.fn 47), .no], by kernel_rfl⟩) (all_cons (⟨[.val none, .val four, .val long, .val (oddL.getD 7 .non), .val bits, .own (.lst (mt 39)), .val (.lst (du 39)), .val (.fn 47), .no], by kernel_rfl⟩) all_nil))))))))
  obtain ⟨rr, t15⟩ := t15 (pailD a5 b k5)
  refine ⟨a5, k5, ?_, l5, by omega⟩
  show endB true (s__law_right (Rp (pailD a b c))) = _
  have e : s__law_right (Rp (pailD a b c)) = .ret (.val (.bl true)) (.own (pailD a5 b k5) :: rr) := by
    unfold s__law_right
    rw [sSeq_next t0, sSeq_next t1, sSeq_next t2, sSeq_next t3, sSeq_next t4, sSeq_next t5, sSeq_next t6, sSeq_next (q7 _ _ _ _ none hn), sSeq_next (q8 _ _ _ _ bits hbits), sSeq_next (q9 _ _ _ long hlong bits hbits), sSeq_next (q10 _ _ _ _ long hlong), sSeq_next (q11 _ _ _ _ none hn), sSeq_next (q12 _ _ _ _ long hlong), sSeq_next t13, sSeq_next (t14 _)]
    unfold sSeq
    rw [t15]
  rw [e]
  rfl
end Ev
set_option maxHeartbeats 0
/-! k83: the plain law. -/
namespace Ev
open PySem PySem.Spec PyProof.Rows L2 He
theorem right_call {r : Rho} {a b c : Int} (h : r[2]? = some (.own (pailD a b c))) (hc : 0 ≤ c ∧ c < 2 ^ 50) : ∃ a' c', mTruth (mCall f__law_right (mCons (mVar 2) (mArgs []))) r = .ok true (r.set 2 (.own (pailD a' b c'))) ∧ 0 ≤ c' ∧ c' ≤ c + 10 := by
  obtain ⟨a', c', h1, h2, h3⟩ := right_ok (a := a) (b := b) hc
  have hv : mVar 2 r = .ok (.slot 2) r := by
    unfold mVar
    rw [h]
  refine ⟨a', c', ?_, h2, h3⟩
  unfold mTruth
  rw [mCall_w (ma := mCons (mVar 2) (mArgs [])) rfl (mCons_ok hv (show mArgs [] _ = .ok [] _ from rfl)) rfl h h1]
  rfl
theorem turn_ok {xs : List Int} {spot : Int} {s : Sl} (h : 0 ≤ spot ∧ spot < 4) : ∃ s', s_law_0_b [.val (.scr (xs.map D.int)), .val (.int spot), s, .no, .no] = .next [.val (.scr (xs.map D.int)), .val (.int spot), s', .no, .no] := by
  obtain ⟨a, b, e⟩ := (pail_res (ns := xs) h).get
  have t0 : s_law_0_0 [.val (.scr (xs.map D.int)), .val (.int spot), s, .no, .no] = .next [.val (.scr (xs.map D.int)), .val (.int spot), .own (pailD a b 0), .no, .no] := by
    unfold s_law_0_0 sSet
    rw [mCall_n (ma := mCons (mVar 0) (mCons (mVar 1) (mArgs []))) (r := [.val (.scr (xs.map D.int)), .val (.int spot), s, .no, .no]) (r2 := [.val (.scr (xs.map D.int)), .val (.int spot), s, .no, .no]) (os := [.val (.scr (xs.map D.int)), .val (.int spot)]) rfl rfl rfl e]
    rfl
  obtain ⟨a1, c1, e1, l1, u1⟩ := right_call (r := [.val (.scr (xs.map D.int)), .val (.int spot), .own (pailD a b 0), .no, .no]) rfl ⟨by omega, by omega⟩
  obtain ⟨a2, c2, e2, l2, u2⟩ := right_call (r := [.val (.scr (xs.map D.int)), .val (.int spot), .own (pailD a1 b c1), .no, .no]) rfl ⟨by omega, by omega⟩
  refine ⟨.own (pailD a2 b c2), ?_⟩
  unfold s_law_0_b
  rw [sSeq_next t0]
  have t1 : s_law_0_1 [.val (.scr (xs.map D.int)), .val (.int spot), .own (pailD a b 0), .no, .no] = .next [.val (.scr (xs.map D.int)), .val (.int spot), .own (pailD a2 b c2), .no, .no] := by
    have e1' : mTruth (mCall f__law_right (mCons (mVar 2) (mArgs []))) [.val (.scr (xs.map D.int)), .val (.int spot), .own (pailD a b 0), .no, .no] = .ok true [.val (.scr (xs.map D.int)), .val (.int spot), .own (pailD a1 b c1), .no, .no] := e1
    have e2' : mTruth (mCall f__law_right (mCons (mVar 2) (mArgs []))) [.val (.scr (xs.map D.int)), .val (.int spot), .own (pailD a1 b c1), .no, .no] = .ok true [.val (.scr (xs.map D.int)), .val (.int spot), .own (pailD a2 b c2), .no, .no] := e2
    unfold s_law_0_1 sIf mOr mNot
    simp only [e1', e2', bindR, bindS]
    rfl
  rw [sSeq_next t1]
  rfl
theorem fR1_ok {j : Int} (h : 0 ≤ j ∧ j ≤ 1000) : fR1 [.int j] = some (rngL1 0 j.toNat) := by
  have e : in62 j = true := by
    unfold in62
    rw [decide_eq_true (show -(2 ^ 62 : Int) ≤ j by omega), decide_eq_true (show j < (2 ^ 62 : Int) by omega)]
    rfl
  show (if in62 j = true then some (rngL1 0 j.toNat) else none) = _
  rw [if_pos e]
theorem src_ok {ns : List Int} : ∃ m : Nat, m ≤ 4 ∧ srcD (mArgs [(mOp oMax [(mVal (.int 1)), (mOp oMin [(mVal (.int 4)), (mOp (one pLen) [(mVar 0)])])])]) fR1 [.val (.scr (ns.map D.int)), .no, .no, .no, .no] = .ok (rngL1 0 m) [.val (.scr (ns.map D.int)), .no, .no, .no, .no] := by
  have e : ∃ j : Int, mArgs [(mOp oMax [(mVal (.int 1)), (mOp oMin [(mVal (.int 4)), (mOp (one pLen) [(mVar 0)])])])] [.val (.scr (ns.map D.int)), .no, .no, .no, .no] = .ok [.val (.int j)] [.val (.scr (ns.map D.int)), .no, .no, .no, .no] ∧ 0 ≤ j ∧ j ≤ 4 := by
    by_cases h4 : (ns.length : Int) < 4
    · by_cases h1 : (1 : Int) < (ns.length : Int)
      · refine ⟨ns.length, ?_, by omega, by omega⟩
        simp [mArgs, bindR, mOp, mVal, mVar, noFresh, opt, peeks, peek, sat, one, pLen, LenD, oMin, oMax, orD, two, pMin2, pMax2, h4, h1]
      · refine ⟨1, ?_, by omega, by omega⟩
        simp [mArgs, bindR, mOp, mVal, mVar, noFresh, opt, peeks, peek, sat, one, pLen, LenD, oMin, oMax, orD, two, pMin2, pMax2, h4, h1]
    · refine ⟨4, ?_, by omega, by omega⟩
      simp [mArgs, bindR, mOp, mVal, mVar, noFresh, opt, peeks, peek, sat, one, pLen, LenD, oMin, oMax, orD, two, pMin2, pMax2, h4]
  obtain ⟨j, e, h0, h4⟩ := e
  refine ⟨j.toNat, by omega, ?_⟩
  unfold srcD
  rw [e]
  show opt (fR1 [.int j]) _ = _
  rw [fR1_ok ⟨h0, by omega⟩]
  rfl
theorem loop_ok {ns : List Int} {m : Nat} (hm : m ≤ 4) : ∃ s1 s2, forL (tfName 1) s_law_0_b (rngL1 0 m) [.val (.scr (ns.map D.int)), .no, .no, .no, .no] = .next [.val (.scr (ns.map D.int)), s1, s2, .no, .no] := by
  obtain ⟨r2, h1, s1, s2, rfl⟩ := forL_inv (tf := tfName 1) (body := s_law_0_b) (fun r => ∃ s1 s2, r = [.val (.scr (ns.map D.int)), s1, s2, .no, .no]) (fun d => ∃ spot : Int, d = .int spot ∧ 0 ≤ spot ∧ spot < 4) (fun d r hd hr => by
    obtain ⟨spot, rfl, h0, h4⟩ := hd
    obtain ⟨s1, s2, rfl⟩ := hr
    obtain ⟨s', e⟩ := turn_ok (xs := ns) (s := s2) ⟨h0, h4⟩
    exact ⟨_, _, rfl, e, _, _, rfl⟩) (rngL1 0 m) (fun d hd => by
    obtain ⟨i, hi, rfl⟩ := List.mem_map.mp hd
    have := List.mem_range.mp hi
    exact ⟨_, rfl, by omega, by omega⟩) [.val (.scr (ns.map D.int)), .no, .no, .no, .no] ⟨_, _, rfl⟩
  exact ⟨s1, s2, h1⟩
theorem mAndV_t {a b : M} {r r1 : Rho} (h : a r = .ok (.val (.bl true)) r1) : mAndV a b r = b r1 := by
  unfold mAndV mBool
  rw [h]
  rfl
def sixteen : D := .obj 6 [.tup [.int 49152, .int 12288, .int 3072, .int 768, .int 192, .int 48, .int 12, .int 3], .int 16]
theorem y1 : f_leader.run [sixteen, .int 65534] = .ok (.val (.int 1)) .non := by kernel_rfl
theorem y2 : ∃ o out, f_parent_counts.run [sixteen, .int 1] = .ok o out := okF.get (by kernel_rfl)
theorem y3 : ∃ o out, f_word_with.run [sixteen, .tup (List.replicate 8 (.int 1))] = .ok o out := okF.get (by kernel_rfl)
theorem t1 (z s1 s2 : Sl) : s_law_1 [z, s1, s2, .no, .no] = .next [z, s1, s2, .val sixteen, .no] := by kernel_rfl
theorem sSeq_ret {s t : MS} {r r1 : Rho} {o : Opd} (h : s r = .ret o r1) : sSeq s t r = .ret o r1 := by
  unfold sSeq
  rw [h]
theorem runB_eq {wr : Bool} {np n : Nat} {b : MS} {ds : List D} (h : ds.length = np ∧ np ≤ n) : runB wr np n b ds = endB wr (b (startR wr n ds)) := if_pos h
theorem t2 (z s1 s2 : Sl) : s_law_2 [z, s1, s2, .val sixteen, .no] = .next [z, s1, s2, .val sixteen, .own (.lst [.tup [.str "fine"]])] := by
  have h : mCall f_leader (mCons (mVar 3) (mCons (mOp oSub [(mOp oShl [(mVal (.int 1)), (mVal (.int 16))]), (mVal (.int 2))]) (mArgs []))) [z, s1, s2, .val sixteen, .no] = .ok (.val (.int 1)) [z, s1, s2, .val sixteen, .no] := mCall_n (os := [.val sixteen, .val (.int 65534)]) (ds := [sixteen, .int 65534]) rfl (by kernel_rfl) rfl y1
  unfold s_law_2 sSet mLst mColl
  rw [mCons_ok (mMet_ok h) (show mArgs [] _ = .ok [] _ from rfl)]
  rfl
theorem t3 (z s1 s2 : Sl) : s_law_3 [z, s1, s2, .val sixteen, .own (.lst [.tup [.str "fine"]])] = .next [z, s1, s2, .val sixteen, .own (.lst [.tup [.str "fine"], .tup [.str "fine"]])] := by
  obtain ⟨o2, x2, y2⟩ := y2
  have h : mCall f_parent_counts (mCons (mVar 3) (mCons (mVal (.int 1)) (mArgs []))) [z, s1, s2, .val sixteen, .own (.lst [.tup [.str "fine"]])] = .ok o2 [z, s1, s2, .val sixteen, .own (.lst [.tup [.str "fine"]])] := mCall_n (os := [.val sixteen, .val (.int 1)]) (ds := [sixteen, .int 1]) rfl (by kernel_rfl) rfl y2
  exact sExpr_ok (mAppend_ok (ds := [.tup [.str "fine"]]) rfl (mMet_ok h) rfl rfl (show 1 < sizeLine by decide))
theorem t4 (z s1 s2 : Sl) : s_law_4 [z, s1, s2, .val sixteen, .own (.lst [.tup [.str "fine"], .tup [.str "fine"]])] = .next [z, s1, s2, .val sixteen, .own (.lst [.tup [.str "fine"], .tup [.str "fine"], .tup [.str "fine"]])] := by
  obtain ⟨o3, x3, y3⟩ := y3
  have h : mCall f_word_with (mCons (mVar 3) (mCons (mOp oMul [(mTup (mCons (mVal (.int 1)) (mArgs []))), (mVal (.int 8))]) (mArgs []))) [z, s1, s2, .val sixteen, .own (.lst [.tup [.str "fine"], .tup [.str "fine"]])] = .ok o3 [z, s1, s2, .val sixteen, .own (.lst [.tup [.str "fine"], .tup [.str "fine"]])] := mCall_n (os := [.val sixteen, .val (.tup (List.replicate 8 (.int 1)))]) (ds := [sixteen, .tup (List.replicate 8 (.int 1))]) rfl (by kernel_rfl) rfl y3
  exact sExpr_ok (mAppend_ok (ds := [.tup [.str "fine"], .tup [.str "fine"]]) rfl (mMet_ok h) rfl rfl (show 2 < sizeLine by decide))
theorem t5 (z s1 s2 : Sl) : s_law_5 [z, s1, s2, .val sixteen, .own (.lst [.tup [.str "fine"], .tup [.str "fine"], .tup [.str "fine"]])] = .ret (.val (.bl true)) [z, s1, s2, .val sixteen, .own (.lst [.tup [.str "fine"], .tup [.str "fine"], .tup [.str "fine"]])] := by
  have c : mCall f_leader (mCons (mVar 3) (mCons (mOp oSub [(mOp oShl [(mVal (.int 1)), (mVal (.int 16))]), (mVal (.int 2))]) (mArgs []))) [z, s1, s2, .val sixteen, .own (.lst [.tup [.str "fine"], .tup [.str "fine"], .tup [.str "fine"]])] = .ok (.val (.int 1)) [z, s1, s2, .val sixteen, .own (.lst [.tup [.str "fine"], .tup [.str "fine"], .tup [.str "fine"]])] := mCall_n (os := [.val sixteen, .val (.int 65534)]) (ds := [sixteen, .int 65534]) rfl (by kernel_rfl) rfl y1
  have q : ∀ m : M, m [z, s1, s2, .val sixteen, .own (.lst [.tup [.str "fine"], .tup [.str "fine"], .tup [.str "fine"]])] = .ok (.val (.int 1)) [z, s1, s2, .val sixteen, .own (.lst [.tup [.str "fine"], .tup [.str "fine"], .tup [.str "fine"]])] → mOp oEq [m, (mVal (.int 1))] [z, s1, s2, .val sixteen, .own (.lst [.tup [.str "fine"], .tup [.str "fine"], .tup [.str "fine"]])] = .ok (.val (.bl true)) [z, s1, s2, .val sixteen, .own (.lst [.tup [.str "fine"], .tup [.str "fine"], .tup [.str "fine"]])] := fun m hm => by
    unfold mOp
    simp only [mArgs, hm, bindR]
    kernel_rfl
  have b1 : mOp oEq [(mVar 4), (mOp oMul [(mLst (mCons (mTup (mCons (mVal (.str "fine")) (mArgs []))) (mArgs []))), (mVal (.int 3))])] [z, s1, s2, .val sixteen, .own (.lst [.tup [.str "fine"], .tup [.str "fine"], .tup [.str "fine"]])] = .ok (.val (.bl true)) [z, s1, s2, .val sixteen, .own (.lst [.tup [.str "fine"], .tup [.str "fine"], .tup [.str "fine"]])] := by kernel_rfl
  have b2 : mOp oEq [(mVal (.int 16)), (mVal (.int 16))] [z, s1, s2, .val sixteen, .own (.lst [.tup [.str "fine"], .tup [.str "fine"], .tup [.str "fine"]])] = .ok (.val (.bl true)) [z, s1, s2, .val sixteen, .own (.lst [.tup [.str "fine"], .tup [.str "fine"], .tup [.str "fine"]])] := by kernel_rfl
  unfold s_law_5 sRet
  rw [mAndV_t b1, mAndV_t b2, q _ c]
  rfl
theorem plain : ∀ ns : List Int, ns.length ≤ 63 → (∀ z ∈ ns, Builtin.Int.intBits z ≤ 1048576) → ∃ out, f_law.run [.scr (ns.map D.int)] = .ok (.val (.bl true)) out := by
  intro ns hl _
  obtain ⟨m, hm, hs⟩ := src_ok (ns := ns)
  obtain ⟨s1, s2, h1⟩ := loop_ok (ns := ns) hm
  have t0 : s_law_0 [.val (.scr (ns.map D.int)), .no, .no, .no, .no] = .next [.val (.scr (ns.map D.int)), s1, s2, .no, .no] := by
    unfold s_law_0 sFor
    rw [bindS_ok hs]
    exact h1
  refine ⟨.non, ?_⟩
  have e : s_law [.val (.scr (ns.map D.int)), .no, .no, .no, .no] = .ret (.val (.bl true)) [.val (.scr (ns.map D.int)), s1, s2, .val sixteen, .own (.lst [.tup [.str "fine"], .tup [.str "fine"], .tup [.str "fine"]])] := by
    unfold s_law
    rw [sSeq_next t0, sSeq_next (t1 _ _ _), sSeq_next (t2 _ _ _), sSeq_next (t3 _ _ _), sSeq_next (t4 _ _ _), sSeq_ret (t5 _ _ _)]
  have e2 : f_law.run [.scr (ns.map D.int)] = endB false (s_law [.val (.scr (ns.map D.int)), .no, .no, .no, .no]) := (runB_eq (wr := false) (np := 1) (n := 5) (b := s_law) (ds := [.scr (ns.map D.int)]) ⟨rfl, by decide⟩)
  rw [e2, e]
  rfl
end Ev
set_option maxRecDepth 100000 in
set_option maxHeartbeats 8000000 in
theorem PySem.Challenge.cw_codegrates_k83_errors_of_cosets_holds : PySem.Challenge.rw_codegrates_k83_errors_of_cosets.Holds := by
  exact Ev.holds Ev.plain
