import PyProof.Rows.All
import Wide.All
import OpenK.AllK
import Wide.FinOn
import HandS.ForMost
import HandS.Exc
import KE.DataEq
import HandS.Wide
import HandS.TupAny
import HandS.TupLe
import HandS.IsInst
import PyProof.ReprRoads
import HandS.Flow
import HandS.HeadEnd
import HandS.HeadHook2
import HandS.HeadHook4
import HandS.Head2
import HandS.Conv
import PyProof.Rows.ListStrD
import HandS.Style
import KE.Datum
import PyProof.StrLawsRepr
import HandS.Codes
import HandS.Defaults
import PySem.Challenge.RW_putinproofs_k19_names_apart
import KE.KStateDown
import HandS.Head0
import HandS.Head1
import HandS.HeadHook1
set_option Elab.async false
set_option linter.all false
set_option maxRecDepth 100000
set_option maxHeartbeats 4000000
/-! The tree layer: values are trees, only mutable objects have a place. -/
namespace DL
open PySem PySem.Spec PyProof.Rows L2

/-- a value: tuples are trees, rl is a list that nobody writes, ref a mutable object (or a class, a def) -/
inductive D where
  | non | bl (b : Bool) | int (i : Int) | str (s : Str) | tup (xs : List D) | rl (xs : List D) | ref (a : Addr) | ty (n : String)
instance : Inhabited D := ⟨.non⟩

/-- a list that is only read: frozen, or of the written part -/
def RdL (K : PySem.W.Frag) (H : Hp) (a : Addr) (xs : List V) : Prop :=
  (∃ o, H a = some (.frz o (.lst xs))) ∨
    ∃ (o : Obj) (its : Array Value) (n : Nat), K.lookup a = some o ∧ o.cls = .type "list" ∧ o.dict = none ∧ o.data = .seq its n ∧ its.size ≤ sizeLine ∧ Vals xs its.toList
theorem RdL.sq {K : PySem.W.Frag} {H : Hp} {a : Addr} {xs : List V} (h : RdL K H a xs) : SqL K H a xs := by
  rcases h with h | h
  · exact .inl (.inr h)
  · exact .inr h

mutual
def Is (K : PySem.W.Frag) (H : Hp) : D → V → Prop
  | .non, v => v = .non
  | .bl b, v => v = .bl b
  | .int i, v => v = .int i
  | .str s, v => v = .str s
  | .tup ds, v => ∃ a vs, v = .ref a ∧ H a = some (.tup vs) ∧ IsL K H ds vs
  | .rl ds, v => ∃ a vs, v = .ref a ∧ RdL K H a vs ∧ IsL K H ds vs
  | .ref a, v => v = .ref a
  | .ty n, v => v = .ty n
def IsL (K : PySem.W.Frag) (H : Hp) : List D → List V → Prop
  | [], vs => vs = []
  | d :: ds, vs => ∃ v r, vs = v :: r ∧ Is K H d v ∧ IsL K H ds r
end

/-- a mutable object -/
inductive MO where
  | lst (xs : List D)
  | dK (kvs : List (Key × D))
  | dT (kvs : List (List Key × D))
  | ins (C : Addr) (fs : List (Str × D))
abbrev Mem := Addr → Option MO
def wr (M : Mem) (a : Addr) (o : MO) : Mem := fun b => if b = a then some o else M b
def mdel (M : Mem) (a : Addr) : Mem := fun b => if b = a then none else M b
theorem wr_same {M : Mem} {a : Addr} {o : MO} : wr M a o a = some o := by unfold wr; rw [if_pos rfl]
theorem wr_ne {M : Mem} {a b : Addr} {o : MO} (h : b ≠ a) : wr M a o b = M b := by unfold wr; rw [if_neg h]

def MOk (K : PySem.W.Frag) (H : Hp) (a : Addr) : MO → Prop
  | .lst ds => ∃ vs, H a = some (.lst vs) ∧ IsL K H ds vs
  | .dK kvs => ∃ ws : List (Key × V), H a = some (.dK ws) ∧ ws.map (·.1) = kvs.map (·.1) ∧ IsL K H (kvs.map (·.2)) (ws.map (·.2))
  | .dT kvs => ∃ ws : List (List Key × V), H a = some (.dT ws) ∧ ws.map (·.1) = kvs.map (·.1) ∧ IsL K H (kvs.map (·.2)) (ws.map (·.2))
  | .ins C fs => ∃ (dx : Addr) (ws : List (Str × V)), H a = some (.ins C dx ws) ∧ ws.map (·.1) = fs.map (·.1) ∧ IsL K H (fs.map (·.2)) (ws.map (·.2))
def MRel (K : PySem.W.Frag) (M : Mem) (H : Hp) : Prop := ∀ a o, M a = some o → MOk K H a o
/-- what is not in the memory is not touched; nothing goes -/
structure Fr (M : Mem) (H : Hp) (M' : Mem) (H' : Hp) : Prop where
  keep : ∀ b o, H b = some o → M b = none → H' b = some o ∧ M' b = none
  there : ∀ b, H' b = none → H b = none
theorem Fr.refl {M : Mem} {H : Hp} : Fr M H M H := ⟨fun _ _ h n => ⟨h, n⟩, fun _ h => h⟩
theorem Fr.trans {M M1 M2 : Mem} {H H1 H2 : Hp} (a : Fr M H M1 H1) (b : Fr M1 H1 M2 H2) : Fr M H M2 H2 := ⟨fun c o h n =>
  let ⟨h1, n1⟩ := a.keep c o h n
  b.keep c o h1 n1, fun c h => a.there c (b.there c h)⟩
theorem upd_none {H : Hp} {a b : Addr} {o : HO} (h : upd H a o b = none) : H b = none := by
  by_cases e : b = a
  · subst e; rw [upd_same] at h; cases h
  · rw [upd_ne e] at h; exact h

section
variable {K : PySem.W.Frag} {M M' : Mem} {H H' : Hp}
theorem MRel.tup (r : MRel K M H) {a : Addr} {xs : List V} (h : H a = some (.tup xs)) : M a = none := by
  cases e : M a with
  | none => rfl
  | some o =>
    have q := r a o e
    cases o with
    | lst _ => obtain ⟨_, z, _⟩ := q; rw [h] at z; cases z
    | dK _ => obtain ⟨_, z, _⟩ := q; rw [h] at z; cases z
    | dT _ => obtain ⟨_, z, _⟩ := q; rw [h] at z; cases z
    | ins _ _ => obtain ⟨_, _, z, _⟩ := q; rw [h] at z; cases z
theorem MRel.frz (r : MRel K M H) {a : Addr} {o : Obj} {u : HO} (h : H a = some (.frz o u)) : M a = none := by
  cases e : M a with
  | none => rfl
  | some o =>
    have q := r a o e
    cases o with
    | lst _ => obtain ⟨_, z, _⟩ := q; rw [h] at z; cases z
    | dK _ => obtain ⟨_, z, _⟩ := q; rw [h] at z; cases z
    | dT _ => obtain ⟨_, z, _⟩ := q; rw [h] at z; cases z
    | ins _ _ => obtain ⟨_, _, z, _⟩ := q; rw [h] at z; cases z
/-- where the trees' own objects stay -/
def Ext (K : PySem.W.Frag) (H H' : Hp) : Prop := (∀ a xs, H a = some (.tup xs) → H' a = some (.tup xs)) ∧ ∀ a xs, RdL K H a xs → RdL K H' a xs
theorem Fr.ext (f : Fr M H M' H') (r : MRel K M H) : Ext K H H' := by
  refine ⟨fun a xs h => ?_, fun a xs h => ?_⟩
  · exact (f.keep a _ h (r.tup h)).1
  · rcases h with ⟨o, h⟩ | h
    · exact .inl ⟨o, (f.keep a _ h (r.frz h)).1⟩
    · exact .inr h
theorem Ext.trans {H2 : Hp} (a : Ext K H H') (b : Ext K H' H2) : Ext K H H2 := ⟨fun p xs h => b.1 p xs (a.1 p xs h), fun p xs h => b.2 p xs (a.2 p xs h)⟩
theorem Ext.refl : Ext K H H := ⟨fun _ _ h => h, fun _ _ h => h⟩
mutual
theorem Is.ext (e : Ext K H H') : ∀ (d : D) (v : V), Is K H d v → Is K H' d v
  | .non, _, h => h
  | .bl _, _, h => h
  | .int _, _, h => h
  | .str _, _, h => h
  | .ref _, _, h => h
  | .ty _, _, h => h
  | .tup ds, v, h => by
    unfold Is at h ⊢
    obtain ⟨a, vs, e1, s, l⟩ := h
    exact ⟨a, vs, e1, e.1 a vs s, IsL.ext e ds vs l⟩
  | .rl ds, v, h => by
    unfold Is at h ⊢
    obtain ⟨a, vs, e1, s, l⟩ := h
    exact ⟨a, vs, e1, e.2 a vs s, IsL.ext e ds vs l⟩
theorem IsL.ext (e : Ext K H H') : ∀ (ds : List D) (vs : List V), IsL K H ds vs → IsL K H' ds vs
  | [], _, h => h
  | d :: ds, vs, h => by
    unfold IsL at h ⊢
    obtain ⟨v, r, e1, i, l⟩ := h
    exact ⟨v, r, e1, Is.ext e d v i, IsL.ext e ds r l⟩
end
theorem isL_nil {vs : List V} : IsL K H [] vs ↔ vs = [] := by unfold IsL; exact Iff.rfl
theorem isL_cons {d : D} {ds : List D} {vs : List V} : IsL K H (d :: ds) vs ↔ ∃ v r, vs = v :: r ∧ Is K H d v ∧ IsL K H ds r := by
  conv => lhs; unfold IsL
theorem is_tup {ds : List D} {v : V} : Is K H (.tup ds) v ↔ ∃ a vs, v = .ref a ∧ H a = some (.tup vs) ∧ IsL K H ds vs := by
  conv => lhs; unfold Is
theorem is_rl {ds : List D} {v : V} : Is K H (.rl ds) v ↔ ∃ a vs, v = .ref a ∧ RdL K H a vs ∧ IsL K H ds vs := by
  conv => lhs; unfold Is
theorem IsL.mk {d : D} {ds : List D} {v : V} {vs : List V} (h : Is K H d v) (t : IsL K H ds vs) : IsL K H (d :: ds) (v :: vs) := isL_cons.mpr ⟨v, vs, rfl, h, t⟩
theorem IsL.length : ∀ {ds : List D} {vs : List V}, IsL K H ds vs → vs.length = ds.length
  | [], vs, h => by rw [isL_nil] at h; subst h; rfl
  | d :: ds, vs, h => by
    rw [isL_cons] at h
    obtain ⟨v, r, rfl, _, t⟩ := h
    simp only [List.length_cons, IsL.length t]
theorem IsL.get : ∀ {ds : List D} {vs : List V} {i : Nat} {d : D}, IsL K H ds vs → ds[i]? = some d → ∃ v, vs[i]? = some v ∧ Is K H d v
  | [], _, _, _, _, e => by simp at e
  | x :: ds, vs, i, d, h, e => by
    rw [isL_cons] at h
    obtain ⟨v, r, rfl, hi, t⟩ := h
    cases i with
    | zero =>
      simp only [List.getElem?_cons_zero, Option.some.injEq] at e ⊢
      subst e
      exact ⟨v, rfl, hi⟩
    | succ i =>
      simp only [List.getElem?_cons_succ] at e ⊢
      exact IsL.get t e
theorem IsL.append : ∀ {ds es : List D} {vs ws : List V}, IsL K H ds vs → IsL K H es ws → IsL K H (ds ++ es) (vs ++ ws)
  | [], es, vs, ws, h, g => by rw [isL_nil] at h; subst h; exact g
  | d :: ds, es, vs, ws, h, g => by
    rw [isL_cons] at h
    obtain ⟨v, r, rfl, hi, t⟩ := h
    exact IsL.mk hi (IsL.append t g)
theorem IsL.take : ∀ {ds : List D} {vs : List V} (n : Nat), IsL K H ds vs → IsL K H (ds.take n) (vs.take n)
  | _, _, 0, _ => by simp [isL_nil]
  | [], vs, n + 1, h => by rw [isL_nil] at h; subst h; simp [isL_nil]
  | d :: ds, vs, n + 1, h => by
    rw [isL_cons] at h
    obtain ⟨v, r, rfl, hi, t⟩ := h
    exact IsL.mk hi (IsL.take n t)
theorem IsL.drop : ∀ {ds : List D} {vs : List V} (n : Nat), IsL K H ds vs → IsL K H (ds.drop n) (vs.drop n)
  | _, _, 0, h => h
  | [], vs, n + 1, h => by rw [isL_nil] at h; subst h; simp [isL_nil]
  | d :: ds, vs, n + 1, h => by
    rw [isL_cons] at h
    obtain ⟨v, r, rfl, hi, t⟩ := h
    exact IsL.drop n t
theorem IsL.set {d : D} {v : V} (q : Is K H d v) : ∀ {ds : List D} {vs : List V} (n : Nat), IsL K H ds vs → IsL K H (ds.set n d) (vs.set n v)
  | [], vs, n, h => by rw [isL_nil] at h; subst h; simp [isL_nil]
  | x :: ds, vs, 0, h => by
    rw [isL_cons] at h
    obtain ⟨w, r, rfl, hi, t⟩ := h
    exact IsL.mk q t
  | x :: ds, vs, n + 1, h => by
    rw [isL_cons] at h
    obtain ⟨w, r, rfl, hi, t⟩ := h
    exact IsL.mk hi (IsL.set q n t)
theorem IsL.eraseIdx : ∀ {ds : List D} {vs : List V} (n : Nat), IsL K H ds vs → IsL K H (ds.eraseIdx n) (vs.eraseIdx n)
  | [], vs, n, h => by rw [isL_nil] at h; subst h; simp [isL_nil]
  | x :: ds, vs, 0, h => by
    rw [isL_cons] at h
    obtain ⟨w, r, rfl, hi, t⟩ := h
    exact t
  | x :: ds, vs, n + 1, h => by
    rw [isL_cons] at h
    obtain ⟨w, r, rfl, hi, t⟩ := h
    exact IsL.mk hi (IsL.eraseIdx n t)
theorem IsL.dropLast {ds : List D} {vs : List V} (h : IsL K H ds vs) : IsL K H ds.dropLast vs.dropLast := by
  rw [List.dropLast_eq_take, List.dropLast_eq_take, h.length]
  exact h.take _
theorem IsL.reverse : ∀ {ds : List D} {vs : List V}, IsL K H ds vs → IsL K H ds.reverse vs.reverse
  | [], vs, h => by rw [isL_nil] at h; subst h; simp [isL_nil]
  | d :: ds, vs, h => by
    rw [isL_cons] at h
    obtain ⟨v, r, rfl, hi, t⟩ := h
    rw [List.reverse_cons, List.reverse_cons]
    exact (IsL.reverse t).append (IsL.mk hi (isL_nil.mpr rfl))
theorem IsL.inv : ∀ {ds : List D} {vs : List V} {i : Nat} {v : V}, IsL K H ds vs → vs[i]? = some v → ∃ d, ds[i]? = some d ∧ Is K H d v
  | ds, vs, i, v, h, e => by
    have hl := h.length
    obtain ⟨hi, _⟩ := List.getElem?_eq_some_iff.mp e
    have hi' : i < ds.length := by omega
    obtain ⟨w, e2, q⟩ := h.get (List.getElem?_eq_getElem hi')
    rw [e] at e2
    cases e2
    exact ⟨_, List.getElem?_eq_getElem hi', q⟩
end

/-! ### slots -/
abbrev Sl := List (Option D)
def getS : Sl → Nat → Option D
  | [], _ => none
  | o :: _, 0 => o
  | _ :: r, i + 1 => getS r i
def setS : Sl → Nat → Option D → Sl
  | [], _, _ => []
  | _ :: r, 0, o => o :: r
  | x :: r, i + 1, o => x :: setS r i o
def SRel (K : PySem.W.Frag) (H : Hp) : Sl → L2.St → Prop
  | [], σ => σ = []
  | o :: r, σ => ∃ w τ, σ = w :: τ ∧ (∀ d, o = some d → ∃ v, w = some v ∧ Is K H d v) ∧ SRel K H r τ
section
variable {K : PySem.W.Frag} {M M' : Mem} {H H' : Hp}
theorem SRel.ext (e : Ext K H H') : ∀ {r : Sl} {σ : L2.St}, SRel K H r σ → SRel K H' r σ
  | [], _, h => h
  | o :: r, σ, h => by
    obtain ⟨w, τ, e1, q, t⟩ := h
    refine ⟨w, τ, e1, fun d hd => ?_, SRel.ext e t⟩
    obtain ⟨v, e2, i⟩ := q d hd
    exact ⟨v, e2, Is.ext e d v i⟩
theorem SRel.get : ∀ {r : Sl} {σ : L2.St} {i : Nat} {d : D}, SRel K H r σ → getS r i = some d → ∃ v, σ[i]? = some (some v) ∧ Is K H d v
  | [], _, _, _, _, e => by cases e
  | o :: r, σ, 0, d, h, e => by
    obtain ⟨w, τ, rfl, q, t⟩ := h
    obtain ⟨v, rfl, i⟩ := q d e
    exact ⟨v, rfl, i⟩
  | o :: r, σ, i + 1, d, h, e => by
    obtain ⟨w, τ, rfl, q, t⟩ := h
    obtain ⟨v, h1, h2⟩ := SRel.get (r := r) (σ := τ) (i := i) (d := d) t e
    exact ⟨v, by rw [List.getElem?_cons_succ]; exact h1, h2⟩
theorem SRel.set {d : D} {v : V} (q : Is K H d v) : ∀ {r : Sl} {σ : L2.St} (i : Nat), SRel K H r σ → SRel K H (setS r i (some d)) (σ.set i (some v))
  | [], σ, i, h => by
    have h : σ = [] := h
    subst h
    show SRel K H [] (List.set [] i _)
    simp [SRel]
  | o :: r, σ, 0, h => by
    obtain ⟨w, τ, rfl, q', t⟩ := h
    exact ⟨_, _, rfl, fun d' e => by cases e; exact ⟨v, rfl, q⟩, t⟩
  | o :: r, σ, i + 1, h => by
    obtain ⟨w, τ, rfl, q', t⟩ := h
    exact ⟨_, _, rfl, q', SRel.set q i t⟩
theorem SRel.unset : ∀ {r : Sl} {σ : L2.St} (i : Nat) (w : Option V), SRel K H r σ → SRel K H (setS r i none) (σ.set i w)
  | [], σ, i, w, h => by
    have h : σ = [] := h
    subst h
    show SRel K H [] (List.set [] i _)
    simp [SRel]
  | o :: r, σ, 0, w, h => by
    obtain ⟨w', τ, rfl, q', t⟩ := h
    exact ⟨w, τ, rfl, (fun d' e => nomatch e), t⟩
  | o :: r, σ, i + 1, w, h => by
    obtain ⟨w', τ, rfl, q', t⟩ := h
    exact ⟨_, _, rfl, q', SRel.unset i w t⟩
def wipeS (e : Sl) : List Nat → Sl
  | [] => e
  | v :: vs => setS (wipeS e vs) v none
theorem SRel.wipe {r : Sl} {σ : L2.St} (h : SRel K H r σ) : ∀ vs : List Nat, SRel K H (wipeS r vs) (L2.wipe σ vs)
  | [] => h
  | v :: vs => by
    show SRel K H (setS (wipeS r vs) v none) ((L2.wipe σ vs).set v none)
    exact SRel.unset v none (SRel.wipe h vs)
end

/-! ### readings -/
abbrev QE := D → Mem → Prop
abbrev EX := Value → List (Str × D) → Mem → Prop
abbrev EF : EX := fun _ _ _ => False
abbrev DTE := Sl → Mem → QE → EX → Prop
abbrev DTT := Sl → Mem → (Bool → Mem → Prop) → EX → Prop
abbrev DTA := Sl → Mem → (List D → Mem → Prop) → EX → Prop
structure DEnds where
  nx : Sl → Mem → Prop
  rt : QE
  bk : Sl → Mem → Prop := fun _ _ => False
  ct : Sl → Mem → Prop := fun _ _ => False
abbrev DTS := DEnds → EX → Sl → Mem → Prop
/-- where a body stands: the context, where the memory began, what is wished of exceptions -/
structure Gd where
  X : Cx
  M0 : Mem
  H0 : Hp
  E : EX
/-- an exception's own dict -/
def XOk (K : PySem.W.Frag) (H : Hp) (d : Option Addr) (fs : List (Str × D)) : Prop :=
  match d with
  | none => fs = []
  | some a => ∃ ws : List (Str × V), H a = some (.xd ws) ∧ ∀ f, match fs.lookup f with
    | some x => ∃ v, ws.lookup f = some v ∧ Is K H x v
    | none => ws.lookup f = none
/-- the wish as the layer below has it -/
def wxOf (K : PySem.W.Frag) (M0 : Mem) (H0 : Hp) (E : EX) : Value → Option Addr → Hp → Prop := fun c d H => ∃ M fs, Fr M0 H0 M H ∧ MRel K M H ∧ XOk K H d fs ∧ E c fs M
structure SI (g : Gd) (pins : List (Addr × Obj)) (σ : L2.St) (H : Hp) (s : Shared) (e : Sl) (M : Mem) : Prop where
  inv : Inv g.X pins σ H s
  sl : SRel g.X.K H e σ
  mr : MRel g.X.K M H
  fr : Fr g.M0 g.H0 M H
theorem SI.next {g : Gd} {pins : List (Addr × Obj)} {σ : L2.St} {H H' : Hp} {s s' : Shared} {e : Sl} {M M' : Mem} (I : SI g pins σ H s e M) (J : Inv g.X pins σ H' s') (m : MRel g.X.K M' H') (f : Fr M H M' H') : SI g pins σ H' s' e M' :=
  ⟨J, I.sl.ext (f.ext I.mr), m, I.fr.trans f⟩

/-- behind an expression -/
def DEP (g : Gd) (pins : List (Addr × Obj)) (σ : L2.St) (e : Sl) (M : Mem) (H : Hp) (Q : QE) (u : Value) (s' : Shared) : Prop :=
  ∃ v d H' M', RelV v u ∧ Is g.X.K H' d v ∧ SI g pins σ H' s' e M' ∧ Fr M H M' H' ∧ Q d M'
def DTP (g : Gd) (pins : List (Addr × Obj)) (σ : L2.St) (e : Sl) (M : Mem) (H : Hp) (Q : Bool → Mem → Prop) (b : Bool) (s' : Shared) : Prop :=
  ∃ H' M', SI g pins σ H' s' e M' ∧ Fr M H M' H' ∧ Q b M'
structure DE (g : Gd) (x : Expr) (t : DTE) : Prop where
  run : ∀ (pins : List (Addr × Obj)) (s : Shared) (σ : L2.St) (H : Hp) (e : Sl) (M : Mem) (Q : QE), SI g pins σ H s e M → t e M Q g.E →
    wpAny (model g.X.prog g.X.w) g.X.A (eval x g.X.env) (DEP g pins σ e M H Q) g.X.xe s
structure DT (g : Gd) (x : Expr) (t : DTT) : Prop where
  run : ∀ (pins : List (Addr × Obj)) (s : Shared) (σ : L2.St) (H : Hp) (e : Sl) (M : Mem) (Q : Bool → Mem → Prop), SI g pins σ H s e M → t e M Q g.E →
    wpAny (model g.X.prog g.X.w) g.X.A (isTrue x g.X.env (eval x g.X.env)) (DTP g pins σ e M H Q) g.X.xe s

/-! the two ways between the layers. lowE: a tree reading as a reading below -/
def lowQ (K : PySem.W.Frag) (M : Mem) (H : Hp) (R : QE) : VK := fun v H' => ∃ d M', Is K H' d v ∧ MRel K M' H' ∧ Fr M H M' H' ∧ R d M'
def lowK (K : PySem.W.Frag) (M0 : Mem) (H0 : Hp) (E : EX) (t : DTE) : TE := fun σ H Q => ∃ (e : Sl) (M : Mem) (R : QE), SRel K H e σ ∧ MRel K M H ∧ Fr M0 H0 M H ∧ t e M R E ∧ ∀ v H', lowQ K M H R v H' → Q v H'
abbrev lowE (g : Gd) (t : DTE) : TE := lowK g.X.K g.M0 g.H0 g.E t
def lowQT (K : PySem.W.Frag) (M : Mem) (H : Hp) (R : Bool → Mem → Prop) : Bool → Hp → Prop := fun b H' => ∃ M', MRel K M' H' ∧ Fr M H M' H' ∧ R b M'
def lowTK (K : PySem.W.Frag) (M0 : Mem) (H0 : Hp) (E : EX) (t : DTT) : TT := fun σ H Q => ∃ (e : Sl) (M : Mem) (R : Bool → Mem → Prop), SRel K H e σ ∧ MRel K M H ∧ Fr M0 H0 M H ∧ t e M R E ∧ ∀ b H', lowQT K M H R b H' → Q b H'
abbrev lowT (g : Gd) (t : DTT) : TT := lowTK g.X.K g.M0 g.H0 g.E t
theorem DE.pe {g : Gd} {x : Expr} {t : DTE} (h : DE g x t) : PE g.X x (lowE g t) := by
  refine ⟨fun pins s σ H Q I q => ?_⟩
  obtain ⟨e, M, R, sl, mr, fr, ht, k⟩ := q
  refine thn (h.run pins s σ H e M R ⟨I, sl, mr, fr⟩ ht) fun u s' z => ?_
  obtain ⟨v, d, H', M', r, i, J, f, q⟩ := z
  exact ⟨v, H', J.inv, r, k v H' ⟨d, M', i, J.mr, f, q⟩⟩
theorem DT.pt {g : Gd} {x : Expr} {t : DTT} (h : DT g x t) : PT g.X x (lowT g t) := by
  refine ⟨fun pins s σ H Q I q => ?_⟩
  obtain ⟨e, M, R, sl, mr, fr, ht, k⟩ := q
  refine thn (h.run pins s σ H e M R ⟨I, sl, mr, fr⟩ ht) fun b s' z => ?_
  obtain ⟨H', M', J, f, q⟩ := z
  exact ⟨H', J.inv, k b H' ⟨M', J.mr, f, q⟩⟩
theorem DE.of {g : Gd} {x : Expr} {t : DTE} {t' : TE} (h : PE g.X x t')
    (k : ∀ σ H e M Q, SRel g.X.K H e σ → MRel g.X.K M H → Fr g.M0 g.H0 M H → t e M Q g.E → t' σ H (lowQ g.X.K M H Q)) : DE g x t := by
  refine ⟨fun pins s σ H e M Q I q => ?_⟩
  refine thn (h.run pins s σ H _ I.inv (k σ H e M Q I.sl I.mr I.fr q)) fun u s' z => ?_
  obtain ⟨v, H', J, r, d, M', i, mr, f, q⟩ := z
  exact ⟨v, d, H', M', r, i, I.next J mr f, f, q⟩
theorem DT.of {g : Gd} {x : Expr} {t : DTT} {t' : TT} (h : PT g.X x t')
    (k : ∀ σ H e M Q, SRel g.X.K H e σ → MRel g.X.K M H → Fr g.M0 g.H0 M H → t e M Q g.E → t' σ H (lowQT g.X.K M H Q)) : DT g x t := by
  refine ⟨fun pins s σ H e M Q I q => ?_⟩
  refine thn (h.run pins s σ H _ I.inv (k σ H e M Q I.sl I.mr I.fr q)) fun b s' z => ?_
  obtain ⟨H', J, M', mr, f, q⟩ := z
  exact ⟨H', M', I.next J mr f, f, q⟩
/-- a reading below, begun at a tree state -/
theorem low_start {g : Gd} {t : DTE} {σ : L2.St} {H : Hp} {e : Sl} {M : Mem} {R : QE} {Q : VK} (sl : SRel g.X.K H e σ) (mr : MRel g.X.K M H) (fr : Fr g.M0 g.H0 M H) (h : t e M R g.E)
    (k : ∀ v d M' H', Is g.X.K H' d v → MRel g.X.K M' H' → Fr M H M' H' → R d M' → Q v H') : lowE g t σ H Q :=
  ⟨e, M, R, sl, mr, fr, h, fun v H' ⟨d, M', i, m, f, q⟩ => k v d M' H' i m f q⟩
theorem low_startT {g : Gd} {t : DTT} {σ : L2.St} {H : Hp} {e : Sl} {M : Mem} {R : Bool → Mem → Prop} {Q : Bool → Hp → Prop} (sl : SRel g.X.K H e σ) (mr : MRel g.X.K M H) (fr : Fr g.M0 g.H0 M H) (h : t e M R g.E)
    (k : ∀ b M' H', MRel g.X.K M' H' → Fr M H M' H' → R b M' → Q b H') : lowT g t σ H Q :=
  ⟨e, M, R, sl, mr, fr, h, fun b H' ⟨M', m, f, q⟩ => k b M' H' m f q⟩

/-! memory: a new object, an object written -/
section
variable {K : PySem.W.Frag} {M : Mem} {H : Hp}
theorem MOk.ext {H' : Hp} {a : Addr} {o : MO} (e : Ext K H H') (h : H' a = H a) (q : MOk K H a o) : MOk K H' a o := by
  cases o with
  | lst ds => obtain ⟨vs, z, l⟩ := q; exact ⟨vs, h.trans z, IsL.ext e _ _ l⟩
  | dK ds => obtain ⟨vs, z, k, l⟩ := q; exact ⟨vs, h.trans z, k, IsL.ext e _ _ l⟩
  | dT ds => obtain ⟨vs, z, k, l⟩ := q; exact ⟨vs, h.trans z, k, IsL.ext e _ _ l⟩
  | ins C ds => obtain ⟨dx, vs, z, k, l⟩ := q; exact ⟨dx, vs, h.trans z, k, IsL.ext e _ _ l⟩
theorem MRel.none_of (r : MRel K M H) {p : Addr} (h : H p = none) : M p = none := by
  cases e : M p with
  | none => rfl
  | some o =>
    have q := r p o e
    cases o with
    | lst _ => obtain ⟨_, z, _⟩ := q; rw [h] at z; cases z
    | dK _ => obtain ⟨_, z, _⟩ := q; rw [h] at z; cases z
    | dT _ => obtain ⟨_, z, _⟩ := q; rw [h] at z; cases z
    | ins _ _ => obtain ⟨_, _, z, _⟩ := q; rw [h] at z; cases z
/-- a new place, whatever is laid there, is outside the memory -/
theorem fr_new (r : MRel K M H) {p : Addr} {o : HO} (h : H p = none) : Fr M H M (upd H p o) := ⟨fun b u hb n => by
  have e : b ≠ p := ne_of_none hb h
  exact ⟨by rw [upd_ne e]; exact hb, n⟩, fun _ => upd_none⟩
theorem mr_new (r : MRel K M H) {p : Addr} {o : HO} (h : H p = none) : MRel K M (upd H p o) := fun a x e => by
  have q := r a x e
  have ne : a ≠ p := fun z => by subst z; rw [r.none_of h] at e; cases e
  exact q.ext ((fr_new r h).ext r) (upd_ne ne)
/-- a new object is laid in the memory -/
theorem fr_alloc (r : MRel K M H) {p : Addr} {o : HO} {u : MO} (h : H p = none) : Fr M H (wr M p u) (upd H p o) := ⟨fun b x hb n => by
  have e : b ≠ p := ne_of_none hb h
  exact ⟨by rw [upd_ne e]; exact hb, by rw [wr_ne e]; exact n⟩, fun _ => upd_none⟩
theorem mr_alloc (r : MRel K M H) {p : Addr} {o : HO} {u : MO} (h : H p = none) (q : MOk K (upd H p o) p u) : MRel K (wr M p u) (upd H p o) := fun a x e => by
  by_cases z : a = p
  · subst z; rw [wr_same] at e; cases e; exact q
  · rw [wr_ne z] at e
    exact mr_new r h a x e
/-- an object of the memory is written -/
theorem fr_write (r : MRel K M H) {a : Addr} {o : HO} {u v : MO} (h : M a = some v) : Fr M H (wr M a u) (upd H a o) := ⟨fun b x hb n => by
  have e : b ≠ a := fun z => by subst z; rw [h] at n; cases n
  exact ⟨by rw [upd_ne e]; exact hb, by rw [wr_ne e]; exact n⟩, fun _ => upd_none⟩
theorem mr_write (r : MRel K M H) {a : Addr} {o : HO} {u v : MO} (h : M a = some v) (q : MOk K (upd H a o) a u) : MRel K (wr M a u) (upd H a o) := fun b x e => by
  by_cases z : b = a
  · subst z; rw [wr_same] at e; cases e; exact q
  · rw [wr_ne z] at e
    exact (r b x e).ext ((fr_write (o := o) (u := u) r h).ext r) (upd_ne z)
/-- forgetting -/
def Sub (M' M : Mem) : Prop := ∀ a o, M' a = some o → M a = some o
theorem Sub.refl {M : Mem} : Sub M M := fun _ _ h => h
theorem MRel.sub (r : MRel K M H) {M' : Mem} (s : Sub M' M) : MRel K M' H := fun a o e => r a o (s a o e)
theorem Sub.none {M M' : Mem} (s : Sub M' M) {a : Addr} (h : M a = Option.none) : M' a = Option.none := by
  cases e : M' a with
  | none => rfl
  | some o => rw [s a o e] at h; cases h
theorem Fr.sub {M M1 M2 : Mem} {H H1 : Hp} (f : Fr M H M1 H1) (s : Sub M2 M1) : Fr M H M2 H1 := ⟨fun b o h n =>
  let ⟨h1, n1⟩ := f.keep b o h n
  ⟨h1, s.none n1⟩, f.there⟩
end
end DL

/-! Operators by trees. -/
namespace DL
open PySem PySem.Spec PyProof.Rows L2

theorem lowQ.mk {K : PySem.W.Frag} {Mo M' : Mem} {Ho H' : Hp} {Q : QE} {d : D} {v : V} (i : Is K H' d v) (m : MRel K M' H') (f : Fr Mo Ho M' H') (q : Q d M') : lowQ K Mo Ho Q v H' := ⟨d, M', i, m, f, q⟩

/-! data of any depth, as the library has it -/
mutual
inductive PD (M : Mem) : D → PyData → Prop
  | non : PD M .non .none
  | bl (b : Bool) : PD M (.bl b) (.bool b)
  | int (i : Int) : PD M (.int i) (.int i)
  | str (s : Str) : PD M (.str s) (.str s)
  | tup {ds : List D} {ps : List PyData} : PDL M ds ps → PD M (.tup ds) (.tuple ps)
  | rl {ds : List D} {ps : List PyData} : PDL M ds ps → PD M (.rl ds) (.list ps)
  | lst {a : Addr} {ds : List D} {ps : List PyData} : M a = some (.lst ds) → PDL M ds ps → PD M (.ref a) (.list ps)
  | dK {a : Addr} {kvs : List (Key × D)} {ps : List PyData} : M a = some (.dK kvs) → PDL M (kvs.map (·.2)) ps → PD M (.ref a) (.dict ((kvs.map fun p => match p.1 with | .inl i => PyData.int i | .inr s => PyData.str s).zip ps))
inductive PDL (M : Mem) : List D → List PyData → Prop
  | nil : PDL M [] []
  | cons {d : D} {ds : List D} {p : PyData} {ps : List PyData} : PD M d p → PDL M ds ps → PDL M (d :: ds) (p :: ps)
end
mutual
def toPy : D → PyData
  | .non => .none
  | .bl b => .bool b
  | .int i => .int i
  | .str s => .str s
  | .tup xs => .tuple (toPyL xs)
  | .rl xs => .list (toPyL xs)
  | .ref _ => .none
  | .ty _ => .none
def toPyL : List D → List PyData
  | [] => []
  | d :: ds => toPy d :: toPyL ds
end
mutual
def flatD : D → Bool
  | .ref _ => false
  | .ty _ => false
  | .tup xs => flatDL xs
  | .rl xs => flatDL xs
  | _ => true
def flatDL : List D → Bool
  | [] => true
  | d :: ds => flatD d && flatDL ds
end
mutual
theorem PD.of {M : Mem} : ∀ (d : D), flatD d = true → PD M d (toPy d)
  | .non, _ => by unfold toPy; exact .non
  | .bl b, _ => by unfold toPy; exact .bl b
  | .int i, _ => by unfold toPy; exact .int i
  | .str s, _ => by unfold toPy; exact .str s
  | .tup xs, h => by unfold toPy; unfold flatD at h; exact .tup (PDL.of xs h)
  | .rl xs, h => by unfold toPy; unfold flatD at h; exact .rl (PDL.of xs h)
  | .ref _, h => by unfold flatD at h; cases h
  | .ty _, h => by unfold flatD at h; cases h
theorem PDL.of {M : Mem} : ∀ (ds : List D), flatDL ds = true → PDL M ds (toPyL ds)
  | [], _ => by unfold toPyL; exact .nil
  | d :: ds, h => by
    unfold flatDL at h
    unfold toPyL
    rw [Bool.and_eq_true] at h
    exact .cons (PD.of d h.1) (PDL.of ds h.2)
end

section
variable {X : Cx} {pins : List (Addr × Obj)} {σ : L2.St} {H : Hp} {s : Shared} {M : Mem}
theorem keyReads {h : Heap} : ∀ {kvs : List (Key × V)} {vs : List (Key × Value)} {es : List DictEntry} {w : World} {P : Program}, KV kvs vs → es = es → True := fun _ _ => trivial

mutual
/-- a tree's data is read off the heap -/
theorem PD.reads (I : Inv X pins σ H s) (m : MRel X.K M H) : ∀ (p : PyData) (d : D) (v : V) (u : Value), PD M d p → Is X.K H d v → RelV v u → (p.hasDict = false) → ∃ as, Reads s.heap u p as
  | .none, _, _, _, h, i, r, _ => by
    cases h with
    | non =>
      unfold Is at i; subst i; cases r
      exact ⟨_, Reads.none⟩
  | .bool b, _, _, _, h, i, r, _ => by
    cases h with
    | bl =>
      unfold Is at i; subst i; cases r
      exact ⟨_, Reads.bool b⟩
  | .int k, _, _, _, h, i, r, _ => by
    cases h with
    | int =>
      unfold Is at i; subst i; obtain ⟨t, rfl⟩ := r
      exact ⟨_, Reads.int k t⟩
  | .str x, _, _, _, h, i, r, _ => by
    cases h with
    | str =>
      unfold Is at i; subst i; obtain ⟨t, rfl⟩ := r
      exact ⟨_, Reads.str x t⟩
  | .tuple ps, _, _, _, h, i, r, nd => by
    cases h with
    | tup hl =>
      rw [is_tup] at i
      obtain ⟨a, vs, rfl, hs, il⟩ := i
      cases r
      obtain ⟨its, rv, ⟨o, ho, hc, n, hd⟩, _⟩ := I.tuple (SqT.of (K := X.K) hs)
      obtain ⟨as, hr⟩ := PD.readsAll I m ps _ _ its hl il rv (by simpa [PyData.hasDict] using nd)
      exact ⟨_, Reads.tuple ho hc hd hr⟩
  | .list ps, _, _, _, h, i, r, nd => by
    cases h with
    | rl hl =>
      rw [is_rl] at i
      obtain ⟨a, vs, rfl, hs, il⟩ := i
      cases r
      obtain ⟨its, rv, ⟨o, n, ho, hc, _, hd⟩, _⟩ := I.list hs.sq
      obtain ⟨as, hr⟩ := PD.readsAll I m ps _ _ its hl il rv (by simpa [PyData.hasDict] using nd)
      exact ⟨_, Reads.list ho hc hd hr⟩
    | @lst a ds _ hM hl =>
      unfold Is at i; subst i; cases r
      obtain ⟨vs, hs, il⟩ := m a _ hM
      obtain ⟨its, rv, ⟨o, n, ho, hc, _, hd⟩, _⟩ := I.list (SqL.of (K := X.K) hs)
      obtain ⟨as, hr⟩ := PD.readsAll I m ps _ _ its hl il rv (by simpa [PyData.hasDict] using nd)
      exact ⟨_, Reads.list ho hc hd hr⟩
  | .dict _, _, _, _, _, _, _, nd => by simp [PyData.hasDict] at nd
theorem PD.readsAll (I : Inv X pins σ H s) (m : MRel X.K M H) : ∀ (ps : List PyData) (ds : List D) (vs : List V) (us : List Value), PDL M ds ps → IsL X.K H ds vs → Vals vs us → (PyData.hasDictAll ps = false) → ∃ as, ReadsAll s.heap us ps as
  | [], _, _, _, h, i, r, _ => by
    cases h
    rw [isL_nil] at i; subst i; cases r
    exact ⟨_, ReadsAll.nil⟩
  | p :: ps, _, _, _, h, i, r, nd => by
    cases h with
    | cons h1 h2 =>
      rw [isL_cons] at i
      obtain ⟨v, rr, rfl, i1, i2⟩ := i
      cases r with
      | cons r1 r2 =>
        have nd' : p.hasDict = false ∧ PyData.hasDictAll ps = false := by simpa [PyData.hasDictAll] using nd
        obtain ⟨as, q1⟩ := PD.reads I m p _ _ _ h1 i1 r1 nd'.1
        obtain ⟨bs, q2⟩ := PD.readsAll I m ps _ _ _ h2 i2 r2 nd'.2
        exact ⟨_, ReadsAll.cons q1 q2⟩
end
end

/-! ### what a tree's value is -/
section
variable {K : PySem.W.Frag} {H : Hp} {v : V}
theorem is_non : Is K H .non v ↔ v = .non := by conv => lhs; unfold Is
theorem is_bl {b : Bool} : Is K H (.bl b) v ↔ v = .bl b := by conv => lhs; unfold Is
theorem is_int {i : Int} : Is K H (.int i) v ↔ v = .int i := by conv => lhs; unfold Is
theorem is_str {x : Str} : Is K H (.str x) v ↔ v = .str x := by conv => lhs; unfold Is
theorem is_ref {a : Addr} : Is K H (.ref a) v ↔ v = .ref a := by conv => lhs; unfold Is
theorem is_ty {n : String} : Is K H (.ty n) v ↔ v = .ty n := by conv => lhs; unfold Is
theorem ii_non : Is K H .non .non := is_non.mpr rfl
theorem ii_bl {b : Bool} : Is K H (.bl b) (.bl b) := is_bl.mpr rfl
theorem ii_int {i : Int} : Is K H (.int i) (.int i) := is_int.mpr rfl
theorem ii_str {x : Str} : Is K H (.str x) (.str x) := is_str.mpr rfl
theorem ii_ref {a : Addr} : Is K H (.ref a) (.ref a) := is_ref.mpr rfl
theorem ii_ty {n : String} : Is K H (.ty n) (.ty n) := is_ty.mpr rfl
theorem ii_tup {a : Addr} {ds : List D} {vs : List V} (h : H a = some (.tup vs)) (l : IsL K H ds vs) : Is K H (.tup ds) (.ref a) := is_tup.mpr ⟨a, vs, rfl, h, l⟩
end
/-! ### binary operators -/
abbrev R2D := D → D → Mem → QE → Prop
/-- QV holds wherever the tree wish holds -/
abbrev Fin (K : PySem.W.Frag) (Mo : Mem) (Ho : Hp) (Q : QE) (QV : VK) : Prop := ∀ v d M' H', Is K H' d v → MRel K M' H' → Fr Mo Ho M' H' → Q d M' → QV v H'
theorem fin_low {K : PySem.W.Frag} {Mo : Mem} {Ho : Hp} {Q : QE} : Fin K Mo Ho Q (lowQ K Mo Ho Q) := fun _ _ _ _ i m f q => lowQ.mk i m f q
section
variable {K : PySem.W.Frag} {M Mo : Mem} {H Ho : Hp} {Q : QE} {QV : VK}
theorem Fin.newL (fin : Fin K Mo Ho Q QV) (m : MRel K M H) (f : Fr Mo Ho M H) {ds : List D} {vs : List V} (l : IsL K H ds vs) (q : ∀ p, M p = none → Q (.ref p) (wr M p (.lst ds))) :
    ∀ p, H p = none → QV (.ref p) (upd H p (.lst vs)) := fun p hp => by
  have hm : M p = none := m.none_of hp
  have q' : MOk K (upd H p (.lst vs)) p (.lst ds) := ⟨vs, upd_same, IsL.ext ((fr_new (o := HO.lst vs) m hp).ext m) _ _ l⟩
  exact fin _ _ _ _ ii_ref (mr_alloc m hp q') (f.trans (fr_alloc m hp)) (q p hm)
theorem Fin.newT (fin : Fin K Mo Ho Q QV) (m : MRel K M H) (f : Fr Mo Ho M H) {ds : List D} {vs : List V} (l : IsL K H ds vs) (q : Q (.tup ds) M) :
    ∀ p, H p = none → QV (.ref p) (upd H p (.tup vs)) := fun p hp => by
  exact fin _ _ _ _ (ii_tup upd_same (IsL.ext ((fr_new (o := HO.tup vs) m hp).ext m) _ _ l)) (mr_new m hp) (f.trans (fr_new m hp)) q
theorem Fin.setL (fin : Fin K Mo Ho Q QV) (m : MRel K M H) (f : Fr Mo Ho M H) {a : Addr} {u : MO} (h : M a = some u) {ds : List D} {vs : List V} (l : IsL K H ds vs) {d : D} {v : V} (i : Is K H d v) (q : Q d (wr M a (.lst ds))) :
    QV v (upd H a (.lst vs)) := by
  have e : Ext K H (upd H a (.lst vs)) := (fr_write (o := HO.lst vs) (u := .lst ds) m h).ext m
  have q' : MOk K (upd H a (.lst vs)) a (.lst ds) := ⟨vs, upd_same, IsL.ext e _ _ l⟩
  exact fin _ _ _ _ (Is.ext e _ _ i) (mr_write m h q') (f.trans (fr_write m h)) q
end
def OpK (K : PySem.W.Frag) (r : R2D) (r' : R2) : Prop := ∀ (M : Mem) (H : Hp) (Mo : Mem) (Ho : Hp) (x y : V) (a b : D) (Q : QE) (QV : VK), MRel K M H → Fr Mo Ho M H → Is K H a x → Is K H b y → Fin K Mo Ho Q QV → r a b M Q → r' x y H QV
/-- the operator f has the tree reading r in X -/
def OpD (X : Cx) (f : Value → Value → Sem Value) (r : R2D) : Prop := ∃ r' : R2, OpR X f r' ∧ OpK X.K r r'
def dBin (r : R2D) (ta tb : DTE) : DTE := fun e M Q E => ta e M (fun x M1 => tb e M1 (fun y M2 => r x y M2 Q) E) E
section
variable {g : Gd} {a b c : Expr} {ta tb tc : DTE} {pos : Pos}
theorem low_bin {r : R2D} {r' : R2} (k : OpK g.X.K r r') {σ : L2.St} {H : Hp} {e : Sl} {M : Mem} {Q : QE} {QV : VK} (sl : SRel g.X.K H e σ) (mr : MRel g.X.K M H) (fr : Fr g.M0 g.H0 M H) (h : dBin r ta tb e M Q g.E) (fin : Fin g.X.K M H Q QV) :
    tOp r' (lowE g ta) (lowE g tb) σ H QV := by
  refine low_start sl mr fr h fun v d M1 H1 i m f q => ?_
  refine low_start (sl.ext (f.ext mr)) m (fr.trans f) q fun v2 d2 M2 H2 i2 m2 f2 q2 => ?_
  exact k M2 H2 M H v v2 d d2 Q _ m2 (f.trans f2) (Is.ext (f2.ext m) _ _ i) i2 fin q2
theorem de_bin {op : Operator} {r : R2D} (ho : OpD g.X (binaryOp op) r) (ha : DE g a ta) (hb : DE g b tb) : DE g (.BinOp a op b pos) (dBin r ta tb) := by
  obtain ⟨r', h, k⟩ := ho
  exact DE.of (pe_op h ha.pe hb.pe) fun σ H e M Q sl mr fr q => low_bin k sl mr fr q fin_low
theorem de_cmp {op : CmpOp} {r : R2D} (ho : OpD g.X (compareOp op) r) (ha : DE g a ta) (hb : DE g b tb) (hm : behindInMarks op b = false) : DE g (.Compare a [op] [b] pos) (dBin r ta tb) := by
  obtain ⟨r', h, k⟩ := ho
  exact DE.of (pe_cmpR h ha.pe hb.pe hm) fun σ H e M Q sl mr fr q => low_bin k sl mr fr q fin_low
/-- a wish of a truth, on trees -/
def bQ (Q : Bool → Mem → Prop) : QE := fun x M => match x with | .bl b => Q b M | _ => False
def dTest (t : DTE) : DTT := fun e M Q E => t e M (bQ Q) E
theorem bQ_out {K : PySem.W.Frag} {Mo : Mem} {Ho : Hp} {Q : Bool → Mem → Prop} {QV : Bool → Hp → Prop} (k : ∀ b M' H', MRel K M' H' → Fr Mo Ho M' H' → Q b M' → QV b H') :
    Fin K Mo Ho (bQ Q) (fun x H' => ∃ c, x = .bl c ∧ QV c H') := fun v d M' H' i m f q => by
  cases d with
  | bl b => rw [is_bl] at i; exact ⟨b, i, k b M' H' m f q⟩
  | _ => exact q.elim
theorem dt_cmp {op : CmpOp} {r : R2D} (ho : OpD g.X (compareOp op) r) (ha : DE g a ta) (hb : DE g b tb) (hm : behindInMarks op b = false) : DT g (.Compare a [op] [b] pos) (dTest (dBin r ta tb)) := by
  obtain ⟨r', h, k⟩ := ho
  exact DT.of (pt_cmpR h ha.pe hb.pe hm) fun σ H e M Q sl mr fr q => low_bin k sl mr fr q (bQ_out fun b M' H' m f q => ⟨M', m, f, q⟩)
/-- a op b op' c: the second way is looked at where the first holds -/
def dChain (r r' : R2D) (ta tb tc : DTE) : DTE := fun e M Q E => ta e M (fun x M1 => tb e M1 (fun y M2 => r x y M2 (bQ fun c M3 => if c = true then tc e M3 (fun z M4 => r' y z M4 Q) E else Q (.bl false) M3)) E) E
end
section
variable {K : PySem.W.Frag}
/-- the union of two readings, by the trees -/
theorem OpD.or {X : Cx} {f : Value → Value → Sem Value} {r r' : R2D} (h : OpD X f r) (h' : OpD X f r') : OpD X f (fun x y M Q => r x y M Q ∨ r' x y M Q) := by
  obtain ⟨s, h1, k1⟩ := h
  obtain ⟨s', h2, k2⟩ := h'
  refine ⟨_, h1.or h2, fun M H Mo Ho x y a b Q QV m f i j fin q => ?_⟩
  rcases q with q | q
  · exact .inl (k1 M H Mo Ho x y a b Q QV m f i j fin q)
  · exact .inr (k2 M H Mo Ho x y a b Q QV m f i j fin q)
theorem OpD.imp {X : Cx} {f : Value → Value → Sem Value} {r r' : R2D} (h : OpD X f r) (k : ∀ x y M Q, r' x y M Q → r x y M Q) : OpD X f r' := by
  obtain ⟨s, h1, k1⟩ := h
  exact ⟨s, h1, fun M H Mo Ho x y a b Q QV m f i j fin q => k1 M H Mo Ho x y a b Q QV m f i j fin (k _ _ _ _ q)⟩
end
def dI (C : Int → Int → Prop) (f : Int → Int → D) : R2D := fun x y M Q => match x, y with | .int i, .int j => C i j ∧ Q (f i j) M | _, _ => False
theorem opd_int {X : Cx} {f : Value → Value → Sem Value} {C : Int → Int → Prop} {h : Int → Int → Int} (o : OpR X f (rI C fun i j => .int (h i j))) : OpD X f (dI C fun i j => .int (h i j)) := by
  refine ⟨_, o, fun M H Mo Ho x y a b Q QV m f i j fin q => ?_⟩
  cases a with
  | int k =>
    cases b with
    | int l =>
      rw [is_int] at i j
      exact ⟨k, l, i, j, q.1, fin _ _ _ _ ii_int m f q.2⟩
    | _ => exact q.elim
  | _ => exact q.elim
theorem opd_int0 {X : Cx} {f : Value → Value → Sem Value} {h : Int → Int → Int} (o : OpR X f (rI0 fun i j => .int (h i j))) : OpD X f (dI (fun _ _ => True) fun i j => .int (h i j)) := by
  refine ⟨_, o, fun M H Mo Ho x y a b Q QV m f i j fin q => ?_⟩
  cases a with
  | int k =>
    cases b with
    | int l =>
      rw [is_int] at i j
      exact ⟨k, l, i, j, fin _ _ _ _ ii_int m f q.2⟩
    | _ => exact q.elim
  | _ => exact q.elim
theorem opd_intB {X : Cx} {f : Value → Value → Sem Value} {h : Int → Int → Bool} (o : OpR X f (rI0 fun i j => .bl (h i j))) : OpD X f (dI (fun _ _ => True) fun i j => .bl (h i j)) := by
  refine ⟨_, o, fun M H Mo Ho x y a b Q QV m f i j fin q => ?_⟩
  cases a with
  | int k =>
    cases b with
    | int l =>
      rw [is_int] at i j
      exact ⟨k, l, i, j, fin _ _ _ _ ii_bl m f q.2⟩
    | _ => exact q.elim
  | _ => exact q.elim
/-! a + b -/
def dAddS : R2D := fun x y M Q => match x, y with | .str a, .str b => a.length + b.length ≤ sizeLine ∧ Q (.str (a ++ b)) M | _, _ => False
def dAddT : R2D := fun x y M Q => match x, y with | .tup a, .tup b => a.length + b.length ≤ sizeLine ∧ Q (.tup (a ++ b)) M | _, _ => False
def dAddL : R2D := fun x y M Q => match x, y with
  | .ref a, .ref b => ∃ xs ys, M a = some (.lst xs) ∧ M b = some (.lst ys) ∧ xs.length + ys.length ≤ sizeLine ∧ ∀ p, M p = none → Q (.ref p) (wr M p (.lst (xs ++ ys)))
  | _, _ => False
section
variable {X : Cx}
theorem opd_addS : OpD X (binaryOp .Add) dAddS := by
  refine ⟨_, op_add_str, fun M H Mo Ho x y a b Q QV m f i j fin q => ?_⟩
  cases a with
  | str k =>
    cases b with
    | str l =>
      rw [is_str] at i j
      exact ⟨k, l, i, j, q.1, fin _ _ _ _ ii_str m f q.2⟩
    | _ => exact q.elim
  | _ => exact q.elim
theorem opd_addL : OpD X (binaryOp .Add) dAddL := by
  refine ⟨_, op_cat, fun M H Mo Ho x y a b Q QV m f i j fin q => ?_⟩
  cases a with
  | ref k =>
    cases b with
    | ref l =>
      rw [is_ref] at i j
      obtain ⟨xs, ys, h1, h2, hl, q⟩ := q
      obtain ⟨vs, e1, l1⟩ := m k _ h1
      obtain ⟨ws, e2, l2⟩ := m l _ h2
      exact ⟨k, l, vs, ws, i, j, e1, e2, by rw [l1.length, l2.length]; exact hl, fin.newL m f (l1.append l2) q⟩
    | _ => exact q.elim
  | _ => exact q.elim
theorem opd_addT : OpD X (binaryOp .Add) dAddT := by
  refine ⟨_, op_catA, fun M H Mo Ho x y a b Q QV m f i j fin q => ?_⟩
  cases a with
  | tup k =>
    cases b with
    | tup l =>
      have i0 := i
      have j0 := j
      rw [is_tup] at i j
      obtain ⟨p1, vs, rfl, h1, l1⟩ := i
      obtain ⟨p2, ws, rfl, h2, l2⟩ := j
      refine ⟨p1, p2, vs, ws, rfl, rfl, SqT.of h1, SqT.of h2, by rw [l1.length, l2.length]; exact q.1, fun e => ?_, fun _ e => ?_, fun _ _ => fin.newT m f (l1.append l2) q.2⟩
      · have ek : k = [] := by
          have := l1.length
          rw [e] at this
          exact List.length_eq_zero_iff.mp this.symm
        subst ek
        exact fin _ _ _ _ j0 m f q.2
      · have el : l = [] := by
          have := l2.length
          rw [e] at this
          exact List.length_eq_zero_iff.mp this.symm
        subst el
        have q2 : Q (.tup k) M := by simpa using q.2
        exact fin _ _ _ _ i0 m f q2
    | _ => exact q.elim
  | _ => exact q.elim
/-- the reading of +, by what stands on both sides -/
def dAdd : R2D := fun x y M Q => match x with
  | .int i => (match y with | .int j => Q (.int (i + j)) M | _ => False)
  | .str a => (match y with | .str b => a.length + b.length ≤ sizeLine ∧ Q (.str (a ++ b)) M | _ => False)
  | .tup a => (match y with | .tup b => a.length + b.length ≤ sizeLine ∧ Q (.tup (a ++ b)) M | _ => False)
  | .ref a => (match y with | .ref b => ∃ xs ys, M a = some (.lst xs) ∧ M b = some (.lst ys) ∧ xs.length + ys.length ≤ sizeLine ∧ ∀ p, M p = none → Q (.ref p) (wr M p (.lst (xs ++ ys))) | _ => False)
  | _ => False
theorem opd_add : OpD X (binaryOp .Add) dAdd := by
  refine OpD.imp ((opd_int0 op_add).or (opd_addS.or (opd_addT.or opd_addL))) fun x y M Q q => ?_
  cases x with
  | int i => cases y with
    | int j => exact .inl ⟨trivial, q⟩
    | _ => exact q.elim
  | str i => cases y with
    | str j => exact .inr (.inl q)
    | _ => exact q.elim
  | tup i => cases y with
    | tup j => exact .inr (.inr (.inl q))
    | _ => exact q.elim
  | ref i => cases y with
    | ref j => exact .inr (.inr (.inr q))
    | _ => exact q.elim
  | _ => exact q.elim
def dSub : R2D := dI (fun _ _ => True) fun i j => .int (i - j)
theorem opd_sub : OpD X (binaryOp .Sub) dSub := opd_int0 op_sub
/-- one factor below 2 ^ 64, or both together of less than a million bits -/
def CM (i j : Int) : Prop := CMul i j ∨ CMulW i j
theorem op_mulM : OpR X (binaryOp .Mult) (rI CM fun i j => .int (i * j)) := opI fun _ _ _ _ _ _ _ hc q => mul_int q (hc.elim CMul.ok CMulW.ok)
def dMulI : R2D := dI CM fun i j => .int (i * j)
def dMulL : R2D := fun x y M Q => match x, y with
  | .ref a, .int k => ∃ xs, M a = some (.lst xs) ∧ -(2 ^ 63) ≤ k ∧ k < 2 ^ 63 ∧ xs.length * k.toNat ≤ sizeLine ∧ ∀ p, M p = none → Q (.ref p) (wr M p (.lst (List.replicate k.toNat xs).flatten))
  | _, _ => False
theorem opd_mulL : OpD X (binaryOp .Mult) dMulL := by
  refine ⟨_, op_rep, fun M H Mo Ho x y a b Q QV m f i j fin q => ?_⟩
  cases a with
  | ref k =>
    cases b with
    | int l =>
      rw [is_ref] at i
      rw [is_int] at j
      obtain ⟨xs, h1, b1, b2, b3, q⟩ := q
      obtain ⟨vs, e1, l1⟩ := m k _ h1
      refine ⟨k, l, vs, i, j, e1, b1, b2, by rw [l1.length]; exact b3, fin.newL m f ?_ q⟩
      have : ∀ n : Nat, IsL X.K H (List.replicate n xs).flatten (List.replicate n vs).flatten := fun n => by
        induction n with
        | zero => simp [isL_nil]
        | succ n ih =>
          rw [List.replicate_succ, List.replicate_succ, List.flatten_cons, List.flatten_cons]
          exact l1.append ih
      exact this _
    | _ => exact q.elim
  | _ => exact q.elim
def CD' (i j : Int) : Prop := 0 < j ∧ j < 2 ^ 64
theorem op_fdivD : OpR X (binaryOp .FloorDiv) (rI CD' fun i j => .int (i / j)) := opI fun i j _ _ _ _ _ hc q => by
  have h1 : (0 : Int) < j := hc.1
  refine floordiv_int (by omega) (by rw [Int.fdiv_eq_ediv_of_nonneg i (by omega)]; exact q) (.inl (PyProof.noPylong_of_log2 ?_))
  have h2 : j.natAbs < 2 ^ 64 := by
    have := hc.2
    omega
  exact Nat.lt_of_lt_of_le (PySem.Flt.log2_lt_of (by decide) h2) (by decide)
def dFdiv : R2D := dI CD' fun i j => .int (i / j)
theorem opd_fdiv : OpD X (binaryOp .FloorDiv) dFdiv := opd_int op_fdivD
def dMod : R2D := dI (fun _ j => 0 < j) fun i j => .int (i % j)
theorem opd_mod : OpD X (binaryOp .Mod) dMod := opd_int op_mod
end
section
variable {X : Cx}
/-! == and != : numbers and texts at once, data of any depth by PD -/
/-- what == looks through -/
def okP (p : PyData) : Bool := p.plain && decide (p.depth ≤ 64)
theorem okP.pl {p : PyData} (h : okP p = true) : p.plain = true := (Bool.and_eq_true_iff.mp h).1
theorem okP.dp {p : PyData} (h : okP p = true) : p.depth ≤ 64 := of_decide_eq_true (Bool.and_eq_true_iff.mp h).2
mutual
theorem plain_nodict : ∀ p : PyData, p.plain = true → p.hasDict = false
  | .none, _ => by simp [PyData.hasDict]
  | .bool _, _ => by simp [PyData.hasDict]
  | .int _, _ => by simp [PyData.hasDict]
  | .str _, _ => by simp [PyData.hasDict]
  | .list xs, h => by
    rw [PyData.plain] at h
    simpa [PyData.hasDict] using plain_nodictL xs h
  | .tuple xs, h => by
    rw [PyData.plain] at h
    simpa [PyData.hasDict] using plain_nodictL xs h
  | .dict _, h => by rw [PyData.plain] at h; cases h
theorem plain_nodictL : ∀ ps : List PyData, PyData.plainAll ps = true → PyData.hasDictAll ps = false
  | [], _ => by simp [PyData.hasDictAll]
  | p :: ps, h => by
    rw [PyData.plainAll, Bool.and_eq_true] at h
    simp [PyData.hasDictAll, plain_nodict p h.1, plain_nodictL ps h.2]
end
def rEqP (K : PySem.W.Frag) (neg : Bool) : R2 := fun x y H Q => ∃ M a b p q, MRel K M H ∧ Is K H a x ∧ Is K H b y ∧ PD M a p ∧ PD M b q ∧ okP p = true ∧ okP q = true ∧ Q (.bl (if neg then !PyData.eqv p q else PyData.eqv p q)) H
theorem nodict_of {p : PyData} (h : okP p = true) : p.hasDict = false := plain_nodict p (okP.pl h)
theorem op_eqP (hu : X.A.units + 64 < cLine) : OpR X (compareOp .Eq) (rEqP X.K false) := by
  intro pins s σ H x y v u Q I rx ry h
  obtain ⟨M, a, b, p, q, m, i, j, h1, h2, s1, s2, hq⟩ := h
  obtain ⟨as, r1⟩ := PD.reads I m p a x v h1 i rx (nodict_of s1)
  obtain ⟨bs, r2⟩ := PD.reads I m q b y u h2 j ry (nodict_of s2)
  exact SeqAt.eq_plain r1 r2 (okP.pl s1) (okP.pl s2) (by have := okP.dp s1; have : min p.depth q.depth ≤ p.depth := Nat.min_le_left _ _; omega) ⟨.bl _, H, I, rfl, hq⟩
theorem op_neP (hu : X.A.units + 64 < cLine) : OpR X (compareOp .NotEq) (rEqP X.K true) := by
  intro pins s σ H x y v u Q I rx ry h
  obtain ⟨M, a, b, p, q, m, i, j, h1, h2, s1, s2, hq⟩ := h
  obtain ⟨as, r1⟩ := PD.reads I m p a x v h1 i rx (nodict_of s1)
  obtain ⟨bs, r2⟩ := PD.reads I m q b y u h2 j ry (nodict_of s2)
  exact SeqAt.ne_plain r1 r2 (okP.pl s1) (okP.pl s2) (by have := okP.dp s1; have : min p.depth q.depth ≤ p.depth := Nat.min_le_left _ _; omega) ⟨.bl _, H, I, rfl, hq⟩
/-- the scalars that == tells apart at once -/
def scalD : D → D → Option Bool
  | .int i, .int j => some (decide (i = j))
  | .str i, .str j => some (decide (i = j))
  | .bl i, .bl j => some (decide (i = j))
  | .non, .non => some true
  | .non, .int _ => some false
  | .int _, .non => some false
  | .non, .bl _ => some false
  | .bl _, .non => some false
  | .non, .str _ => some false
  | .str _, .non => some false
  | .int _, .str _ => some false
  | .str _, .int _ => some false
  | .bl _, .str _ => some false
  | .str _, .bl _ => some false
  | _, _ => none
def dEqB (x y : D) (M : Mem) (Q : Bool → Prop) : Prop := match scalD x y with
  | some b => Q b
  | none => ∃ p q, PD M x p ∧ PD M y q ∧ okP p = true ∧ okP q = true ∧ Q (PyData.eqv p q)
def dEq : R2D := fun x y M Q => dEqB x y M fun b => Q (.bl b) M
def dNe : R2D := fun x y M Q => dEqB x y M fun b => Q (.bl (!b)) M
theorem scalD_ok {K : PySem.W.Frag} {H : Hp} {x y : D} {v u : V} {b : Bool} (h : scalD x y = some b) (i : Is K H x v) (j : Is K H y u) : scal v u = true ∧ decide (v = u) = b := by
  cases x with
  | int i' => rw [is_int] at i; subst i; cases y with
    | int j' => rw [is_int] at j; subst j; cases h; exact ⟨rfl, by simp⟩
    | str j' => rw [is_str] at j; subst j; cases h; exact ⟨rfl, by simp⟩
    | non => rw [is_non] at j; subst j; cases h; exact ⟨rfl, by simp⟩
    | _ => cases h
  | str i' => rw [is_str] at i; subst i; cases y with
    | int j' => rw [is_int] at j; subst j; cases h; exact ⟨rfl, by simp⟩
    | str j' => rw [is_str] at j; subst j; cases h; exact ⟨rfl, by simp⟩
    | bl j' => rw [is_bl] at j; subst j; cases h; exact ⟨rfl, by simp⟩
    | non => rw [is_non] at j; subst j; cases h; exact ⟨rfl, by simp⟩
    | _ => cases h
  | bl i' => rw [is_bl] at i; subst i; cases y with
    | bl j' => rw [is_bl] at j; subst j; cases h; exact ⟨rfl, by simp⟩
    | str j' => rw [is_str] at j; subst j; cases h; exact ⟨rfl, by simp⟩
    | non => rw [is_non] at j; subst j; cases h; exact ⟨rfl, by simp⟩
    | _ => cases h
  | non => rw [is_non] at i; subst i; cases y with
    | int j' => rw [is_int] at j; subst j; cases h; exact ⟨rfl, by simp⟩
    | str j' => rw [is_str] at j; subst j; cases h; exact ⟨rfl, by simp⟩
    | bl j' => rw [is_bl] at j; subst j; cases h; exact ⟨rfl, by simp⟩
    | non => rw [is_non] at j; subst j; cases h; exact ⟨rfl, by simp⟩
    | _ => cases h
  | _ => cases h
theorem opd_eq (hu : X.A.units + 64 < cLine) : OpD X (compareOp .Eq) dEq := by
  refine ⟨_, op_eq.or (op_eqP hu), fun M H Mo Ho x y a b Q QV m f i j fin q => ?_⟩
  have q' : dEqB a b M fun c => Q (.bl c) M := q
  unfold dEqB at q'
  cases e : scalD a b with
  | some c =>
    rw [e] at q'
    obtain ⟨z1, z2⟩ := scalD_ok e i j
    exact .inl ⟨z1, by rw [z2]; exact fin _ _ _ _ ii_bl m f q'⟩
  | none =>
    rw [e] at q'
    obtain ⟨p, p', h1, h2, s1, s2, q'⟩ := q'
    exact .inr ⟨M, a, b, p, p', m, i, j, h1, h2, s1, s2, fin _ _ _ _ ii_bl m f q'⟩
theorem opd_ne (hu : X.A.units + 64 < cLine) : OpD X (compareOp .NotEq) dNe := by
  refine ⟨_, op_ne.or (op_neP hu), fun M H Mo Ho x y a b Q QV m f i j fin q => ?_⟩
  have q' : dEqB a b M fun c => Q (.bl (!c)) M := q
  unfold dEqB at q'
  cases e : scalD a b with
  | some c =>
    rw [e] at q'
    obtain ⟨z1, z2⟩ := scalD_ok e i j
    exact .inl ⟨z1, by rw [z2]; exact fin _ _ _ _ ii_bl m f q'⟩
  | none =>
    rw [e] at q'
    obtain ⟨p, p', h1, h2, s1, s2, q'⟩ := q'
    exact .inr ⟨M, a, b, p, p', m, i, j, h1, h2, s1, s2, fin _ _ _ _ ii_bl m f q'⟩
/-! <, <=, >, >= : numbers, texts -/
def ltS (a b : Str) : Bool := decide (a.cps.toList < b.cps.toList)
def dLtS : R2D := fun x y M Q => match x, y with | .str a, .str b => Q (.bl (ltS a b)) M | _, _ => False
theorem opd_ltS : OpD X (compareOp .Lt) dLtS := by
  refine ⟨_, op_lt_str, fun M H Mo Ho x y a b Q QV m f i j fin q => ?_⟩
  cases a with
  | str k => cases b with
    | str l =>
      rw [is_str] at i j
      exact ⟨k, l, i, j, fin _ _ _ _ ii_bl m f q⟩
    | _ => exact q.elim
  | _ => exact q.elim
def dLt : R2D := fun x y M Q => match x with
  | .int i => (match y with | .int j => Q (.bl (decide (i < j))) M | _ => False)
  | .str a => (match y with | .str b => Q (.bl (ltS a b)) M | _ => False)
  | _ => False
theorem opd_lt : OpD X (compareOp .Lt) dLt := by
  refine OpD.imp ((opd_intB op_lt).or opd_ltS) fun x y M Q q => ?_
  cases x with
  | int i => cases y with
    | int j => exact .inl ⟨trivial, q⟩
    | _ => exact q.elim
  | str i => cases y with
    | str j => exact .inr q
    | _ => exact q.elim
  | _ => exact q.elim
def dIB (f : Int → Int → Bool) : R2D := fun x y M Q => match x with
  | .int i => (match y with | .int j => Q (.bl (f i j)) M | _ => False)
  | _ => False
theorem opd_IB {fn : Value → Value → Sem Value} {h : Int → Int → Bool} (o : OpR X fn (rI0 fun i j => .bl (h i j))) : OpD X fn (dIB h) := by
  refine OpD.imp (opd_intB o) fun x y M Q q => ?_
  cases x with
  | int i => cases y with
    | int j => exact ⟨trivial, q⟩
    | _ => exact q.elim
  | _ => exact q.elim
theorem opd_le : OpD X (compareOp .LtE) (dIB fun i j => decide (i ≤ j)) := opd_IB op_le
theorem opd_gt : OpD X (compareOp .Gt) (dIB fun i j => decide (j < i)) := opd_IB op_gt
theorem opd_ge : OpD X (compareOp .GtE) (dIB fun i j => decide (j ≤ i)) := opd_IB op_ge
/-! is, is not: None, truths -/
def isNon : D → Bool
  | .non => true
  | _ => false
def dIs (neg : Bool) : R2D := fun x y M Q => match y with
  | .non => Q (.bl (if neg then !isNon x else isNon x)) M
  | .bl b => (match x with | .bl a => Q (.bl (if neg then !decide (a = b) else decide (a = b))) M | _ => False)
  | _ => False
theorem isNon_iff {K : PySem.W.Frag} {H : Hp} {x : D} {v : V} (i : Is K H x v) : decide (v = V.non) = isNon x := by
  cases x with
  | non => rw [is_non] at i; subst i; rfl
  | bl _ => rw [is_bl] at i; subst i; rfl
  | int _ => rw [is_int] at i; subst i; rfl
  | str _ => rw [is_str] at i; subst i; rfl
  | ref _ => rw [is_ref] at i; subst i; rfl
  | ty _ => rw [is_ty] at i; subst i; rfl
  | tup _ => rw [is_tup] at i; obtain ⟨a, _, rfl, _⟩ := i; rfl
  | rl _ => rw [is_rl] at i; obtain ⟨a, _, rfl, _⟩ := i; rfl
theorem opd_is : OpD X (compareOp .Is) (dIs false) := by
  refine ⟨_, op_isN.or op_is_bl, fun M H Mo Ho x y a b Q QV m f i j fin q => ?_⟩
  cases b with
  | non =>
    rw [is_non] at j
    exact .inl ⟨j, by rw [isNon_iff i]; exact fin _ _ _ _ ii_bl m f q⟩
  | bl c => cases a with
    | bl d =>
      rw [is_bl] at i j
      exact .inr ⟨d, c, i, j, fin _ _ _ _ ii_bl m f q⟩
    | _ => exact q.elim
  | _ => exact q.elim
theorem opd_isNot : OpD X (compareOp .IsNot) (dIs true) := by
  refine ⟨_, op_notN.or op_isnot_bl, fun M H Mo Ho x y a b Q QV m f i j fin q => ?_⟩
  cases b with
  | non =>
    rw [is_non] at j
    exact .inl ⟨j, by rw [isNon_iff i]; exact fin _ _ _ _ ii_bl m f q⟩
  | bl c => cases a with
    | bl d =>
      rw [is_bl] at i j
      exact .inr ⟨d, c, i, j, fin _ _ _ _ ii_bl m f q⟩
    | _ => exact q.elim
  | _ => exact q.elim
end
end DL

/-! in, subscripts, slices, built-in functions and methods by trees. -/
namespace DL
open PySem PySem.Spec PyProof.Rows L2

/-! ### dicts by trees -/
section
variable {κ : Type} [DecidableEq κ]
def valG {α : Type} (kvs : List (κ × α)) (k : κ) : Option α := (kvs.find? fun kv => decide (kv.1 = k)).map (·.2)
def putG {α : Type} (kvs : List (κ × α)) (k : κ) (v : α) : List (κ × α) := if (kvs.any fun kv => decide (kv.1 = k)) = true then kvs.map (fun kv => if kv.1 = k then (kv.1, v) else kv) else kvs ++ [(k, v)]
theorem valG_cons {α : Type} (p : κ × α) (r : List (κ × α)) (k : κ) : valG (p :: r) k = if p.1 = k then some p.2 else valG r k := by
  unfold valG
  by_cases h : p.1 = k <;> simp [List.find?_cons, h]
/-- two lists of pairs with like keys, the values alike -/
def KRel (K : PySem.W.Frag) (H : Hp) (kvs : List (κ × D)) (ws : List (κ × V)) : Prop := ws.map (·.1) = kvs.map (·.1) ∧ IsL K H (kvs.map (·.2)) (ws.map (·.2))
theorem KRel.nil {K : PySem.W.Frag} {H : Hp} : KRel K H ([] : List (κ × D)) [] := ⟨rfl, isL_nil.mpr rfl⟩
theorem KRel.inv {K : PySem.W.Frag} {H : Hp} {k : κ} {d : D} {kvs : List (κ × D)} {ws : List (κ × V)} (h : KRel K H ((k, d) :: kvs) ws) : ∃ v r, ws = (k, v) :: r ∧ Is K H d v ∧ KRel K H kvs r := by
  obtain ⟨h1, h2⟩ := h
  cases ws with
  | nil => simp at h1
  | cons p r =>
    obtain ⟨k', v⟩ := p
    simp only [List.map_cons, List.cons.injEq] at h1 h2
    rw [isL_cons] at h2
    obtain ⟨v', r', e, i, l⟩ := h2
    injection e with e1 e2
    subst e1 e2
    obtain ⟨rfl, h1⟩ := h1
    exact ⟨v, r, rfl, i, h1, l⟩
theorem KRel.mk {K : PySem.W.Frag} {H : Hp} {k : κ} {d : D} {v : V} {kvs : List (κ × D)} {ws : List (κ × V)} (i : Is K H d v) (h : KRel K H kvs ws) : KRel K H ((k, d) :: kvs) ((k, v) :: ws) :=
  ⟨by simp [h.1], IsL.mk i h.2⟩
theorem KRel.nil_of {K : PySem.W.Frag} {H : Hp} {ws : List (κ × V)} (h : KRel K H ([] : List (κ × D)) ws) : ws = [] := by
  have := h.1
  simpa using this
theorem KRel.length {K : PySem.W.Frag} {H : Hp} {kvs : List (κ × D)} {ws : List (κ × V)} (h : KRel K H kvs ws) : ws.length = kvs.length := by
  have := congrArg List.length h.1
  simpa using this
theorem KRel.some {K : PySem.W.Frag} {H : Hp} {k : κ} {d : D} : ∀ {kvs : List (κ × D)} {ws : List (κ × V)}, KRel K H kvs ws → valG kvs k = some d → ∃ v, valV ws k = some v ∧ Is K H d v
  | [], _, _, e => by simp [valG] at e
  | (k', d') :: kvs, ws, h, e => by
    obtain ⟨v, r, rfl, i, t⟩ := h.inv
    rw [valG_cons] at e
    by_cases hk : k' = k
    · rw [if_pos hk] at e
      cases e
      exact ⟨v, valV_pos hk, i⟩
    · rw [if_neg hk] at e
      obtain ⟨u, e1, e2⟩ := KRel.some t e
      exact ⟨u, by rw [valV_neg hk]; exact e1, e2⟩
theorem KRel.none {K : PySem.W.Frag} {H : Hp} {k : κ} : ∀ {kvs : List (κ × D)} {ws : List (κ × V)}, KRel K H kvs ws → valG kvs k = Option.none → valV ws k = Option.none
  | [], _, h, e => by rw [h.nil_of]; rfl
  | (k', d') :: kvs, ws, h, e => by
    obtain ⟨v, r, rfl, i, t⟩ := h.inv
    rw [valG_cons] at e
    by_cases hk : k' = k
    · rw [if_pos hk] at e; cases e
    · rw [if_neg hk] at e
      rw [valV_neg hk]
      exact KRel.none t e
theorem KRel.append {K : PySem.W.Frag} {H : Hp} {kvs k2 : List (κ × D)} {ws w2 : List (κ × V)} (h : KRel K H kvs ws) (h' : KRel K H k2 w2) : KRel K H (kvs ++ k2) (ws ++ w2) := by
  refine ⟨by rw [List.map_append, List.map_append, h.1, h'.1], ?_⟩
  rw [List.map_append, List.map_append]
  exact h.2.append h'.2
theorem KRel.put {K : PySem.W.Frag} {H : Hp} {k : κ} {d : D} {v : V} (i : Is K H d v) {kvs : List (κ × D)} {ws : List (κ × V)} (h : KRel K H kvs ws) : KRel K H (putG kvs k d) (putK ws k v) := by
  have key : ∀ {kvs : List (κ × D)} {ws : List (κ × V)}, KRel K H kvs ws → (kvs.any fun kv => decide (kv.1 = k)) = (ws.any fun kv => decide (kv.1 = k)) := by
    intro kvs
    induction kvs with
    | nil => intro ws h; rw [h.nil_of]; rfl
    | cons p r ih =>
      intro ws h
      obtain ⟨k', d'⟩ := p
      obtain ⟨v, r', rfl, i, t⟩ := h.inv
      simp only [List.any_cons, ih t]
  have rep : ∀ {kvs : List (κ × D)} {ws : List (κ × V)}, KRel K H kvs ws → KRel K H (kvs.map fun kv => if kv.1 = k then (kv.1, d) else kv) (ws.map fun kv => if kv.1 = k then (kv.1, v) else kv) := by
    intro kvs
    induction kvs with
    | nil => intro ws h; rw [h.nil_of]; exact KRel.nil
    | cons p r ih =>
      intro ws h
      obtain ⟨k', d'⟩ := p
      obtain ⟨v', r', rfl, i', t⟩ := h.inv
      simp only [List.map_cons]
      by_cases hk : k' = k
      · rw [if_pos hk, if_pos hk]
        exact KRel.mk i (ih t)
      · rw [if_neg hk, if_neg hk]
        exact KRel.mk i' (ih t)
  unfold putG putK
  rw [key h]
  split
  · exact rep h
  · exact h.append (KRel.mk i KRel.nil)
end
/-- a dict's key -/
def keyD : D → Option Key
  | .int i => some (.inl i)
  | .str s => some (.inr s)
  | _ => none
theorem keyD_is {K : PySem.W.Frag} {H : Hp} {d : D} {v : V} {k : Key} (i : Is K H d v) (e : keyD d = some k) : v = kV k := by
  cases d with
  | int j => cases e; rw [is_int] at i; exact i
  | str j => cases e; rw [is_str] at i; exact i
  | _ => cases e
def keysD : List D → Option (List Key)
  | [] => some []
  | d :: ds => match keyD d, keysD ds with
    | some k, some ks => some (k :: ks)
    | _, _ => none
theorem keysD_is {K : PySem.W.Frag} {H : Hp} : ∀ {ds : List D} {vs : List V} {ks : List Key}, IsL K H ds vs → keysD ds = some ks → vs = ks.map kV
  | [], vs, ks, h, e => by rw [isL_nil] at h; subst h; cases e; rfl
  | d :: ds, vs, ks, h, e => by
    rw [isL_cons] at h
    obtain ⟨v, r, rfl, i, t⟩ := h
    unfold keysD at e
    split at e
    · rename_i k ks' h1 h2
      cases e
      rw [List.map_cons, keyD_is i h1, keysD_is t h2]
    · cases e

/-! ### in, not in -/
/-- the scalars -/
def flatS : D → Bool
  | .non => true
  | .bl _ => true
  | .int _ => true
  | .str _ => true
  | _ => false
def toV : D → V
  | .non => .non
  | .bl b => .bl b
  | .int i => .int i
  | .str s => .str s
  | _ => .non
section
variable {K : PySem.W.Frag} {H : Hp}
theorem flatS_is {d : D} {v : V} (f : flatS d = true) (i : Is K H d v) : v = toV d ∧ flatV v = true := by
  cases d with
  | non => rw [is_non] at i; exact ⟨i, by rw [i]; rfl⟩
  | bl b => rw [is_bl] at i; exact ⟨i, by rw [i]; rfl⟩
  | int b => rw [is_int] at i; exact ⟨i, by rw [i]; rfl⟩
  | str b => rw [is_str] at i; exact ⟨i, by rw [i]; rfl⟩
  | _ => cases f
theorem flatS_all : ∀ {ds : List D} {vs : List V}, ds.all flatS = true → IsL K H ds vs → vs = ds.map toV ∧ vs.all flatV = true
  | [], vs, _, h => by rw [isL_nil] at h; subst h; exact ⟨rfl, rfl⟩
  | d :: ds, vs, f, h => by
    rw [isL_cons] at h
    obtain ⟨v, r, rfl, i, t⟩ := h
    rw [List.all_cons, Bool.and_eq_true] at f
    obtain ⟨e1, f1⟩ := flatS_is f.1 i
    obtain ⟨e2, f2⟩ := flatS_all f.2 t
    exact ⟨by rw [List.map_cons, ← e1, ← e2], by rw [List.all_cons, f1, f2]; rfl⟩
end
/-- x in a row of things, as a truth -/
def inSeq (x : D) (xs : List D) (M : Mem) (Q : Bool → Prop) : Prop :=
  (flatS x = true ∧ xs.all flatS = true ∧ Q (inV (toV x) (xs.map toV))) ∨ ∃ p ps, PD M x p ∧ PDL M xs ps ∧ okP p = true ∧ okP (.list ps) = true ∧ Q (ps.any fun z => PyData.eqv z p)
def dInB (x y : D) (M : Mem) (Q : Bool → Prop) : Prop := match y with
  | .str z => ∃ c, x = .str ⟨#[c]⟩ ∧ Q (decide (c ∈ z.cps.toList))
  | .tup xs => inSeq x xs M Q
  | .rl xs => inSeq x xs M Q
  | .ref a => (∃ xs, M a = some (.lst xs) ∧ inSeq x xs M Q) ∨ (∃ kvs k, M a = some (.dK kvs) ∧ keyD x = some k ∧ Q (valG kvs k).isSome) ∨ ∃ kvs k ks, M a = some (.dT kvs) ∧ x = .tup k ∧ keysD k = some ks ∧ Q (valG kvs ks).isSome
  | _ => False
def dIn (neg : Bool) : R2D := fun x y M Q => dInB x y M fun b => Q (.bl (if neg then !b else b)) M
def rInP (K : PySem.W.Frag) (neg : Bool) : R2 := fun x y H Q => ∃ M d c p ps, MRel K M H ∧ Is K H d x ∧ Is K H c y ∧ PD M d p ∧ (PD M c (.list ps) ∨ PD M c (.tuple ps)) ∧ okP p = true ∧ okP (.list ps) = true ∧ Q (.bl (if neg then !(ps.any fun z => PyData.eqv z p) else ps.any fun z => PyData.eqv z p)) H
theorem shaped_list {ps : List PyData} (h : okP (.list ps) = true) : PyData.plainAll ps = true ∧ PyData.hasDictAll ps = false := by
  have h1 : PyData.plainAll ps = true := by
    have := okP.pl h
    rwa [PyData.plain] at this
  exact ⟨h1, plain_nodictL ps h1⟩
section
variable {X : Cx}
theorem op_inP (hu : X.A.units + 70 < cLine) : OpR X (compareOp .In) (rInP X.K false) := by
  intro pins s σ H x y v u Q I rx ry h
  obtain ⟨M, d, c, p, ps, m, i, j, h1, h2, s1, s2, hq⟩ := h
  obtain ⟨c1, c2⟩ := shaped_list s2
  have hd := okP.dp s1
  obtain ⟨as, r1⟩ := PD.reads I m p d x v h1 i rx (nodict_of s1)
  have hu' : X.A.units + 1 + min (PyData.depthAll ps) p.depth < cLine := by
    have : min (PyData.depthAll ps) p.depth ≤ p.depth := Nat.min_le_right _ _
    omega
  rcases h2 with h2 | h2
  · obtain ⟨bs, r2⟩ := PD.reads I m (.list ps) c y u h2 j ry (by simpa [PyData.hasDict] using c2)
    exact SeqAt.in_list_data r2 r1 c1 (okP.pl s1) hu' ⟨.bl _, H, I, rfl, hq⟩
  · obtain ⟨bs, r2⟩ := PD.reads I m (.tuple ps) c y u h2 j ry (by simpa [PyData.hasDict] using c2)
    exact SeqAt.in_tuple_data r2 r1 c1 (okP.pl s1) hu' ⟨.bl _, H, I, rfl, hq⟩
theorem op_notInP (hu : X.A.units + 70 < cLine) : OpR X (compareOp .NotIn) (rInP X.K true) := by
  intro pins s σ H x y v u Q I rx ry h
  obtain ⟨M, d, c, p, ps, m, i, j, h1, h2, s1, s2, hq⟩ := h
  obtain ⟨c1, c2⟩ := shaped_list s2
  have hd := okP.dp s1
  obtain ⟨as, r1⟩ := PD.reads I m p d x v h1 i rx (nodict_of s1)
  have hu' : X.A.units + 1 + min (PyData.depthAll ps) p.depth < cLine := by
    have : min (PyData.depthAll ps) p.depth ≤ p.depth := Nat.min_le_right _ _
    omega
  rcases h2 with h2 | h2
  · obtain ⟨bs, r2⟩ := PD.reads I m (.list ps) c y u h2 j ry (by simpa [PyData.hasDict] using c2)
    exact SeqAt.notIn_list_data r2 r1 c1 (okP.pl s1) hu' ⟨.bl _, H, I, rfl, hq⟩
  · obtain ⟨bs, r2⟩ := PD.reads I m (.tuple ps) c y u h2 j ry (by simpa [PyData.hasDict] using c2)
    exact SeqAt.notIn_tuple_data r2 r1 c1 (okP.pl s1) hu' ⟨.bl _, H, I, rfl, hq⟩
def rInDict (neg : Bool) : R2 := fun x y H Q => ∃ a o, y = .ref a ∧ DGet H a x o ∧ Q (.bl (if neg then !o.isSome else o.isSome)) H
theorem op_inDict (hu : X.A.units + 1 < cLine) : OpR X (compareOp .In) (rInDict false) := by
  intro pins s σ H x y v u Q I rx ry h
  obtain ⟨a, o, rfl, g, q⟩ := h
  obtain rfl : u = Value.ref a := ry
  exact d_in hu I g rx fun s3 I3 => ⟨.bl o.isSome, H, I3, rfl, q⟩
theorem op_notInDict (hu : X.A.units + 1 < cLine) : OpR X (compareOp .NotIn) (rInDict true) := by
  intro pins s σ H x y v u Q I rx ry h
  obtain ⟨a, o, rfl, g, q⟩ := h
  obtain rfl : u = Value.ref a := ry
  exact d_notIn hu I g rx fun s3 I3 => ⟨.bl (!o.isSome), H, I3, rfl, q⟩
theorem isSome_kr {κ : Type} [DecidableEq κ] {K : PySem.W.Frag} {H : Hp} {kvs : List (κ × D)} {ws : List (κ × V)} (h : KRel K H kvs ws) (k : κ) : (valV ws k).isSome = (valG kvs k).isSome := by
  cases e : valG kvs k with
  | none => rw [h.none e]; rfl
  | some d =>
    obtain ⟨v, e1, _⟩ := h.some e
    rw [e1]; rfl
theorem keyTup {K : PySem.W.Frag} {M : Mem} {H : Hp} (m : MRel K M H) {k : List D} {ks : List Key} {x : V} (i : Is K H (.tup k) x) (e : keysD k = some ks) : ∃ b, x = .ref b ∧ H b = some (.tup (ks.map kV)) := by
  rw [is_tup] at i
  obtain ⟨b, vs, rfl, h, l⟩ := i
  exact ⟨b, rfl, by rw [← keysD_is l e]; exact h⟩
theorem dInB_low {K : PySem.W.Frag} {M : Mem} {H : Hp} {x y : V} {a b : D} {Qb : Bool → Prop} {neg : Bool} {QV : VK} (m : MRel K M H) (i : Is K H a x) (j : Is K H b y) (q : dInB a b M Qb)
    (k : ∀ c, Qb c → QV (.bl (if neg then !c else c)) H) :
    ((∃ (c : Nat) (z : Str), x = .str ⟨#[c]⟩ ∧ y = .str z ∧ QV (.bl (if neg then !decide (c ∈ z.cps.toList) else decide (c ∈ z.cps.toList))) H) ∨ rIn K neg x y H QV) ∨ (rInP K neg x y H QV ∨ rInDict neg x y H QV) := by
  have sq : ∀ xs vs, IsL K H xs vs → (SqL K H (match y with | .ref p => p | _ => 0) vs ∨ SqT K H (match y with | .ref p => p | _ => 0) vs) → (∃ p, y = .ref p) → (∀ ps, PDL M xs ps → PD M b (.list ps) ∨ PD M b (.tuple ps)) → inSeq a xs M Qb →
      ((∃ (c : Nat) (z : Str), x = .str ⟨#[c]⟩ ∧ y = .str z ∧ QV (.bl (if neg then !decide (c ∈ z.cps.toList) else decide (c ∈ z.cps.toList))) H) ∨ rIn K neg x y H QV) ∨ (rInP K neg x y H QV ∨ rInDict neg x y H QV) := by
    intro xs vs l s ⟨p, hp⟩ pd q
    subst hp
    rcases q with ⟨f1, f2, q⟩ | ⟨p', ps, h1, h2, s1, s2, q⟩
    · obtain ⟨e1, g1⟩ := flatS_is f1 i
      obtain ⟨e2, g2⟩ := flatS_all f2 l
      refine .inl (.inr ⟨p, vs, rfl, s, g1, g2, ?_⟩)
      rw [e1, e2]
      exact k _ q
    · exact .inr (.inl ⟨M, a, b, p', ps, m, i, j, h1, pd ps h2, s1, s2, k _ q⟩)
  cases b with
  | str z =>
    rw [is_str] at j
    obtain ⟨c, rfl, q⟩ := q
    rw [is_str] at i
    exact .inl (.inl ⟨c, z, i, j, k _ q⟩)
  | tup xs =>
    have j' := j
    rw [is_tup] at j'
    obtain ⟨p, vs, rfl, h, l⟩ := j'
    exact sq xs vs l (.inr (SqT.of h)) ⟨p, rfl⟩ (fun ps h => .inr (.tup h)) q
  | rl xs =>
    have j' := j
    rw [is_rl] at j'
    obtain ⟨p, vs, rfl, h, l⟩ := j'
    exact sq xs vs l (.inl h.sq) ⟨p, rfl⟩ (fun ps h => .inl (.rl h)) q
  | ref p =>
    have j' := j
    rw [is_ref] at j'
    subst j'
    rcases q with ⟨xs, h, q⟩ | ⟨kvs, k', h, hk, q⟩ | ⟨kvs, k', ks, h, rfl, hk, q⟩
    · obtain ⟨vs, e, l⟩ := m p _ h
      exact sq xs vs l (.inl (SqL.of e)) ⟨p, rfl⟩ (fun ps h' => .inl (.lst h h')) q
    · obtain ⟨ws, e, r⟩ := m p _ h
      refine .inr (.inr ⟨p, valV ws k', rfl, ?_, ?_⟩)
      · rw [keyD_is i hk]; exact DGet.k e
      · rw [isSome_kr r]; exact k _ q
    · obtain ⟨ws, e, r⟩ := m p _ h
      obtain ⟨b, rfl, hb⟩ := keyTup m i hk
      refine .inr (.inr ⟨p, valV ws ks, rfl, DGet.t e hb, ?_⟩)
      rw [isSome_kr r]; exact k _ q
  | _ => exact q.elim
theorem opd_in (hu : X.A.units + 70 < cLine) : OpD X (compareOp .In) (dIn false) :=
  ⟨_, (op_in_sign.or op_in_seq).or ((op_inP hu).or (op_inDict (by omega))), fun M H Mo Ho x y a b Q QV m f i j fin q => dInB_low (neg := false) m i j q fun c h => fin _ _ _ _ ii_bl m f h⟩
theorem opd_notIn (hu : X.A.units + 70 < cLine) : OpD X (compareOp .NotIn) (dIn true) :=
  ⟨_, (op_notIn_sign.or op_notIn_seq).or ((op_notInP hu).or (op_notInDict (by omega))), fun M H Mo Ho x y a b Q QV m f i j fin q => dInB_low (neg := true) m i j q fun c h => fin _ _ _ _ ii_bl m f h⟩
end
end DL

/-! Subscripts, slices, stores, built-in functions and methods by trees. -/
namespace DL
open PySem PySem.Spec PyProof.Rows L2
section
variable {K : PySem.W.Frag} {H : Hp}
theorem IsL.atI {ds : List D} {vs : List V} {i : Int} {d : D} (h : IsL K H ds vs) (e : L2.atI ds i = some d) : ∃ v, L2.atI vs i = some v ∧ Is K H d v := by
  unfold L2.atI at e ⊢
  rw [h.length]
  cases q : ixN ds.length i with
  | none => rw [q] at e; cases e
  | some j =>
    rw [q] at e
    exact h.get e
end
/-- a slice's cut -/
def cutG {α : Type} (xs : List α) (lo hi : Option Int) : List α := (xs.drop (HT.sIx xs.length 0 lo)).take (HT.sIx xs.length xs.length hi - HT.sIx xs.length 0 lo)
theorem IsL.cut {K : PySem.W.Frag} {H : Hp} {ds : List D} {vs : List V} (h : IsL K H ds vs) (lo hi : Option Int) : IsL K H (cutG ds lo hi) (cutV vs lo hi) := by
  unfold cutG cutV
  rw [h.length]
  exact (h.drop _).take _
/-! x[i] -/
def dIx : R2D := fun x y M Q => match x with
  | .str z => (match y with | .int i => z.length ≤ sizeLine ∧ ∃ c, L2.atI z.cps.toList i = some c ∧ Q (.str ⟨#[c]⟩) M | _ => False)
  | .tup xs => (match y with | .int i => ∃ d, L2.atI xs i = some d ∧ Q d M | _ => False)
  | .rl xs => (match y with | .int i => ∃ d, L2.atI xs i = some d ∧ Q d M | _ => False)
  | .ref a => (∃ xs i d, M a = some (.lst xs) ∧ y = .int i ∧ L2.atI xs i = some d ∧ Q d M) ∨ (∃ kvs k d, M a = some (.dK kvs) ∧ keyD y = some k ∧ valG kvs k = some d ∧ Q d M) ∨ ∃ kvs k ks d, M a = some (.dT kvs) ∧ y = .tup k ∧ keysD k = some ks ∧ valG kvs ks = some d ∧ Q d M
  | _ => False
def rIxDict : R2 := fun x y H Q => ∃ a v, x = .ref a ∧ DGet H a y (some v) ∧ Q v H
section
variable {X : Cx}
theorem ix_dict (hu : X.A.units + 1 < cLine) : IxR X rIxDict := by
  intro value slice pins s σ H x y v u Q I rx ry h hs
  obtain ⟨a, w, rfl, g, q⟩ := h
  obtain rfl : v = Value.ref a := rx
  exact tail_any (dict_typeIs I g) PySem.F.slot_dict_getitem.lookup (d_getItem hu I g ry fun w' s3 I3 rw' => ⟨w, H, I3, rw', q⟩) hs
def IxD (X : Cx) (r : R2D) : Prop := ∃ r' : R2, IxR X r' ∧ OpK X.K r r'
theorem ixd (hu : X.A.units + 1 < cLine) : IxD X dIx := by
  refine ⟨_, ix_seq.or (ix_dict hu), fun M H Mo Ho x y a b Q QV m f i j fin q => ?_⟩
  cases a with
  | str z => cases b with
    | int k =>
      rw [is_str] at i
      rw [is_int] at j
      obtain ⟨h1, c, h2, q⟩ := q
      exact .inl (.inr (.inr ⟨z, k, c, i, j, h1, h2, fin _ _ _ _ ii_str m f q⟩))
    | _ => exact q.elim
  | tup xs => cases b with
    | int k =>
      rw [is_tup] at i
      rw [is_int] at j
      obtain ⟨p, vs, rfl, h, l⟩ := i
      obtain ⟨d, h2, q⟩ := q
      obtain ⟨v, e, i⟩ := l.atI h2
      exact .inl (.inr (.inl ⟨p, vs, k, v, rfl, j, SqT.of h, e, fin _ _ _ _ i m f q⟩))
    | _ => exact q.elim
  | rl xs => cases b with
    | int k =>
      rw [is_rl] at i
      rw [is_int] at j
      obtain ⟨p, vs, rfl, h, l⟩ := i
      obtain ⟨d, h2, q⟩ := q
      obtain ⟨v, e, i⟩ := l.atI h2
      exact .inl (.inl ⟨p, vs, k, v, rfl, j, h.sq, e, fin _ _ _ _ i m f q⟩)
    | _ => exact q.elim
  | ref p =>
    rw [is_ref] at i
    subst i
    rcases q with ⟨xs, k, d, h, rfl, h2, q⟩ | ⟨kvs, k, d, h, hk, h2, q⟩ | ⟨kvs, k, ks, d, h, rfl, hk, h2, q⟩
    · rw [is_int] at j
      obtain ⟨vs, e, l⟩ := m p _ h
      obtain ⟨v, e2, i⟩ := l.atI h2
      exact .inl (.inl ⟨p, vs, k, v, rfl, j, SqL.of e, e2, fin _ _ _ _ i m f q⟩)
    · obtain ⟨ws, e, r⟩ := m p _ h
      obtain ⟨v, e2, i⟩ := KRel.some r h2
      refine .inr ⟨p, v, rfl, ?_, fin _ _ _ _ i m f q⟩
      rw [keyD_is j hk, ← e2]
      exact DGet.k e
    · obtain ⟨ws, e, r⟩ := m p _ h
      obtain ⟨v, e2, i⟩ := KRel.some r h2
      obtain ⟨b, rfl, hb⟩ := keyTup m j hk
      refine .inr ⟨p, v, rfl, ?_, fin _ _ _ _ i m f q⟩
      rw [← e2]
      exact DGet.t e hb
  | _ => exact q.elim
end
section
variable {g : Gd} {a b : Expr} {ta tb : DTE} {pos p2 : Pos}
theorem de_ix {r : R2D} (hr : IxD g.X r) (ha : DE g a ta) (hb : DE g b tb) (hs : PlainIx b) : DE g (.Subscript a b pos) (dBin r ta tb) := by
  obtain ⟨r', h, k⟩ := hr
  exact DE.of (pe_ix h ha.pe hb.pe hs) fun σ H e M Q sl mr fr q => low_bin k sl mr fr q fin_low
/-! x[lo:hi] -/
abbrev DTO := Sl → Mem → (Option Int → Mem → Prop) → EX → Prop
/-- an end of a slice -/
structure DO (g : Gd) (x : Option Expr) (t : DTO) : Prop where
  po : ∃ t' : TO, PO g.X x t' ∧ ∀ σ H e M Q (QV : Option Int → Hp → Prop), SRel g.X.K H e σ → MRel g.X.K M H → Fr g.M0 g.H0 M H → t e M Q g.E → (∀ o M' H', MRel g.X.K M' H' → Fr M H M' H' → Q o M' → QV o H') → t' σ H QV
def dNoPart : DTO := fun _ M Q _ => Q none M
def dPart (t : DTE) : DTO := fun e M Q E => t e M (fun x M1 => match x with | .int i => Q (some i) M1 | _ => False) E
theorem do_none : DO g none dNoPart := ⟨_, po_none, fun σ H e M Q QV sl mr fr q k => k _ M H mr Fr.refl q⟩
theorem do_some (h : DE g a ta) : DO g (some a) (dPart ta) := by
  refine ⟨_, po_some h.pe, fun σ H e M Q QV sl mr fr q k => ?_⟩
  refine low_start sl mr fr q fun v d M1 H1 i m f q => ?_
  cases d with
  | int j => rw [is_int] at i; exact ⟨j, i, k _ _ _ m f q⟩
  | _ => exact q.elim
def dSl (x : D) (lo hi : Option Int) (M : Mem) (Q : QE) : Prop := match x with
  | .str z => z.length ≤ sizeLine ∧ Q (.str (cutS z lo hi)) M
  | .tup xs => Q (.tup (cutG xs lo hi)) M
  | .rl xs => ∀ p, M p = none → Q (.ref p) (wr M p (.lst (cutG xs lo hi)))
  | .ref a => ∃ xs, M a = some (.lst xs) ∧ ∀ p, M p = none → Q (.ref p) (wr M p (.lst (cutG xs lo hi)))
  | _ => False
def dSlice (t : DTE) (tl th : DTO) : DTE := fun e M Q E => t e M (fun x M1 => tl e M1 (fun l M2 => th e M2 (fun h M3 => dSl x l h M3 Q) E) E) E
theorem de_slice {lo hi : Option Expr} {tl th : DTO} (ha : DE g a ta) (hl : DO g lo tl) (hh : DO g hi th) : DE g (.Subscript a (.Slice lo hi none p2) pos) (dSlice ta tl th) := by
  obtain ⟨tl', pl, kl⟩ := hl.po
  obtain ⟨th', ph, kh⟩ := hh.po
  refine DE.of (pe_slice (sl_str.or (sl_tupA.or sl_list)) ha.pe pl ph) fun σ H e M Q sl mr fr q => ?_
  refine low_start sl mr fr q fun v d M1 H1 i m f q => ?_
  refine kl σ H1 e M1 _ _ (sl.ext (f.ext mr)) m (fr.trans f) q fun l M2 H2 m2 f2 q => ?_
  have f12 := f.trans f2
  refine kh σ H2 e M2 _ _ (sl.ext (f12.ext mr)) m2 (fr.trans f12) q fun h M3 H3 m3 f3 q => ?_
  have f13 := f12.trans f3
  have i3 : Is g.X.K H3 d v := Is.ext ((f2.trans f3).ext m) _ _ i
  have fin : Fin g.X.K M H Q (lowQ g.X.K M H Q) := fin_low
  cases d with
  | str z =>
    rw [is_str] at i3
    exact .inl ⟨z, i3, q.1, fin _ _ _ _ ii_str m3 f13 q.2⟩
  | tup xs =>
    have j := i3
    rw [is_tup] at j
    obtain ⟨p, vs, rfl, e1, l1⟩ := j
    refine .inr (.inl ⟨p, vs, rfl, SqT.of e1, fun hw => ?_, fun _ => fin.newT m3 f13 (l1.cut _ _) q⟩)
    have : cutG xs l h = xs := by
      unfold cutG
      rw [l1.length] at hw
      rw [hw.1, hw.2, List.drop_zero, Nat.sub_zero, List.take_length]
    have q : Q (.tup (cutG xs l h)) M3 := q
    rw [this] at q
    exact fin _ _ _ _ i3 m3 f13 q
  | rl xs =>
    rw [is_rl] at i3
    obtain ⟨p, vs, rfl, e1, l1⟩ := i3
    exact .inr (.inr ⟨p, vs, rfl, e1.sq, fin.newL m3 f13 (l1.cut _ _) q⟩)
  | ref p =>
    rw [is_ref] at i3
    obtain ⟨xs, hx, q⟩ := q
    obtain ⟨vs, e1, l1⟩ := m3 p _ hx
    exact .inr (.inr ⟨p, vs, i3, SqL.of e1, fin.newL m3 f13 (l1.cut _ _) q⟩)
  | _ => exact q.elim
end
/-! ### x[i] = v -/
section
variable {K : PySem.W.Frag} {M Mo : Mem} {H Ho : Hp}
theorem set_mem (m : MRel K M H) (f : Fr Mo Ho M H) {a : Addr} {u : MO} (h : M a = some u) {u' : MO} {o : HO} (q : MOk K (upd H a o) a u') : MRel K (wr M a u') (upd H a o) ∧ Fr Mo Ho (wr M a u') (upd H a o) :=
  ⟨mr_write m h q, f.trans (fr_write m h)⟩
theorem ext_write (m : MRel K M H) {a : Addr} {u : MO} (h : M a = some u) {o : HO} : Ext K H (upd H a o) := (fr_write (o := o) (u := u) m h).ext m
end
def dSet (o i v : D) (M : Mem) (Q : Mem → Prop) : Prop := match o with
  | .ref a => (∃ xs k j, M a = some (.lst xs) ∧ i = .int k ∧ ixN xs.length k = some j ∧ Q (wr M a (.lst (xs.set j v)))) ∨ (∃ kvs k, M a = some (.dK kvs) ∧ keyD i = some k ∧ kvs.length < sizeLine ∧ Q (wr M a (.dK (putG kvs k v)))) ∨
      ∃ kvs k ks, M a = some (.dT kvs) ∧ i = .tup k ∧ keysD k = some ks ∧ kvs.length < sizeLine ∧ Q (wr M a (.dT (putG kvs ks v)))
  | _ => False
def rSetDict : TSet := fun o i v H Q => ∃ a H', o = .ref a ∧ DPut H a i v H' ∧ Q H'
section
variable {X : Cx}
theorem set_dict (hu : X.A.units + 1 < cLine) : PSet X rSetDict := by
  intro pins s σ H o i v ov iv u Q I ro ri rv h
  obtain ⟨a, H', rfl, g, q⟩ := h
  obtain rfl : ov = Value.ref a := ro
  exact d_setItem hu I g ri rv fun s' I' => ⟨H', I', q⟩
theorem PSet.or {r r' : TSet} (h : PSet X r) (h' : PSet X r') : PSet X (fun o i v H Q => r o i v H Q ∨ r' o i v H Q) := by
  intro pins s σ H o i v ov iv u Q I ro ri rv q
  rcases q with q | q
  · exact h pins s σ H o i v ov iv u Q I ro ri rv q
  · exact h' pins s σ H o i v ov iv u Q I ro ri rv q
theorem dSet_low {M Mo : Mem} {H Ho : Hp} {o i v : V} {a b c : D} {Q : Mem → Prop} {QV : Hp → Prop} (m : MRel X.K M H) (f : Fr Mo Ho M H) (ia : Is X.K H a o) (ib : Is X.K H b i) (ic : Is X.K H c v) (q : dSet a b c M Q)
    (k : ∀ M' H', MRel X.K M' H' → Fr Mo Ho M' H' → Q M' → QV H') : rSetL o i v H QV ∨ rSetDict o i v H QV := by
  cases a with
  | ref p =>
    rw [is_ref] at ia
    subst ia
    rcases q with ⟨xs, n, j, h, rfl, hj, q⟩ | ⟨kvs, n, h, hk, hl, q⟩ | ⟨kvs, n, ks, h, rfl, hk, hl, q⟩
    · rw [is_int] at ib
      obtain ⟨vs, e, l⟩ := m p _ h
      have ex := ext_write m h (o := HO.lst (vs.set j v))
      obtain ⟨m', f'⟩ := set_mem m f h (u' := .lst (xs.set j c)) (o := HO.lst (vs.set j v)) ⟨_, upd_same, IsL.set (Is.ext ex _ _ ic) j (IsL.ext ex _ _ l)⟩
      exact .inl ⟨p, vs, n, j, rfl, ib, e, by rw [l.length]; exact hj, k _ _ m' f' q⟩
    · obtain ⟨ws, e, r⟩ := m p _ h
      have ex := ext_write m h (o := HO.dK (putK ws n v))
      have r' : KRel X.K (upd H p (HO.dK (putK ws n v))) kvs ws := ⟨r.1, IsL.ext ex _ _ r.2⟩
      obtain ⟨m', f'⟩ := set_mem m f h (u' := .dK (putG kvs n c)) (o := HO.dK (putK ws n v)) ⟨_, upd_same, KRel.put (Is.ext ex _ _ ic) r'⟩
      refine .inr ⟨p, _, rfl, ?_, k _ _ m' f' q⟩
      rw [keyD_is ib hk]
      exact DPut.k e (by rw [KRel.length r]; exact hl)
    · obtain ⟨ws, e, r⟩ := m p _ h
      have ex := ext_write m h (o := HO.dT (putK ws ks v))
      have r' : KRel X.K (upd H p (HO.dT (putK ws ks v))) kvs ws := ⟨r.1, IsL.ext ex _ _ r.2⟩
      obtain ⟨m', f'⟩ := set_mem m f h (u' := .dT (putG kvs ks c)) (o := HO.dT (putK ws ks v)) ⟨_, upd_same, KRel.put (Is.ext ex _ _ ic) r'⟩
      obtain ⟨b, rfl, hb⟩ := keyTup m ib hk
      exact .inr ⟨p, _, rfl, DPut.t e hb (by rw [KRel.length r]; exact hl), k _ _ m' f' q⟩
  | _ => exact q.elim
end

/-! ### argument lists, displays -/
def DAP (g : Gd) (pins : List (Addr × Obj)) (σ : L2.St) (e : Sl) (M : Mem) (H : Hp) (Q : List D → Mem → Prop) (us : List Value) (s' : Shared) : Prop :=
  ∃ vs ds H' M', Vals vs us ∧ IsL g.X.K H' ds vs ∧ SI g pins σ H' s' e M' ∧ Fr M H M' H' ∧ Q ds M'
/-- an argument list, without a star -/
structure DA (g : Gd) (xs : List Expr) (t : DTA) : Prop where
  pa : ∃ t' : TA, PA g.X xs t' ∧ ∀ σ H e M Q (QV : List V → Hp → Prop), SRel g.X.K H e σ → MRel g.X.K M H → Fr g.M0 g.H0 M H → t e M Q g.E →
    (∀ ds vs M' H', IsL g.X.K H' ds vs → MRel g.X.K M' H' → Fr M H M' H' → Q ds M' → QV vs H') → t' σ H QV
  star : ∀ env, (starEach xs env).any (·.1) = false
def dNil : DTA := fun _ M Q _ => Q [] M
def dCons (t : DTE) (r : DTA) : DTA := fun e M Q E => t e M (fun x M1 => r e M1 (fun xs M2 => Q (x :: xs) M2) E) E
def isStar : Expr → Bool
  | .Starred _ _ => true
  | _ => false
theorem star_cons {x : Expr} {xs : List Expr} {env : PySem.Env} (h : isStar x = false) : starEach (x :: xs) env = (false, eval x env) :: starEach xs env := by
  cases x <;> first | rfl | cases h
section
variable {g : Gd} {x : Expr} {xs : List Expr} {t : DTE} {r : DTA} {pos : Pos}
theorem da_nil : DA g [] dNil := ⟨⟨_, pa_nil, fun σ H e M Q QV sl mr fr q k => k [] [] M H (isL_nil.mpr rfl) mr Fr.refl q⟩, fun _ => rfl⟩
theorem da_cons (h : DE g x t) (hr : DA g xs r) (ns : isStar x = false) : DA g (x :: xs) (dCons t r) := by
  obtain ⟨r', p, k⟩ := hr.pa
  refine ⟨⟨_, pa_cons h.pe p (star_cons ns), fun σ H e M Q QV sl mr fr q kk => ?_⟩, fun env => by rw [star_cons ns, List.any_cons, hr.star]; rfl⟩
  refine low_start sl mr fr q fun v d M1 H1 i m f q => ?_
  refine k σ H1 e M1 _ _ (sl.ext (f.ext mr)) m (fr.trans f) q fun ds vs M2 H2 l m2 f2 q => ?_
  exact kk (d :: ds) (v :: vs) M2 H2 (IsL.mk (Is.ext (f2.ext m) _ _ i) l) m2 (f.trans f2) q
def dTup (r : DTA) : DTE := fun e M Q E => r e M (fun xs M1 => xs.length ≤ sizeLine ∧ Q (.tup xs) M1) E
def dLst (r : DTA) : DTE := fun e M Q E => r e M (fun xs M1 => xs.length ≤ sizeLine ∧ ∀ p, M1 p = none → Q (.ref p) (wr M1 p (.lst xs))) E
theorem de_tup {n : Nat} (h : DA g xs r) : DE g (.Tuple xs n pos) (dTup r) := by
  obtain ⟨r', p, k⟩ := h.pa
  refine DE.of (pe_tup p) fun σ H e M Q sl mr fr q => ?_
  refine k σ H e M _ _ sl mr fr q fun ds vs M1 H1 l m f q => ?_
  exact ⟨by rw [l.length]; exact q.1, fin_low.newT m f l q.2⟩
theorem de_lst (h : DA g xs r) : DE g (.List xs pos) (dLst r) := by
  obtain ⟨r', p, k⟩ := h.pa
  refine DE.of (pe_lst p) fun σ H e M Q sl mr fr q => ?_
  refine k σ H e M _ _ sl mr fr q fun ds vs M1 H1 l m f q => ?_
  exact ⟨by rw [l.length]; exact q.1, fin_low.newL m f l q.2⟩
end
/-! ### built-in functions, types and methods -/
abbrev RnD := List D → Mem → QE → Prop
def CallK (K : PySem.W.Frag) (r : RnD) (r' : List V → Hp → VK → Prop) : Prop := ∀ (M : Mem) (H : Hp) (Mo : Mem) (Ho : Hp) (vs : List V) (ds : List D) (Q : QE) (QV : VK), MRel K M H → Fr Mo Ho M H → IsL K H ds vs → Fin K Mo Ho Q QV → r ds M Q → r' vs H QV
def CallD (X : Cx) (f : Value) (r : RnD) : Prop := ∃ r', CallR X f r' ∧ CallK X.K r r'
theorem CallD.or {X : Cx} {f : Value} {r s : RnD} (h : CallD X f r) (h' : CallD X f s) : CallD X f (fun ds M Q => r ds M Q ∨ s ds M Q) := by
  obtain ⟨r', h1, k1⟩ := h
  obtain ⟨s', h2, k2⟩ := h'
  refine ⟨_, h1.or h2, fun M H Mo Ho vs ds Q QV m f l fin q => ?_⟩
  rcases q with q | q
  · exact .inl (k1 M H Mo Ho vs ds Q QV m f l fin q)
  · exact .inr (k2 M H Mo Ho vs ds Q QV m f l fin q)
theorem CallD.imp {X : Cx} {f : Value} {r s : RnD} (h : CallD X f r) (k : ∀ ds M Q, s ds M Q → r ds M Q) : CallD X f s := by
  obtain ⟨r', h1, k1⟩ := h
  exact ⟨r', h1, fun M H Mo Ho vs ds Q QV m f l fin q => k1 M H Mo Ho vs ds Q QV m f l fin (k _ _ _ q)⟩
def dCall (r : RnD) (t : DTA) : DTE := fun e M Q E => t e M (fun ds M1 => r ds M1 Q) E
/-- a builtin's method: MtD -/
abbrev RmD := D → List D → Mem → QE → Prop
def MtK (K : PySem.W.Frag) (r : RmD) (r' : V → List V → Hp → VK → Prop) : Prop := ∀ (M : Mem) (H : Hp) (Mo : Mem) (Ho : Hp) (x : V) (a : D) (vs : List V) (ds : List D) (Q : QE) (QV : VK), MRel K M H → Fr Mo Ho M H → Is K H a x → IsL K H ds vs → Fin K Mo Ho Q QV → r a ds M Q → r' x vs H QV
/-- the receiver is of the type T -/
def isTy (T : String) (a : D) (M : Mem) : Prop := match a with
  | .str _ => T = "str"
  | .rl _ => T = "list"
  | .ref p => (T = "list" ∧ ∃ xs, M p = some (.lst xs)) ∨ (T = "dict" ∧ ((∃ kvs, M p = some (.dK kvs)) ∨ ∃ kvs, M p = some (.dT kvs)))
  | _ => False
structure MtD (X : Cx) (T : String) (name : Str) (id : String) (r : RmD) : Prop where
  pa : PlainAttrs T
  slot : Slot T name id
  hty : typeOf (.builtin id) = pure (.type "method_descriptor")
  run : ∃ r', MtR X id r' ∧ MtK X.K r r'
def dMt (T : String) (r : RmD) (to : DTE) (t : DTA) : DTE := fun e M Q E => to e M (fun x M1 => isTy T x M1 ∧ t e M1 (fun ds M2 => r x ds M2 Q) E) E
theorem bt_any {g : Gd} {xs : List Expr} {r : DTA} {pos : Pos} (h : DA g xs r) : (backTo pos (starEach xs g.X.env)).any (·.1) = false := by
  have := h.star g.X.env
  unfold backTo
  rw [List.any_map]
  exact this
section
variable {g : Gd} {x : Expr} {xs : List Expr} {t : DTE} {r : DTA} {pos p apos : Pos} {n : Str} {id T : String}
theorem de_callB {rd : RnD} (hc : CallD g.X (.builtin id) rd) (hg : Gl g.X n) (hm : g.X.mg n = none) (hv : bootBuiltins n = some (.builtin id)) (hx : DE g x t) (ha : DA g xs r) (ns : isStar x = false) (hn : n ≠ "__name__") (hdb : (n == ("__debug__" : Str)) = false) :
    DE g (.Call (.Name n p) (x :: xs) [] pos) (dCall rd (dCons t r)) := by
  obtain ⟨r', h, k⟩ := hc
  obtain ⟨ta, pa, ka⟩ := (da_cons hx ha ns).pa
  exact DE.of (pe_callB h hg hm hv pa hn hdb (star_cons ns) (bt_any ha)) fun σ H e M Q sl mr fr q => ka σ H e M _ _ sl mr fr q fun ds vs M1 H1 l m f q => k M1 H1 M H vs ds Q _ m f l fin_low q
theorem de_callT {rd : RnD} (hc : CallD g.X (.type T) rd) (hg : Gl g.X n) (hm : g.X.mg n = none) (hv : bootBuiltins n = some (.type T)) (hx : DE g x t) (ha : DA g xs r) (ns : isStar x = false) (hn : n ≠ "__name__") (hdb : (n == ("__debug__" : Str)) = false) :
    DE g (.Call (.Name n p) (x :: xs) [] pos) (dCall rd (dCons t r)) := by
  obtain ⟨r', h, k⟩ := hc
  obtain ⟨ta, pa, ka⟩ := (da_cons hx ha ns).pa
  exact DE.of (pe_callTy h hg hm hv pa hn hdb (star_cons ns) (bt_any ha)) fun σ H e M Q sl mr fr q => ka σ H e M _ _ sl mr fr q fun ds vs M1 H1 l m f q => k M1 H1 M H vs ds Q _ m f l fin_low q
theorem isTy_low {K : PySem.W.Frag} {T : String} {a : D} {M : Mem} {H : Hp} {x : V} (m : MRel K M H) (i : Is K H a x) (h : isTy T a M) : tyV K T x H := by
  cases a with
  | str z => rw [is_str] at i; subst i; exact h
  | rl xs => rw [is_rl] at i; obtain ⟨p, vs, rfl, e, l⟩ := i; exact .inl ⟨h, vs, e.sq⟩
  | ref p =>
    rw [is_ref] at i
    subst i
    rcases h with ⟨h1, xs, h2⟩ | ⟨h1, h2⟩
    · obtain ⟨vs, e, l⟩ := m p _ h2
      exact .inl ⟨h1, vs, SqL.of e⟩
    · rcases h2 with ⟨kvs, h2⟩ | ⟨kvs, h2⟩
      · obtain ⟨ws, e, r⟩ := m p _ h2
        exact .inr (.inr (.inl ⟨h1, .inl ⟨ws, e⟩⟩))
      · obtain ⟨ws, e, r⟩ := m p _ h2
        exact .inr (.inr (.inl ⟨h1, .inr ⟨ws, e⟩⟩))
  | _ => exact h.elim
theorem de_mt {o : Expr} {to : DTE} {rd : RmD} (hm : MtD g.X T n id rd) (ho : DE g o to) (hx : DE g x t) (ha : DA g xs r) (ns : isStar x = false) (hbase : attributeBase o n g.X.env (eval o g.X.env) = eval o g.X.env)
    (hfew : ((backTo pos (starEach (x :: xs) g.X.env)).all (fun z => !z.1) && (backToKw pos (keywordEach [] g.X.env)).all (fun z => z.1.isSome)
      && decide ((x :: xs).length + ([] : List Keyword).length + (if ([] : List Keyword).isEmpty then 0 else 1) < 30)) = true)
    (hline : (apos.endLine == pos.line) = true) : DE g (.Call (.Attribute o n apos) (x :: xs) [] pos) (dMt T rd to (dCons t r)) := by
  obtain ⟨r', h, k⟩ := hm.run
  obtain ⟨ta, pa, ka⟩ := (da_cons hx ha ns).pa
  refine DE.of (pe_bm hm.pa hm.slot hm.hty h ho.pe pa hbase hfew hline (star_cons ns) (bt_any ha)) fun σ H e M Q sl mr fr q => ?_
  refine low_start sl mr fr q fun v d M1 H1 i m f q => ?_
  refine ⟨isTy_low m i q.1, ka σ H1 e M1 _ _ (sl.ext (f.ext mr)) m (fr.trans f) q.2 fun ds vs M2 H2 l m2 f2 q => ?_⟩
  exact k M2 H2 M H v d vs ds Q _ m2 (f.trans f2) (Is.ext (f2.ext m) _ _ i) l fin_low q
theorem de_mt0 {o : Expr} {to : DTE} {rd : RmD} (hm : MtD g.X T n id rd) (ho : DE g o to) (hbase : attributeBase o n g.X.env (eval o g.X.env) = eval o g.X.env)
    (hline : (apos.endLine == pos.line) = true) : DE g (.Call (.Attribute o n apos) [] [] pos) (dMt T rd to dNil) := by
  obtain ⟨r', h, k⟩ := hm.run
  refine DE.of (pe_bm0 hm.pa hm.slot hm.hty h ho.pe hbase hline) fun σ H e M Q sl mr fr q => ?_
  refine low_start sl mr fr q fun v d M1 H1 i m f q => ?_
  exact ⟨isTy_low m i q.1, k M1 H1 M H v d [] [] Q _ m f i (isL_nil.mpr rfl) fin_low q.2⟩
end
end DL

/-! Statements, loops, comprehensions by trees. -/
namespace DL
open PySem PySem.Spec PyProof.Rows L2
/-! ### names and constants, truth -/
section
variable {g : Gd} {pos : Pos}
def dSlot (i : Nat) : DTE := fun e M Q _ => match getS e i with | some d => Q d M | none => False
def dC (d : D) : DTE := fun _ M Q _ => Q d M
theorem de_slot {i : Nat} {x : Str} (hN : g.X.N[i]? = some x) (hv : Vis g.X.env.scope x) (hd : (x == ("__debug__" : Str)) = false) (hcd : (x == ("__classdict__" : Str)) = false) : DE g (.Name x pos) (dSlot i) := by
  refine DE.of (pe_var hN hv hd hcd) fun σ H e M Q sl mr fr q => ?_
  have q' : (match getS e i with | some d => Q d M | none => False) := q
  cases h : getS e i with
  | none => rw [h] at q'; exact q'.elim
  | some d =>
    rw [h] at q'
    obtain ⟨v, e1, i⟩ := sl.get h
    exact ⟨v, e1, fin_low _ _ _ _ i mr Fr.refl q'⟩
theorem de_int {i : Int} {j : Nat} : DE g (.Constant (.int i) j pos) (dC (.int i)) := DE.of pe_int fun σ H e M Q sl mr fr q => fin_low _ _ _ _ ii_int mr Fr.refl q
theorem de_bl {i : Bool} {j : Nat} : DE g (.Constant (.bool i) j pos) (dC (.bl i)) := DE.of pe_bl fun σ H e M Q sl mr fr q => fin_low _ _ _ _ ii_bl mr Fr.refl q
theorem de_str {i : Str} {j : Nat} : DE g (.Constant (.str i) j pos) (dC (.str i)) := DE.of pe_str fun σ H e M Q sl mr fr q => fin_low _ _ _ _ ii_str mr Fr.refl q
theorem de_non {j : Nat} : DE g (.Constant .none j pos) (dC .non) := DE.of pe_non fun σ H e M Q sl mr fr q => fin_low _ _ _ _ ii_non mr Fr.refl q
theorem de_glob {x : Str} {d : D} {v : V} {u : Value} (hg : Gl g.X x) (hm : g.X.mg x = some u) (r : RelV v u) (hi : ∀ H, Is g.X.K H d v) (hd : (x == ("__debug__" : Str)) = false) : DE g (.Name x pos) (dC d) :=
  DE.of (pe_glob hg hm r hd) fun σ H e M Q sl mr fr q => fin_low _ _ _ _ (hi H) mr Fr.refl q
theorem de_bltn {x : Str} {d : D} {v : V} {u : Value} (hg : Gl g.X x) (hm : g.X.mg x = none) (hv : bootBuiltins x = some u) (r : RelV v u) (hi : ∀ H, Is g.X.K H d v) (hn : x ≠ "__name__") (hd : (x == ("__debug__" : Str)) = false) : DE g (.Name x pos) (dC d) :=
  DE.of (pe_bltn hg hm hv r hn hd) fun σ H e M Q sl mr fr q => fin_low _ _ _ _ (hi H) mr Fr.refl q
def dNeg (t : DTE) : DTE := fun e M Q E => t e M (fun x M1 => match x with | .int i => Q (.int (-i)) M1 | _ => False) E
theorem de_neg {a : Expr} {t : DTE} (h : DE g a t) : DE g (.UnaryOp .USub a pos) (dNeg t) := by
  refine DE.of (pe_un un_neg h.pe) fun σ H e M Q sl mr fr q => ?_
  refine low_start sl mr fr q fun v d M1 H1 i m f q => ?_
  cases d with
  | int k => rw [is_int] at i; exact ⟨k, i, fin_low _ _ _ _ ii_int m f q⟩
  | _ => exact q.elim
/-- a thing's truth -/
def dTru (x : D) (M : Mem) (Q : Bool → Prop) : Prop := match x with
  | .non => Q false
  | .bl b => Q b
  | .int i => Q (i != 0)
  | .str s => s.length ≤ sizeLine ∧ Q (!decide (s.length = 0))
  | .tup xs => Q (!xs.isEmpty)
  | .rl xs => Q (!xs.isEmpty)
  | .ref a => (∃ xs, M a = some (.lst xs) ∧ Q (!xs.isEmpty)) ∨ ∃ kvs, M a = some (.dK kvs) ∧ Q (!kvs.isEmpty)
  | _ => False
theorem isEmpty_is {K : PySem.W.Frag} {H : Hp} {ds : List D} {vs : List V} (l : IsL K H ds vs) : vs.isEmpty = ds.isEmpty := by
  have := l.length
  cases ds <;> cases vs <;> first | rfl | (simp at this)
theorem dTru_low {K : PySem.W.Frag} {M : Mem} {H : Hp} {d : D} {v : V} {Q : Bool → Prop} (m : MRel K M H) (i : Is K H d v) (q : dTru d M Q) : ∃ b, TruV K v H b ∧ Q b := by
  cases d with
  | non => rw [is_non] at i; subst i; exact ⟨_, rfl, q⟩
  | bl b => rw [is_bl] at i; subst i; exact ⟨_, rfl, q⟩
  | int k => rw [is_int] at i; subst i; exact ⟨_, rfl, q⟩
  | str s =>
    rw [is_str] at i; subst i
    refine ⟨_, ⟨q.1, rfl⟩, ?_⟩
    have e : ((s.length : Int) != 0) = !decide (s.length = 0) := by
      rw [bne]
      congr 1
      rw [Bool.eq_iff_iff]
      simp
    rw [e]; exact q.2
  | tup xs =>
    rw [is_tup] at i
    obtain ⟨p, vs, rfl, e, l⟩ := i
    exact ⟨_, .inr (.inl ⟨vs, SqT.of e, rfl⟩), by rw [isEmpty_is l]; exact q⟩
  | rl xs =>
    rw [is_rl] at i
    obtain ⟨p, vs, rfl, e, l⟩ := i
    exact ⟨_, .inl ⟨vs, e.sq, rfl⟩, by rw [isEmpty_is l]; exact q⟩
  | ref p =>
    rw [is_ref] at i; subst i
    rcases q with ⟨xs, h, q⟩ | ⟨kvs, h, q⟩
    · obtain ⟨vs, e, l⟩ := m p _ h
      exact ⟨_, .inl ⟨vs, SqL.of e, rfl⟩, by rw [isEmpty_is l]; exact q⟩
    · obtain ⟨ws, e, r⟩ := m p _ h
      refine ⟨_, .inr (.inr ⟨ws, e, rfl⟩), ?_⟩
      have : ws.isEmpty = kvs.isEmpty := by
        have := KRel.length r
        cases ws <;> cases kvs <;> first | rfl | (simp at this)
      rw [this]; exact q
  | _ => exact q.elim
def dTruth (t : DTE) : DTT := fun e M Q E => t e M (fun x M1 => dTru x M1 fun b => Q b M1) E
theorem dt_truth {a : Expr} {t : DTE} (h : DE g a t) (he : ∀ whole, isTrue a g.X.env whole = (do let v ← whole; standAt a.pos; holding [v] (truthy v))) : DT g a (dTruth t) := by
  refine DT.of (pt_truth h.pe he) fun σ H e M Q sl mr fr q => ?_
  refine low_start sl mr fr q fun v d M1 H1 i m f q => ?_
  obtain ⟨b, h1, h2⟩ := dTru_low m i q
  exact ⟨b, h1, M1, m, f, h2⟩
/-! and, or, not, if-expressions -/
variable {a b c : Expr} {ta tb tc : DTE} {tA tB : DTT} {rest : List Expr}
/-- a chain of tests, whatever the whole is -/
structure DW (g : Gd) (x : Expr) (t : DTT) : Prop where
  pw : ∃ t' : TT, PW g.X x t' ∧ ∀ σ H e M Q (QV : Bool → Hp → Prop), SRel g.X.K H e σ → MRel g.X.K M H → Fr g.M0 g.H0 M H → t e M Q g.E → (∀ b M' H', MRel g.X.K M' H' → Fr M H M' H' → Q b M' → QV b H') → t' σ H QV
theorem DW.dt {x : Expr} {t : DTT} (h : DW g x t) : DT g x t := by
  obtain ⟨t', p, k⟩ := h.pw
  exact DT.of p.pt fun σ H e M Q sl mr fr q => k σ H e M Q _ sl mr fr q fun b M' H' m f q => ⟨M', m, f, q⟩
def dAndT (t u : DTT) : DTT := fun e M Q E => t e M (fun b M1 => if b = true then u e M1 Q E else Q false M1) E
def dOrT (t u : DTT) : DTT := fun e M Q E => t e M (fun b M1 => if b = true then Q true M1 else u e M1 Q E) E
theorem dw_and1 (h : DT g a tA) : DW g (.BoolOp .And [a] pos) tA := ⟨⟨_, pw_and1 h.pt, fun σ H e M Q QV sl mr fr q k => low_startT sl mr fr q k⟩⟩
theorem dw_or1 (h : DT g a tA) : DW g (.BoolOp .Or [a] pos) tA := ⟨⟨_, pw_or1 h.pt, fun σ H e M Q QV sl mr fr q k => low_startT sl mr fr q k⟩⟩
theorem dw_and (h : DT g a tA) (hb : DW g (.BoolOp .And (b :: rest) pos) tB) : DW g (.BoolOp .And (a :: b :: rest) pos) (dAndT tA tB) := by
  obtain ⟨t', p, k⟩ := hb.pw
  refine ⟨⟨_, pw_and h.pt p, fun σ H e M Q QV sl mr fr q kk => ?_⟩⟩
  refine low_startT sl mr fr q fun b M1 H1 m f q => ?_
  cases b with
  | true => exact k σ H1 e M1 _ _ (sl.ext (f.ext mr)) m (fr.trans f) q fun b M2 H2 m2 f2 q => kk b M2 H2 m2 (f.trans f2) q
  | false => exact kk false M1 H1 m f q
theorem dw_or (h : DT g a tA) (hb : DW g (.BoolOp .Or (b :: rest) pos) tB) : DW g (.BoolOp .Or (a :: b :: rest) pos) (dOrT tA tB) := by
  obtain ⟨t', p, k⟩ := hb.pw
  refine ⟨⟨_, pw_or h.pt p, fun σ H e M Q QV sl mr fr q kk => ?_⟩⟩
  refine low_startT sl mr fr q fun b M1 H1 m f q => ?_
  cases b with
  | true => exact kk true M1 H1 m f q
  | false => exact k σ H1 e M1 _ _ (sl.ext (f.ext mr)) m (fr.trans f) q fun b M2 H2 m2 f2 q => kk b M2 H2 m2 (f.trans f2) q
def dNotT (t : DTT) : DTT := fun e M Q E => t e M (fun b M1 => Q (!b) M1) E
theorem dt_not (h : DT g a tA) : DT g (.UnaryOp .Not a pos) (dNotT tA) :=
  DT.of (pt_not h.pt) fun σ H e M Q sl mr fr q => low_startT sl mr fr q fun b M1 H1 m f q => ⟨M1, m, f, q⟩
/-- values -/
def dAnd (t u : DTE) : DTE := fun e M Q E => t e M (fun x M1 => dTru x M1 fun b => if b = true then u e M1 Q E else Q x M1) E
def dOr (t u : DTE) : DTE := fun e M Q E => t e M (fun x M1 => dTru x M1 fun b => if b = true then Q x M1 else u e M1 Q E) E
def dNot (t : DTE) : DTE := fun e M Q E => t e M (fun x M1 => dTru x M1 fun b => Q (.bl (!b)) M1) E
theorem de_one {op : BoolOp} (h : DE g a ta) : DE g (.BoolOp op [a] pos) ta := DE.of (pe_one h.pe) fun σ H e M Q sl mr fr q => low_start sl mr fr q fun v d M1 H1 i m f q => lowQ.mk i m f q
theorem de_and (h : DE g a ta) (hb : DE g (.BoolOp .And (b :: rest) pos) tb) : DE g (.BoolOp .And (a :: b :: rest) pos) (dAnd ta tb) := by
  refine DE.of (pe_andT h.pe hb.pe) fun σ H e M Q sl mr fr q => ?_
  refine low_start sl mr fr q fun v d M1 H1 i m f q => ?_
  obtain ⟨b, h1, h2⟩ := dTru_low m i q
  refine ⟨b, h1, ?_⟩
  cases b with
  | true => exact low_start (sl.ext (f.ext mr)) m (fr.trans f) h2 fun v2 d2 M2 H2 i2 m2 f2 q2 => lowQ.mk i2 m2 (f.trans f2) q2
  | false => exact lowQ.mk i m f h2
theorem de_or (h : DE g a ta) (hb : DE g (.BoolOp .Or (b :: rest) pos) tb) : DE g (.BoolOp .Or (a :: b :: rest) pos) (dOr ta tb) := by
  refine DE.of (pe_orT h.pe hb.pe) fun σ H e M Q sl mr fr q => ?_
  refine low_start sl mr fr q fun v d M1 H1 i m f q => ?_
  obtain ⟨b, h1, h2⟩ := dTru_low m i q
  refine ⟨b, h1, ?_⟩
  cases b with
  | true => exact lowQ.mk i m f h2
  | false => exact low_start (sl.ext (f.ext mr)) m (fr.trans f) h2 fun v2 d2 M2 H2 i2 m2 f2 q2 => lowQ.mk i2 m2 (f.trans f2) q2
theorem de_not (h : DE g a ta) : DE g (.UnaryOp .Not a pos) (dNot ta) := by
  refine DE.of (pe_notT h.pe) fun σ H e M Q sl mr fr q => ?_
  refine low_start sl mr fr q fun v d M1 H1 i m f q => ?_
  obtain ⟨b, h1, h2⟩ := dTru_low m i q
  exact ⟨b, h1, lowQ.mk ii_bl m f h2⟩
def dIfE (t : DTT) (ta tb : DTE) : DTE := fun e M Q E => t e M (fun b M1 => if b = true then ta e M1 Q E else tb e M1 Q E) E
theorem de_if (hc : DT g c tA) (ha : DE g a ta) (hb : DE g b tb) : DE g (.IfExp c a b pos) (dIfE tA ta tb) := by
  refine DE.of (pe_ifExp hc.pt ha.pe hb.pe) fun σ H e M Q sl mr fr q => ?_
  refine low_startT sl mr fr q fun b M1 H1 m f q => ?_
  cases b with
  | true => exact low_start (sl.ext (f.ext mr)) m (fr.trans f) q fun v2 d2 M2 H2 i2 m2 f2 q2 => lowQ.mk i2 m2 (f.trans f2) q2
  | false => exact low_start (sl.ext (f.ext mr)) m (fr.trans f) q fun v2 d2 M2 H2 i2 m2 f2 q2 => lowQ.mk i2 m2 (f.trans f2) q2
theorem de_chain {op op' : CmpOp} {r r' : R2D} (ho : OpD g.X (compareOp op) r) (ho' : OpD g.X (compareOp op') r') (ha : DE g a ta) (hb : DE g b tb) (hc : DE g c tc)
    (hm : lastMarks [op, op'] [b, c] = false) : DE g (.Compare a [op, op'] [b, c] pos) (dChain r r' ta tb tc) := by
  obtain ⟨s, o1, k1⟩ := ho
  obtain ⟨s', o2, k2⟩ := ho'
  refine DE.of (pe_chain o1 o2 ha.pe hb.pe hc.pe hm) fun σ H e M Q sl mr fr q => ?_
  refine low_start sl mr fr q fun v d M1 H1 i m f q => ?_
  refine low_start (sl.ext (f.ext mr)) m (fr.trans f) q fun v2 d2 M2 H2 i2 m2 f2 q => ?_
  have f12 := f.trans f2
  refine k1 M2 H2 M2 H2 v v2 d d2 _ _ m2 Fr.refl (Is.ext (f2.ext m) _ _ i) i2 ?_ q
  intro v3 d3 M3 H3 i3 m3 f3 q
  cases d3 with
  | bl b =>
    rw [is_bl] at i3
    refine ⟨b, i3, ?_⟩
    have f13 := f12.trans f3
    cases b with
    | true =>
      refine low_start (sl.ext (f13.ext mr)) m3 (fr.trans f13) q fun v4 d4 M4 H4 i4 m4 f4 q => ?_
      exact k2 M4 H4 M H v2 v4 d2 d4 _ _ m4 (f13.trans f4) (Is.ext ((f3.trans f4).ext m2) _ _ i2) i4 fin_low q
    | false => exact lowQ.mk ii_bl m3 f13 q
  | _ => exact q.elim
end

/-! ### statements -/
/-- what a run keeps of memory and heap -/
structure Keep (g : Gd) (P : Mem → Hp → Prop) : Prop where
  step : ∀ M H M' H', P M H → Fr M H M' H' → P M' H'
  sub : ∀ M H M', P M H → Sub M' M → P M' H
  base : ∀ M H, P M H → Fr g.M0 g.H0 M H
/-- DV holds wherever D's tree wishes hold -/
structure EndsLe (g : Gd) (P : Mem → Hp → Prop) (D : DEnds) (DV : Ends) : Prop where
  nx : ∀ σ H e M, SRel g.X.K H e σ → MRel g.X.K M H → P M H → D.nx e M → DV.nx σ H
  rt : ∀ v H d M, Is g.X.K H d v → MRel g.X.K M H → P M H → D.rt d M → DV.rt v H
  bk : ∀ σ H e M, SRel g.X.K H e σ → MRel g.X.K M H → P M H → D.bk e M → DV.bk σ H
  ct : ∀ σ H e M, SRel g.X.K H e σ → MRel g.X.K M H → P M H → D.ct e M → DV.ct σ H
structure DS (g : Gd) (st : Stmt) (t : DTS) : Prop where
  ps : ∃ t' : TS, PS g.X st t' ∧ ∀ P, Keep g P → ∀ σ H e M D DV, SRel g.X.K H e σ → MRel g.X.K M H → P M H → EndsLe g P D DV → t D g.E e M → t' DV σ H
structure DSs (g : Gd) (sts : List Stmt) (t : DTS) : Prop where
  ps : ∃ t' : TS, PSs g.X sts t' ∧ ∀ P, Keep g P → ∀ σ H e M D DV, SRel g.X.K H e σ → MRel g.X.K M H → P M H → EndsLe g P D DV → t D g.E e M → t' DV σ H
def dNext : DTS := fun D _ e M => D.nx e M
def dSeq (t u : DTS) : DTS := fun D E e M => t { D with nx := u D E } E e M
section
variable {g : Gd} {st : Stmt} {sts : List Stmt} {t u : DTS} {x : Expr} {te : DTE} {pos : Pos}
theorem ds_nil : DSs g [] dNext := ⟨⟨_, pss_nil, fun P hP σ H e M D DV sl mr hp le q => le.nx _ _ _ _ sl mr hp q⟩⟩
theorem ds_cons (h : DS g st t) (h2 : DSs g sts u) : DSs g (st :: sts) (dSeq t u) := by
  obtain ⟨t', p, k⟩ := h.ps
  obtain ⟨u', p2, k2⟩ := h2.ps
  refine ⟨⟨_, pss_cons p p2, fun P hP σ H e M D DV sl mr hp le q => ?_⟩⟩
  exact k P hP σ H e M { D with nx := u D g.E } { DV with nx := u' DV } sl mr hp ⟨fun σ' H' e' M' sl' mr' fr' q' => k2 P hP σ' H' e' M' D DV sl' mr' fr' le q', le.rt, le.bk, le.ct⟩ q
/-- what stands in the memory may be forgotten -/
def dForget (t : DTS) : DTS := fun D E e M => ∃ M', Sub M' M ∧ t D E e M'
theorem ds_forget (h : DSs g sts t) : DSs g sts (dForget t) := by
  obtain ⟨t', p, k⟩ := h.ps
  exact ⟨⟨t', p, fun P hP σ H e M D DV sl mr hp le ⟨M', s, q⟩ => k P hP σ H e M' D DV sl (mr.sub s) (hP.sub _ _ _ hp s) le q⟩⟩
theorem ds_pass : DS g (.Pass pos) dNext := ⟨⟨_, ps_pass, fun P hP σ H e M D DV sl mr hp le q => le.nx _ _ _ _ sl mr hp q⟩⟩
theorem ds_break : DS g (.Break pos) (fun D _ e M => D.bk e M) := ⟨⟨_, ps_break, fun P hP σ H e M D DV sl mr hp le q => le.bk _ _ _ _ sl mr hp q⟩⟩
theorem ds_continue : DS g (.Continue pos) (fun D _ e M => D.ct e M) := ⟨⟨_, ps_continue, fun P hP σ H e M D DV sl mr hp le q => le.ct _ _ _ _ sl mr hp q⟩⟩
def dDrop (te : DTE) : DTS := fun D E e M => te e M (fun _ M1 => D.nx e M1) E
theorem ds_expr (h : DE g x te) (hs : swapsWith x none pos.line g.X.env = pure false) : DS g (.Expr x pos) (dDrop te) := by
  refine ⟨⟨_, ps_expr h.pe hs, fun P hP σ H e M D DV sl mr hp le q => ?_⟩⟩
  exact low_start sl mr (hP.base _ _ hp) q fun v d M1 H1 i m f q => le.nx _ _ _ _ (sl.ext (f.ext mr)) m (hP.step _ _ _ _ hp f) q
def dRet (te : DTE) : DTS := fun D E e M => te e M D.rt E
theorem ds_ret (h : DE g x te) : DS g (.Return (some x) pos) (dRet te) := by
  refine ⟨⟨_, ps_ret h.pe, fun P hP σ H e M D DV sl mr hp le q => ?_⟩⟩
  exact low_start sl mr (hP.base _ _ hp) q fun v d M1 H1 i m f q => le.rt _ _ _ _ i m (hP.step _ _ _ _ hp f) q
def dRetN : DTS := fun D _ _ M => D.rt .non M
theorem ds_retN : DS g (.Return none pos) dRetN := ⟨⟨_, ps_retN, fun P hP σ H e M D DV sl mr hp le q => le.rt _ _ _ _ ii_non mr hp q⟩⟩
def dIf (c : DTT) (t u : DTS) : DTS := fun D E e M => c e M (fun b M1 => if b = true then t D E e M1 else u D E e M1) E
theorem ds_if {c : Expr} {a b : List Stmt} {tc : DTT} (hc : DT g c tc) (ha : DSs g a t) (hb : DSs g b u) : DS g (.If c a b pos) (dIf tc t u) := by
  obtain ⟨t', p, k⟩ := ha.ps
  obtain ⟨u', p2, k2⟩ := hb.ps
  refine ⟨⟨_, ps_if hc.pt p p2, fun P hP σ H e M D DV sl mr hp le q => ?_⟩⟩
  refine low_startT sl mr (hP.base _ _ hp) q fun b M1 H1 m f q => ?_
  cases b with
  | true => exact k P hP σ H1 e M1 D DV (sl.ext (f.ext mr)) m (hP.step _ _ _ _ hp f) le q
  | false => exact k2 P hP σ H1 e M1 D DV (sl.ext (f.ext mr)) m (hP.step _ _ _ _ hp f) le q
end
/-! ### targets -/
abbrev DTG := D → Sl → Mem → (Sl → Mem → Prop) → EX → Prop
abbrev DTGs := List D → Sl → Mem → (Sl → Mem → Prop) → EX → Prop
/-- a target that stores into the slots ns at most -/
structure DG (g : Gd) (x : Expr) (t : DTG) (ns : List Nat) : Prop where
  pg : ∃ t' : TG, PG g.X x t' ∧ ∀ σ H e M v d Q (QV : L2.St → Hp → Prop), SRel g.X.K H e σ → MRel g.X.K M H → Fr g.M0 g.H0 M H → Is g.X.K H d v → t d e M Q g.E →
    (∀ σ' H' e' M', SRel g.X.K H' e' σ' → MRel g.X.K M' H' → Fr M H M' H' → (∀ vs, (∀ i ∈ ns, i ∈ vs) → L2.wipe σ' vs = L2.wipe σ vs) → Q e' M' → QV σ' H') → t' v σ H QV
structure DGs (g : Gd) (xs : List Expr) (t : DTGs) (ns : List Nat) : Prop where
  pg : ∃ t' : TGs, PGs g.X xs t' ∧ ∀ σ H e M vs ds Q (QV : L2.St → Hp → Prop), SRel g.X.K H e σ → MRel g.X.K M H → Fr g.M0 g.H0 M H → IsL g.X.K H ds vs → t ds e M Q g.E →
    (∀ σ' H' e' M', SRel g.X.K H' e' σ' → MRel g.X.K M' H' → Fr M H M' H' → (∀ vs, (∀ i ∈ ns, i ∈ vs) → L2.wipe σ' vs = L2.wipe σ vs) → Q e' M' → QV σ' H') → t' vs σ H QV
theorem set_wipe (σ : L2.St) (i : Nat) (w : Option V) : ∀ vs : List Nat, i ∈ vs → L2.wipe (σ.set i w) vs = L2.wipe σ vs
  | [], h => by simp at h
  | v :: vs, h => by
    show (L2.wipe (σ.set i w) vs).set v none = (L2.wipe σ vs).set v none
    have gen : ∀ vs : List Nat, L2.wipe (σ.set i w) vs = L2.wipe σ vs ∨ L2.wipe (σ.set i w) vs = (L2.wipe σ vs).set i w := by
      intro vs
      induction vs with
      | nil => exact .inr rfl
      | cons z zs ih =>
        show (L2.wipe (σ.set i w) zs).set z none = (L2.wipe σ zs).set z none ∨ (L2.wipe (σ.set i w) zs).set z none = ((L2.wipe σ zs).set z none).set i w
        rcases ih with ih | ih
        · exact .inl (by rw [ih])
        · by_cases hz : z = i
          · subst hz
            exact .inl (by rw [ih, List.set_set])
          · exact .inr (by rw [ih, List.set_comm _ _ (Ne.symm hz)])
    by_cases hv : v = i
    · subst hv
      rcases gen vs with h | h
      · rw [h]
      · rw [h, List.set_set]
    · have hm : i ∈ vs := by
        rcases List.mem_cons.mp h with h | h
        · exact absurd h.symm hv
        · exact h
      rw [set_wipe σ i w vs hm]
section
variable {g : Gd} {x : Expr} {xs : List Expr} {pos : Pos} {t : DTG} {u : DTGs} {ns ms : List Nat}
def dgName (i : Nat) : DTG := fun d e M Q _ => Q (setS e i (some d)) M
theorem dg_name {i : Nat} {n : Str} (hN : g.X.N.Nodup) (hi : g.X.N[i]? = some n) (hx : Loc g.X.env.scope n) (hf : g.X.fn n = true ∨ g.X.env.scope.names.lookup n = some .local) : DG g (.Name n pos) (dgName i) [i] :=
  ⟨⟨_, pg_name hN hi hx hf, fun σ H e M v d Q QV sl mr fr id q k => k _ H _ M (SRel.set id i sl) mr Fr.refl (fun vs hv => set_wipe σ i _ vs (hv i (by simp))) q⟩⟩
def dgNil : DTGs := fun ds e M Q _ => ds = [] ∧ Q e M
def dgCons (t : DTG) (u : DTGs) : DTGs := fun ds e M Q E => match ds with
  | d :: r => t d e M (fun e' M' => u r e' M' Q E) E
  | [] => False
theorem dgs_nil : DGs g [] dgNil [] := ⟨⟨_, pgs_nil, fun σ H e M vs ds Q QV sl mr fr il q k => by
  obtain ⟨h, q⟩ := q
  subst h
  rw [isL_nil] at il
  exact ⟨il, k σ H e M sl mr Fr.refl (fun _ _ => rfl) q⟩⟩⟩
theorem assign_cons {env : PySem.Env} (h : isStar x = false) : (assignEach (x :: xs) env).map (·.2) = assign x env :: (assignEach xs env).map (·.2) := by
  cases x <;> first | rfl | cases h
theorem dgs_cons (h : DG g x t ns) (hr : DGs g xs u ms) (hs : isStar x = false) : DGs g (x :: xs) (dgCons t u) (ns ++ ms) := by
  obtain ⟨t', p, k⟩ := h.pg
  obtain ⟨u', p2, k2⟩ := hr.pg
  refine ⟨⟨_, pgs_cons p p2 (assign_cons hs), fun σ H e M vs ds Q QV sl mr fr il q kk => ?_⟩⟩
  cases ds with
  | nil => exact q.elim
  | cons d r =>
    rw [isL_cons] at il
    obtain ⟨v, rv, rfl, i, l⟩ := il
    refine ⟨v, rv, rfl, k σ H e M v d _ _ sl mr fr i q fun σ1 H1 e1 M1 sl1 m1 f1 w1 q => ?_⟩
    refine k2 σ1 H1 e1 M1 rv r _ _ sl1 m1 (fr.trans f1) (IsL.ext (f1.ext mr) _ _ l) q fun σ2 H2 e2 M2 sl2 m2 f2 w2 q => ?_
    exact kk σ2 H2 e2 M2 sl2 m2 (f1.trans f2) (fun vs hv => (w2 vs fun i hi => hv i (List.mem_append_right _ hi)).trans (w1 vs fun i hi => hv i (List.mem_append_left _ hi))) q
def dgTup (u : DTGs) : DTG := fun d e M Q E => match d with
  | .tup ds => u ds e M Q E
  | _ => False
theorem dgs_len : ∀ {xs : List Expr} {env : PySem.Env}, (assignEach xs env).length = xs.length
  | [], _ => rfl
  | x :: xs, env => by
    have ih := dgs_len (xs := xs) (env := env)
    cases x <;> (show (_ :: assignEach xs env).length = _; rw [List.length_cons, List.length_cons, ih])
theorem dgs_nostar : ∀ {xs : List Expr} {env : PySem.Env}, xs.all (fun x => !isStar x) = true → (assignEach xs env).findIdx? (·.1) = none
  | [], _, _ => rfl
  | x :: xs, env, h => by
    rw [List.all_cons, Bool.and_eq_true] at h
    have ih := dgs_nostar (xs := xs) (env := env) h.2
    have h1 : isStar x = false := by simpa using h.1
    have e : assignEach (x :: xs) env = (false, assign x env) :: assignEach xs env := by cases x <;> first | rfl | cases h1
    rw [e, List.findIdx?_cons, ih]
    rfl
theorem dg_tup {k : Nat} (hc : g.X.calm = true) (h : DGs g xs u ns) (hl : ∀ ds e M Q E, u ds e M Q E → ds.length = xs.length) (hst : xs.all (fun x => !isStar x) = true) : DG g (.Tuple xs k pos) (dgTup u) ns := by
  obtain ⟨u', p, k2⟩ := h.pg
  refine ⟨⟨_, pg_tup (n := xs.length) hc p dgs_len (dgs_nostar hst), fun σ H e M v d Q QV sl mr fr i q kk => ?_⟩⟩
  cases d with
  | tup ds =>
    rw [is_tup] at i
    obtain ⟨a, vs, rfl, h1, l⟩ := i
    exact ⟨a, vs, rfl, SqT.of h1, by rw [l.length]; exact hl _ _ _ _ _ q, k2 σ H e M vs ds Q QV sl mr fr l q kk⟩
  | _ => exact q.elim
/-- o[i] as a target -/
def dgSub (to ti : DTE) : DTG := fun d e M Q E => to e M (fun o M1 => ti e M1 (fun i M2 => dSet o i d M2 (fun M3 => Q e M3)) E) E
theorem dg_sub {o i : Expr} {to ti : DTE} (hu : g.X.A.units + 1 < cLine) (ho : DE g o to) (hi : DE g i ti)
    (ha : ∀ v, assign (.Subscript o i pos) g.X.env v = (do
      let ov ← holding [v] (eval o g.X.env)
      let iv ← holding [v, ov] (eval i g.X.env)
      standAt pos
      holding [v, ov, iv] (setItem ov iv v)
      release [v, ov, iv] [])) : DG g (.Subscript o i pos) (dgSub to ti) [] := by
  refine ⟨⟨_, pg_sub ho.pe hi.pe (PSet.or set_list (set_dict hu)) ha, fun σ H e M v d Q QV sl mr fr id q kk => ?_⟩⟩
  refine low_start sl mr fr q fun v1 d1 M1 H1 i1 m1 f1 q => ?_
  refine low_start (sl.ext (f1.ext mr)) m1 (fr.trans f1) q fun v2 d2 M2 H2 i2 m2 f2 q => ?_
  have f12 := f1.trans f2
  refine dSet_low m2 (Fr.refl) (Is.ext (f2.ext m1) _ _ i1) i2 (Is.ext (f12.ext mr) _ _ id) q fun M3 H3 m3 f3 q => ?_
  have f13 := f12.trans f3
  exact kk σ H3 e M3 (sl.ext (f13.ext mr)) m3 f13 (fun _ _ => rfl) q
def dAsg (te : DTE) (gt : DTG) : DTS := fun D E e M => te e M (fun x M1 => gt x e M1 D.nx E) E
theorem ds_asg {y : Expr} {te : DTE} (hy : DE g y te) (hg : DG g x t ns) (hst : isStar x = false) (hs : swapsWithSole [x] y pos.line g.X.env = pure false) (hw : swappedStores [x] y g.X.env = pure none) : DS g (.Assign [x] y pos) (dAsg te t) := by
  obtain ⟨t', p, k⟩ := hg.pg
  refine ⟨⟨_, ps_asg hy.pe p hs hw (by rw [assign_cons hst]; rfl), fun P hP σ H e M D DV sl mr hp le q => ?_⟩⟩
  have fr := hP.base _ _ hp
  refine low_start sl mr fr q fun v d M1 H1 i m f q => ?_
  exact k σ H1 e M1 v d _ _ (sl.ext (f.ext mr)) m (fr.trans f) i q fun σ2 H2 e2 M2 sl2 m2 f2 _ q => le.nx _ _ _ _ sl2 m2 (hP.step _ _ _ _ hp (f.trans f2)) q
end
end DL

/-! Loops and comprehensions by trees. -/
namespace DL
open PySem PySem.Spec PyProof.Rows L2
/-! ### what is walked -/
structure Src where
  items : List D
  live : Mem → Prop
abbrev DTI := Sl → Mem → (Src → Mem → Prop) → EX → Prop
/-- the iterator J of the layer below walks src, from H1 on -/
def JRel (K : PySem.W.Frag) (H1 : Hp) (J : It) (src : Src) : Prop :=
  ∀ (i : Nat) (M : Mem) (H : Hp), MRel K M H → Ext K H1 H → src.live M →
    (∀ d, src.items[i]? = some d → J.go i H ∧ ∀ x H', J.yld i H x H' → Is K H' d x ∧ MRel K M H' ∧ Fr M H M H') ∧ (src.items.length ≤ i → J.stop i H)
structure DI (g : Gd) (tg x : Expr) (w : DTI) : Prop where
  pi : ∃ w' : TI, PI g.X tg x w' ∧ ∀ σ H e M R (RV : It → Hp → Prop), SRel g.X.K H e σ → MRel g.X.K M H → Fr g.M0 g.H0 M H → w e M R g.E →
    (∀ J src M1 H1, JRel g.X.K H1 J src → MRel g.X.K M1 H1 → Fr M H M1 H1 → R src M1 → RV J H1) → w' σ H RV
section
variable {K : PySem.W.Frag} {H1 : Hp}
theorem jrel_of {J : It} {src : Src} {f : Hp → List V → Prop} (hl : ∀ M H, MRel K M H → Ext K H1 H → src.live M → ∃ vs, f H vs ∧ IsL K H src.items vs)
    (go : ∀ i H vs x, f H vs → vs[i]? = some x → J.go i H ∧ ∀ y H', J.yld i H y H' → H' = H ∧ y = x) (stop : ∀ i H vs, f H vs → vs.length ≤ i → J.stop i H) : JRel K H1 J src := fun i M H m fr lv => by
  obtain ⟨vs, h, l⟩ := hl M H m fr lv
  refine ⟨fun d e => ?_, fun e => stop i H vs h (by rw [l.length]; exact e)⟩
  obtain ⟨v, e1, i1⟩ := l.get e
  obtain ⟨g1, g2⟩ := go i H vs v h e1
  refine ⟨g1, fun x H' y => ?_⟩
  obtain ⟨rfl, rfl⟩ := g2 x H' y
  exact ⟨i1, m, Fr.refl⟩
theorem jrel_list {a : Addr} {ds : List D} {P : Mem → Prop} (hl : ∀ M H, MRel K M H → Ext K H1 H → P M → ∃ vs, SqL K H a vs ∧ IsL K H ds vs) : JRel K H1 (Itl K a) ⟨ds, P⟩ :=
  jrel_of (f := fun H vs => SqL K H a vs) hl (fun i H vs x h e => ⟨⟨vs, x, h, e⟩, fun y H' q => ⟨q.1, Option.some.inj ((q.2 vs h).symm.trans e)⟩⟩) fun i H vs h e => ⟨vs, h, e⟩
theorem jrel_tup {a : Addr} {ds : List D} (hl : ∀ M H, MRel K M H → Ext K H1 H → ∃ vs, SqT K H a vs ∧ IsL K H ds vs) : JRel K H1 (Itt K a) ⟨ds, fun _ => True⟩ :=
  jrel_of (f := fun H vs => SqT K H a vs) (fun M H m f _ => hl M H m f) (fun i H vs x h e => ⟨⟨vs, x, h, e⟩, fun y H' q => ⟨q.1, Option.some.inj ((q.2 vs h).symm.trans e)⟩⟩) fun i H vs h e => ⟨vs, h, e⟩
def signs (x : Str) : List D := x.cps.toList.map fun c => D.str ⟨#[c]⟩
theorem isL_map {α : Type} {f : α → D} {h : α → V} {H : Hp} (q : ∀ a, Is K H (f a) (h a)) : ∀ xs : List α, IsL K H (xs.map f) (xs.map h)
  | [] => isL_nil.mpr rfl
  | a :: xs => IsL.mk (q a) (isL_map q xs)
theorem jrel_str {x : Str} : JRel K H1 (Its x) ⟨signs x, fun _ => True⟩ := by
  refine jrel_of (f := fun H vs => vs = x.cps.toList.map fun c => V.str ⟨#[c]⟩) (fun M H m f _ => ⟨_, rfl, isL_map (fun _ => ii_str) _⟩) (fun i H vs y h e => ?_) fun i H vs h e => ?_
  · subst h
    rw [List.getElem?_map] at e
    cases q : x.cps.toList[i]? with
    | none => rw [q] at e; cases e
    | some c =>
      rw [q] at e
      cases e
      have q' : x.cps[i]? = some c := by rw [← q, Array.getElem?_toList]
      refine ⟨(Array.getElem?_eq_some_iff.mp q').1, fun z H' w => ?_⟩
      obtain ⟨w1, c', w2, w3⟩ := w
      rw [q'] at w2
      cases w2
      exact ⟨w1, w3⟩
  · subst h
    rw [List.length_map] at e
    show x.cps.size ≤ i
    simpa using e
def rng (lo : Int) (n : Nat) : List D := (List.range n).map fun i : Nat => D.int (lo + (i : Int))
theorem jrel_range {lo : Int} {n : Nat} : JRel K H1 (Itr lo n) ⟨rng lo n, fun _ => True⟩ := by
  refine jrel_of (f := fun H vs => vs = (List.range n).map fun i : Nat => V.int (lo + (i : Int))) (fun M H m f _ => ⟨_, rfl, isL_map (fun _ => ii_int) _⟩) (fun i H vs y h e => ?_) fun i H vs h e => ?_
  · subst h
    rw [List.getElem?_map] at e
    by_cases hi : i < n
    · rw [List.getElem?_range hi] at e
      cases e
      exact ⟨hi, fun z H' w => w⟩
    · rw [List.getElem?_eq_none (by rw [List.length_range]; omega)] at e
      cases e
  · subst h
    rw [List.length_map, List.length_range] at e
    exact e
/-- items in new pairs: the tree's tuple is laid at a new place -/
theorem jrel_new {J : It} {src : Src} {f : Hp → List (List V) → Prop} {ts : List (List D)} (hs : src.items = ts.map D.tup)
    (hl : ∀ M H, MRel K M H → Ext K H1 H → src.live M → ∃ vss : List (List V), f H vss ∧ vss.length = ts.length ∧ ∀ (i : Nat) (t : List D), ts[i]? = some t → ∃ vs : List V, vss[i]? = some vs ∧ IsL K H t vs)
    (go : ∀ i H vss vs, f H vss → vss[i]? = some vs → J.go i H ∧ ∀ y H', J.yld i H y H' → ∃ T, y = .ref T ∧ H T = none ∧ H' = upd H T (.tup vs)) (stop : ∀ i H vss, f H vss → vss.length ≤ i → J.stop i H) : JRel K H1 J src := fun i M H m fr lv => by
  obtain ⟨vss, h, hn, l⟩ := hl M H m fr lv
  rw [hs]
  refine ⟨fun d e => ?_, fun e => stop i H vss h (by rw [hn]; simpa using e)⟩
  rw [List.getElem?_map] at e
  cases q : ts[i]? with
  | none => rw [q] at e; cases e
  | some t =>
    rw [q] at e
    cases e
    obtain ⟨vs, e1, il⟩ := l i t q
    obtain ⟨g1, g2⟩ := go i H vss vs h e1
    refine ⟨g1, fun x H' y => ?_⟩
    obtain ⟨T, rfl, hT, rfl⟩ := g2 x H' y
    exact ⟨ii_tup upd_same (IsL.ext ((fr_new m hT).ext m) _ _ il), mr_new m hT, fr_new m hT⟩
def enumD (ds : List D) : List (List D) := (List.range ds.length).map fun i => [.int (i : Nat), ds.getD i .non]
theorem jrel_enum {a : Addr} {ds : List D} {P : Mem → Prop} (hl : ∀ M H, MRel K M H → Ext K H1 H → P M → ∃ vs, SqL K H a vs ∧ IsL K H ds vs) : JRel K H1 (Ite K a) ⟨(enumD ds).map D.tup, P⟩ := by
  refine jrel_new (ts := enumD ds) (f := fun H vss => ∃ vs, SqL K H a vs ∧ vss = (List.range vs.length).map fun i => [V.int (i : Nat), vs.getD i .non]) rfl (fun M H m f p => ?_) (fun i H vss ws h e => ?_) fun i H vss h e => ?_
  · obtain ⟨vs, h, l⟩ := hl M H m f p
    refine ⟨_, ⟨vs, h, rfl⟩, by simp [enumD, l.length], fun i t e => ?_⟩
    unfold enumD at e
    rw [List.getElem?_map] at e
    by_cases hi : i < ds.length
    · rw [List.getElem?_range hi] at e
      cases e
      have hi' : i < vs.length := by rw [l.length]; exact hi
      refine ⟨[.int (i : Nat), vs.getD i .non], by rw [List.getElem?_map, List.getElem?_range hi']; rfl, IsL.mk ii_int (IsL.mk ?_ (isL_nil.mpr rfl))⟩
      obtain ⟨v, e1, i1⟩ := l.get (List.getElem?_eq_getElem hi)
      rw [List.getD_eq_getElem?_getD, List.getD_eq_getElem?_getD, e1, List.getElem?_eq_getElem hi]
      exact i1
    · rw [List.getElem?_eq_none (by rw [List.length_range]; omega)] at e
      cases e
  · obtain ⟨vs, h, rfl⟩ := h
    rw [List.getElem?_map] at e
    by_cases hi : i < vs.length
    · rw [List.getElem?_range hi] at e
      cases e
      refine ⟨⟨vs, vs[i], h, List.getElem?_eq_getElem hi⟩, fun y H' q => ?_⟩
      obtain ⟨T, x, h1, h2, h3, h4⟩ := q
      refine ⟨T, h1, h2, ?_⟩
      have e5 : vs.getD i .non = x := by rw [List.getD_eq_getElem?_getD, h4 vs h]; rfl
      rw [h3]
      show _ = upd H T (HO.tup [V.int (i : Nat), vs.getD i .non])
      rw [e5]
    · rw [List.getElem?_eq_none (by rw [List.length_range]; omega)] at e
      cases e
  · obtain ⟨vs, h, rfl⟩ := h
    exact ⟨vs, h, by simpa using e⟩
end
/-- any value that is walked: a text, a tuple, a list -/
def wAny (K : PySem.W.Frag) (te : TE) : TI := fun σ H R => te σ H fun v H1 => (∃ x, v = .str x ∧ R (Its x) H1) ∨ (∃ a xs, v = .ref a ∧ SqT K H1 a xs ∧ R (Itt K a) H1) ∨ ∃ a xs, v = .ref a ∧ SqL K H1 a xs ∧ R (Itl K a) H1
theorem pi_any {X : Cx} {tg x : Expr} {te : TE} (he : PE X x te) : PI X tg x (wAny X.K te) := ⟨fun pins s σ H R I h => thn (he.run pins s σ H _ I h) fun v s1 z => by
  obtain ⟨y, H1, J, r, q⟩ := z
  rcases q with ⟨z, rfl, q⟩ | ⟨a, vs, rfl, hs, q⟩ | ⟨a, vs, rfl, hs, q⟩
  · obtain ⟨t, rfl⟩ := r
    cases ha : z.cps.all (· < 128) with
    | false => exact wpAny_pyIter_wide ha (pi_one (tk := s1.toks) J _ (turn_str _ z t _ (.inr rfl)) ⟨_, Heap.get?_push_size _ rfl, rfl, rfl⟩ q)
    | true => exact wpAny_pyIter_ascii ha (pi_one (tk := s1.toks) J _ (turn_str _ z t _ (.inl rfl)) ⟨_, Heap.get?_push_size _ rfl, rfl, rfl⟩ q)
  · cases r
    obtain ⟨its, rv, p, hz⟩ := J.tuple hs
    exact wpAny_pyIter_tuple (items := its.toArray) p (pi_one (tk := s1.toks) J _ (turn_tuple a _) ⟨_, Heap.get?_push_size _ rfl, rfl, rfl⟩ q)
  · cases r
    obtain ⟨its, rv, p, hz⟩ := J.list hs
    exact wpAny_pyIter_list p.isList (pi_one (tk := s1.toks) J _ (turn_list a _) ⟨_, Heap.get?_push_size _ rfl, rfl, rfl⟩ q)⟩
def walkD (d : D) (M : Mem) (R : Src → Mem → Prop) : Prop := match d with
  | .str x => R ⟨signs x, fun _ => True⟩ M
  | .tup ds => R ⟨ds, fun _ => True⟩ M
  | .rl ds => R ⟨ds, fun _ => True⟩ M
  | .ref a => ∃ ds, M a = some (.lst ds) ∧ R ⟨ds, fun M' => M' a = some (.lst ds)⟩ M
  | _ => False
def diAny (t : DTE) : DTI := fun e M R E => t e M (fun x M1 => walkD x M1 R) E
section
variable {g : Gd} {tg x : Expr} {t : DTE}
theorem di_any (h : DE g x t) : DI g tg x (diAny t) := by
  refine ⟨⟨_, pi_any h.pe, fun σ H e M R RV sl mr fr q k => ?_⟩⟩
  refine low_start sl mr fr q fun v d M1 H1 i m f q => ?_
  cases d with
  | str z => rw [is_str] at i; exact .inl ⟨z, i, k _ _ M1 H1 jrel_str m f q⟩
  | tup ds =>
    rw [is_tup] at i
    obtain ⟨a, vs, rfl, h1, l⟩ := i
    refine .inr (.inl ⟨a, vs, rfl, SqT.of h1, k _ _ M1 H1 (jrel_tup fun M' H' m' f' => ⟨vs, ?_, IsL.ext f' _ _ l⟩) m f q⟩)
    exact SqT.of (f'.1 _ _ h1)
  | rl ds =>
    rw [is_rl] at i
    obtain ⟨a, vs, rfl, h1, l⟩ := i
    refine .inr (.inr ⟨a, vs, rfl, h1.sq, k _ _ M1 H1 (jrel_list fun M' H' m' f' _ => ⟨vs, ?_, IsL.ext f' _ _ l⟩) m f q⟩)
    exact (f'.2 _ _ h1).sq
  | ref a =>
    rw [is_ref] at i
    subst i
    obtain ⟨ds, h1, q⟩ := q
    obtain ⟨vs, e1, l⟩ := m a _ h1
    refine .inr (.inr ⟨a, vs, rfl, SqL.of e1, k _ _ M1 H1 (jrel_list fun M' H' m' f' p => ?_) m f q⟩)
    obtain ⟨ws, e2, l2⟩ := m' a _ p
    exact ⟨ws, SqL.of e2, l2⟩
  | _ => exact q.elim
def diRng1 (r : DTA) : DTI := fun e M R E => r e M (fun ds M1 => match ds with | [.int j] => (-(2 ^ 62) ≤ j ∧ j < 2 ^ 62) ∧ R ⟨rng 0 j.toNat, fun _ => True⟩ M1 | _ => False) E
def diRng2 (r : DTA) : DTI := fun e M R E => r e M (fun ds M1 => match ds with | [.int i, .int j] => (-(2 ^ 62) ≤ i ∧ i < 2 ^ 62 ∧ -(2 ^ 62) ≤ j ∧ j < 2 ^ 62) ∧ R ⟨rng i (j - i).toNat, fun _ => True⟩ M1 | _ => False) E
theorem di_range1 {p pos : Pos} {r : DTA} (hg : Gl g.X "range") (hm : g.X.mg "range" = none) (h : DA g [x] r) (ns : isStar x = false) : DI g tg (.Call (.Name "range" p) [x] [] pos) (diRng1 r) := by
  obtain ⟨ta, pa, ka⟩ := h.pa
  refine ⟨⟨_, pi_range1 hg hm pa (star_cons ns), fun σ H e M R RV sl mr fr q k => ?_⟩⟩
  refine ka σ H e M _ _ sl mr fr q fun ds vs M1 H1 l m f q => ?_
  match ds, q with
  | [.int j], q =>
    rw [isL_cons] at l
    obtain ⟨v, rv, rfl, i, l⟩ := l
    rw [isL_nil] at l
    rw [is_int] at i
    subst l i
    exact ⟨j, rfl, q.1.1, q.1.2, k _ _ M1 H1 jrel_range m f q.2⟩
theorem di_range2 {y : Expr} {p pos : Pos} {r : DTA} (hg : Gl g.X "range") (hm : g.X.mg "range" = none) (h : DA g [x, y] r) (ns : isStar x = false) (ns2 : isStar y = false) : DI g tg (.Call (.Name "range" p) [x, y] [] pos) (diRng2 r) := by
  obtain ⟨ta, pa, ka⟩ := h.pa
  refine ⟨⟨_, pi_range2 hg hm pa (by rw [star_cons ns, star_cons ns2]; rfl) (star_cons ns2), fun σ H e M R RV sl mr fr q k => ?_⟩⟩
  refine ka σ H e M _ _ sl mr fr q fun ds vs M1 H1 l m f q => ?_
  match ds, q with
  | [.int i0, .int j], q =>
    rw [isL_cons] at l
    obtain ⟨v, rv, rfl, i, l⟩ := l
    rw [isL_cons] at l
    obtain ⟨v', rv', rfl, i', l⟩ := l
    rw [isL_nil] at l
    rw [is_int] at i i'
    subst l i i'
    exact ⟨i0, j, rfl, q.1, k _ _ M1 H1 jrel_range m f q.2⟩
/-- enumerate(a list) -/
def diEnum (r : DTA) : DTI := fun e M R E => r e M (fun ds M1 => match ds with
  | [.ref a] => ∃ xs, M1 a = some (.lst xs) ∧ R ⟨(enumD xs).map D.tup, fun M' => M' a = some (.lst xs)⟩ M1
  | [.rl xs] => R ⟨(enumD xs).map D.tup, fun _ => True⟩ M1
  | _ => False) E
theorem di_enum {elts : List Expr} {kk : Nat} {p pos tpos : Pos} {r : DTA} (hg : Gl g.X "enumerate") (hm : g.X.mg "enumerate" = none) (h : DA g [x] r) (ns : isStar x = false) : DI g (.Tuple elts kk tpos) (.Call (.Name "enumerate" p) [x] [] pos) (diEnum r) := by
  obtain ⟨ta, pa, ka⟩ := h.pa
  refine ⟨⟨_, pi_enum hg hm pa (star_cons ns), fun σ H e M R RV sl mr fr q k => ?_⟩⟩
  refine ka σ H e M _ _ sl mr fr q fun ds vs M1 H1 l m f q => ?_
  match ds, q with
  | [.ref a], q =>
    rw [isL_cons] at l
    obtain ⟨v, rv, rfl, i, l⟩ := l
    rw [isL_nil] at l
    rw [is_ref] at i
    subst l i
    obtain ⟨xs, h1, q⟩ := q
    obtain ⟨ws, e1, l1⟩ := m a _ h1
    refine ⟨a, ws, rfl, SqL.of e1, k _ _ M1 H1 (jrel_enum fun M' H' m' f' p => ?_) m f q⟩
    obtain ⟨ws', e2, l2⟩ := m' a _ p
    exact ⟨ws', SqL.of e2, l2⟩
  | [.rl xs], q =>
    rw [isL_cons] at l
    obtain ⟨v, rv, rfl, i, l⟩ := l
    rw [isL_nil] at l
    rw [is_rl] at i
    obtain ⟨a, ws, rfl, h1, l1⟩ := i
    subst l
    exact ⟨a, ws, rfl, h1.sq, k _ _ M1 H1 (jrel_enum (P := fun _ => True) fun M' H' m' f' _ => ⟨ws, (f'.2 _ _ h1).sq, IsL.ext f' _ _ l1⟩) m f q⟩
end
/-! ### for -/
/-- W: what holds at each turn. A turn may forget what stands in the memory: say it in W -/
def dFor (w : DTI) (gt : DTG) (tb : DTS) : DTS := fun D E e M => w e M (fun src M1 => ∃ W : Nat → Sl → Mem → Prop, W 0 e M1 ∧
  (∀ i d e' M', src.items[i]? = some d → W i e' M' → src.live M' ∧ gt d e' M' (fun e2 M2 => tb ⟨W (i + 1), D.rt, D.nx, W (i + 1)⟩ E e2 M2) E) ∧
  ∀ e' M', W src.items.length e' M' → src.live M' ∧ D.nx e' M') E
theorem ds_for {g : Gd} {tg iter : Expr} {body : List Stmt} {w : DTI} {gt : DTG} {tb : DTS} {ns : List Nat} {pos : Pos} (hp : PassesOwn (model g.X.prog g.X.w) g.X.A g.X.env g.X.xe) (hc : g.X.calm = true) (hi : DI g tg iter w) (hg : DG g tg gt ns) (hb : DSs g body tb)
    (hs : ∀ x, foldedSetIterable iter g.X.env x = pure x) : DS g (.For tg iter body [] pos) (dFor w gt tb) := by
  obtain ⟨w', pi, ki⟩ := hi.pi
  obtain ⟨g', pg, kg⟩ := hg.pg
  obtain ⟨b', pb, kb⟩ := hb.ps
  refine ⟨⟨_, ps_for hp hc pi pg pb hs, fun P hP σ H e M D DV sl mr pm le q => ?_⟩⟩
  have fr := hP.base _ _ pm
  refine ki σ H e M _ _ sl mr fr q fun J src M1 H1 jr m1 f1 q => ?_
  obtain ⟨W, h0, turn, last⟩ := q
  have fr1 := fr.trans f1
  have pm1 := hP.step _ _ _ _ pm f1
  refine ⟨fun i n σ' H' => i + n = src.items.length ∧ ∃ e' M', SRel g.X.K H' e' σ' ∧ MRel g.X.K M' H' ∧ (P M' H' ∧ Fr M1 H1 M' H') ∧ W i e' M', ⟨src.items.length, by omega, e, M1, sl.ext (f1.ext mr), m1, ⟨pm1, Fr.refl⟩, h0⟩, fun i n σ' H' hw => ?_⟩
  obtain ⟨hn, e', M', sl', m', ⟨p', f'⟩, hw⟩ := hw
  cases n with
  | zero =>
    have hi : i = src.items.length := by omega
    subst hi
    obtain ⟨lv, q⟩ := last e' M' hw
    exact .inl ⟨(jr _ M' H' m' (f'.ext m1) lv).2 (Nat.le_refl _), le.nx _ _ _ _ sl' m' p' q⟩
  | succ n =>
    have hi : i < src.items.length := by omega
    have hd := List.getElem?_eq_getElem hi
    obtain ⟨lv, q⟩ := turn i _ e' M' hd hw
    obtain ⟨go, yl⟩ := (jr i M' H' m' (f'.ext m1) lv).1 _ hd
    refine .inr ⟨go, fun σ2 H2 => ∃ e2 M2, SRel g.X.K H2 e2 σ2 ∧ MRel g.X.K M2 H2 ∧ (P M2 H2 ∧ Fr M1 H1 M2 H2) ∧ W (i + 1) e2 M2, fun σ2 H2 z => ⟨n, by omega, by omega, z⟩, fun x H2 y => ?_⟩
    obtain ⟨ix, m2, f2⟩ := yl x H2 y
    refine kg σ' H2 e' M' x _ _ _ (sl'.ext (f2.ext m')) m2 (fr1.trans (f'.trans f2)) ix q fun σ3 H3 e3 M3 sl3 m3 f3 _ q => ?_
    have f23 := f2.trans f3
    refine kb (fun M H => P M H ∧ Fr M1 H1 M H) ⟨fun A B C E z f => ⟨hP.step _ _ _ _ z.1 f, z.2.trans f⟩, fun A B C z s => ⟨hP.sub _ _ _ z.1 s, z.2.sub s⟩, fun A B z => hP.base _ _ z.1⟩ σ3 H3 e3 M3 _ _ sl3 m3 ⟨hP.step _ _ _ _ p' f23, f'.trans f23⟩ ?_ q
    exact ⟨fun σ4 H4 e4 M4 s4 m4 p4 q4 => ⟨e4, M4, s4, m4, p4, q4⟩, fun v4 H4 d4 M4 i4 m4 p4 q4 => le.rt _ _ _ _ i4 m4 p4.1 q4, fun σ4 H4 e4 M4 s4 m4 p4 q4 => le.nx _ _ _ _ s4 m4 p4.1 q4, fun σ4 H4 e4 M4 s4 m4 p4 q4 => ⟨e4, M4, s4, m4, p4, q4⟩⟩
/-! ### while -/
def dWhile (c : DTT) (tb : DTS) : DTS := fun D E e M => ∃ W : Nat → Sl → Mem → Prop, (∃ n, W n e M) ∧ ∀ n e' M', W n e' M' →
  c e' M' (fun b M1 => if b = true then tb ⟨fun e2 M2 => ∃ m, m < n ∧ W m e2 M2, D.rt, D.nx, fun e2 M2 => ∃ m, m < n ∧ W m e2 M2⟩ E e' M1 else D.nx e' M1) E
theorem ds_while {g : Gd} {c : Expr} {body : List Stmt} {tc : DTT} {tb : DTS} {pos : Pos} (hp : PassesOwn (model g.X.prog g.X.w) g.X.A g.X.env g.X.xe) (hc : DT g c tc) (hb : DSs g body tb) : DS g (.While c body [] pos) (dWhile tc tb) := by
  obtain ⟨b', pb, kb⟩ := hb.ps
  refine ⟨⟨_, ps_while hp hc.pt pb, fun P hP σ H e M D DV sl mr pm le q => ?_⟩⟩
  obtain ⟨W, ⟨n0, h0⟩, turn⟩ := q
  refine ⟨fun n σ' H' => ∃ e' M', SRel g.X.K H' e' σ' ∧ MRel g.X.K M' H' ∧ P M' H' ∧ W n e' M', ⟨n0, e, M, sl, mr, pm, h0⟩, fun n σ' H' hw => ?_⟩
  obtain ⟨e', M', sl', m', p', hw⟩ := hw
  refine low_startT sl' m' (hP.base _ _ p') (turn n e' M' hw) fun b M1 H1 m1 f1 q => ?_
  have p1 := hP.step _ _ _ _ p' f1
  cases b with
  | false => exact le.nx _ _ _ _ (sl'.ext (f1.ext m')) m1 p1 q
  | true =>
    refine ⟨fun σ2 H2 => ∃ m, m < n ∧ ∃ e2 M2, SRel g.X.K H2 e2 σ2 ∧ MRel g.X.K M2 H2 ∧ P M2 H2 ∧ W m e2 M2, fun σ2 H2 z => z, ?_⟩
    refine kb P hP σ' H1 e' M1 _ _ (sl'.ext (f1.ext m')) m1 p1 ?_ q
    exact ⟨fun σ4 H4 e4 M4 s4 m4 p4 ⟨m, hm, q4⟩ => ⟨m, hm, e4, M4, s4, m4, p4, q4⟩, le.rt, le.nx, fun σ4 H4 e4 M4 s4 m4 p4 ⟨m, hm, q4⟩ => ⟨m, hm, e4, M4, s4, m4, p4, q4⟩⟩
end DL

/-! Comprehensions by trees. -/
namespace DL
open PySem PySem.Spec PyProof.Rows L2
/-! ### a list outside the memory that grows -/
section
variable {K : PySem.W.Frag} {M M1 : Mem} {H H1 : Hp} {p : Addr} {acc acc' : List V}
theorem ext_out (h : H p = some (.lst acc)) : Ext K H (upd H p (.lst acc')) := by
  refine ⟨fun a xs e => ?_, fun a xs e => ?_⟩
  · have ne : a ≠ p := fun z => by subst z; rw [h] at e; cases e
    rw [upd_ne ne]; exact e
  · rcases e with ⟨o, e⟩ | e
    · have ne : a ≠ p := fun z => by subst z; rw [h] at e; cases e
      exact .inl ⟨o, by rw [upd_ne ne]; exact e⟩
    · exact .inr e
theorem mr_out (m : MRel K M H) (h : H p = some (.lst acc)) (n : M p = none) : MRel K M (upd H p (.lst acc')) := fun a o e => by
  have ne : a ≠ p := fun z => by subst z; rw [n] at e; cases e
  exact (m a o e).ext (ext_out h) (upd_ne ne)
theorem fr_out (f : Fr M1 H1 M H) (n1 : H1 p = none) {o : HO} : Fr M1 H1 M (upd H p o) := ⟨fun b u hb hm => by
  have ne : b ≠ p := ne_of_none hb n1
  obtain ⟨h1, h2⟩ := f.keep b u hb hm
  exact ⟨by rw [upd_ne ne]; exact h1, h2⟩, fun b h => f.there b (upd_none h)⟩
end
theorem set_none_mem {σ : L2.St} : ∀ {vs : List Nat} (i : Nat), i ∈ vs → (wipe σ vs).set i none = wipe σ vs
  | [], i, h => by simp at h
  | v :: vs, i, h => by
    show ((wipe σ vs).set v none).set i none = (wipe σ vs).set v none
    by_cases hv : v = i
    · subst hv; rw [List.set_set]
    · have hm : i ∈ vs := by
        rcases List.mem_cons.mp h with h | h
        · exact absurd h.symm hv
        · exact h
      rw [List.set_comm _ _ hv, set_none_mem i hm]
theorem wipe_sub (σ : L2.St) (vs : List Nat) : ∀ us : List Nat, (∀ i ∈ us, i ∈ vs) → wipe (wipe σ vs) us = wipe σ vs
  | [], _ => rfl
  | u :: us, h => by
    show (wipe (wipe σ vs) us).set u none = wipe σ vs
    rw [wipe_sub σ vs us fun i hi => h i (List.mem_cons_of_mem _ hi)]
    exact set_none_mem u (h u (by simp))
theorem wipe_wipe (σ : L2.St) (vs : List Nat) : wipe (wipe σ vs) vs = wipe σ vs := wipe_sub σ vs vs fun _ h => h
/-! ### tests of a clause -/
structure DTs (g : Gd) (ifs : List Expr) (t : DTT) : Prop where
  pt : ∃ t' : TT, PTs g.X ifs t' ∧ ∀ σ H e M Q (QV : Bool → Hp → Prop), SRel g.X.K H e σ → MRel g.X.K M H → Fr g.M0 g.H0 M H → t e M Q g.E → (∀ b M' H', MRel g.X.K M' H' → Fr M H M' H' → Q b M' → QV b H') → t' σ H QV
def dYes : DTT := fun _ M Q _ => Q true M
theorem dts_nil {g : Gd} : DTs g [] dYes := ⟨⟨_, pts_nil, fun σ H e M Q QV sl mr fr q k => k true M H mr Fr.refl q⟩⟩
theorem dts_one {g : Gd} {c : Expr} {t : DTT} (h : DT g c t) : DTs g [c] t := ⟨⟨_, pts_one h.pt, fun σ H e M Q QV sl mr fr q k => low_startT sl mr fr q k⟩⟩
/-- the ground of a comprehension's block -/
abbrev blkG (g : Gd) (scope : Scope) (s : Shared) (H : Hp) (C : Addr) (cl : List (Str × Addr)) (fp : List Addr) (M1 : Mem) (H1 : Hp) : Gd := ⟨g.X.blk s H scope (compEnvC scope cl C g.X.env) fp, M1, H1, EF⟩
/-- in any block of this scope -/
def BlkE (g : Gd) (scope : Scope) (x : Expr) (t : DTE) : Prop := ∀ s H C cl fp M1 H1, DE (blkG g scope s H C cl fp M1 H1) x t
def BlkG (g : Gd) (scope : Scope) (x : Expr) (t : DTG) (ns : List Nat) : Prop := ∃ t' : TG, (∀ s H C cl fp, PG (g.X.blk s H scope (compEnvC scope cl C g.X.env) fp) x t') ∧
  ∀ σ H e M v d Q (QV : L2.St → Hp → Prop), SRel g.X.K H e σ → MRel g.X.K M H → Is g.X.K H d v → t d e M Q EF →
    (∀ σ' H' e' M', SRel g.X.K H' e' σ' → MRel g.X.K M' H' → Fr M H M' H' → (∀ vs, (∀ i ∈ ns, i ∈ vs) → L2.wipe σ' vs = L2.wipe σ vs) → Q e' M' → QV σ' H') → t' v σ H QV
def BlkT (g : Gd) (scope : Scope) (ifs : List Expr) (t : DTT) : Prop := ∃ t' : TT, (∀ s H C cl fp, PTs (g.X.blk s H scope (compEnvC scope cl C g.X.env) fp) ifs t') ∧
  ∀ σ H e M Q (QV : Bool → Hp → Prop), SRel g.X.K H e σ → MRel g.X.K M H → t e M Q EF → (∀ b M' H', MRel g.X.K M' H' → Fr M H M' H' → Q b M' → QV b H') → t' σ H QV
/-- a reading below, whatever the beginning is -/
def lowAny (K : PySem.W.Frag) (t : DTE) : TE := fun σ H Q => ∃ M0 H0, lowK K M0 H0 EF t σ H Q
theorem BlkE.pe {g : Gd} {scope : Scope} {x : Expr} {t : DTE} (h : BlkE g scope x t) (s : Shared) (H : Hp) (C : Addr) (cl : List (Str × Addr)) (fp : List Addr) : PE (g.X.blk s H scope (compEnvC scope cl C g.X.env) fp) x (lowAny g.X.K t) :=
  ⟨fun pins s1 σ H1 Q I ⟨M0, H0, q⟩ => (h s H C cl fp M0 H0).pe.run pins s1 σ H1 Q I q⟩
theorem lowAny_start {K : PySem.W.Frag} {t : DTE} {σ : L2.St} {H : Hp} {e : Sl} {M : Mem} {R : QE} {Q : VK} (sl : SRel K H e σ) (mr : MRel K M H) (h : t e M R EF)
    (k : ∀ v d M' H', Is K H' d v → MRel K M' H' → Fr M H M' H' → R d M' → Q v H') : lowAny K t σ H Q :=
  ⟨M, H, e, M, R, sl, mr, Fr.refl, h, fun v H' ⟨d, M', i, m, f, q⟩ => k v d M' H' i m f q⟩
def lowAnyT (K : PySem.W.Frag) (t : DTT) : TT := fun σ H Q => ∃ M0 H0, lowTK K M0 H0 EF t σ H Q
theorem blkT_nil {g : Gd} {scope : Scope} : BlkT g scope [] dYes := ⟨_, fun _ _ _ _ _ => pts_nil, fun σ H e M Q QV sl mr q k => k true M H mr Fr.refl q⟩
theorem blkT_one {g : Gd} {scope : Scope} {c : Expr} {t : DTT} (h : ∀ s H C cl fp M1 H1, DT (blkG g scope s H C cl fp M1 H1) c t) : BlkT g scope [c] t := by
  refine ⟨lowAnyT g.X.K t, fun s H C cl fp => pts_one ⟨fun pins s1 σ H1 Q I ⟨M0, H0, q⟩ => (h s H C cl fp M0 H0).pt.run pins s1 σ H1 Q I q⟩, fun σ H e M Q QV sl mr q k => ?_⟩
  exact ⟨M, H, e, M, Q, sl, mr, Fr.refl, q, fun b H' ⟨M', m, f, q⟩ => k b M' H' m f q⟩
/-! ### a new list that nothing else knows -/
structure DLE (g : Gd) (x : Expr) (t : DTA) : Prop where
  pe : ∃ t' : TE, PE g.X x t' ∧ ∀ σ H e M Q (QV : VK), SRel g.X.K H e σ → MRel g.X.K M H → Fr g.M0 g.H0 M H → t e M Q g.E →
    (∀ a vs ds M' H', H' a = some (.lst vs) → IsL g.X.K H' ds vs → M' a = none → H a = none → MRel g.X.K M' H' → Fr M H M' H' → Q ds M' → QV (.ref a) H') → t' σ H QV
/-- .. as a value -/
def dNew (t : DTA) : DTE := fun e M Q E => t e M (fun ds M1 => ∀ p, M1 p = none → Q (.ref p) (wr M1 p (.lst ds))) E
theorem new_in {K : PySem.W.Frag} {M M' : Mem} {H H' : Hp} {a : Addr} {vs : List V} {ds : List D} (h : H' a = some (.lst vs)) (l : IsL K H' ds vs) (n : M' a = none) (n0 : H a = none) (m : MRel K M' H') (f : Fr M H M' H') :
    MRel K (wr M' a (.lst ds)) H' ∧ Fr M H (wr M' a (.lst ds)) H' := by
  refine ⟨fun b o e => ?_, fun b o hb hm => ?_, f.there⟩
  · by_cases z : b = a
    · subst z; rw [wr_same] at e; cases e; exact ⟨vs, h, l⟩
    · rw [wr_ne z] at e; exact m b o e
  · have ne : b ≠ a := ne_of_none hb n0
    obtain ⟨h1, h2⟩ := f.keep b o hb hm
    exact ⟨h1, by rw [wr_ne ne]; exact h2⟩
theorem DLE.de {g : Gd} {x : Expr} {t : DTA} (h : DLE g x t) : DE g x (dNew t) := by
  obtain ⟨t', p, k⟩ := h.pe
  refine DE.of p fun σ H e M Q sl mr fr q => ?_
  refine k σ H e M _ _ sl mr fr q fun a vs ds M' H' h l n n0 m f q => ?_
  obtain ⟨m2, f2⟩ := new_in h l n n0 m f
  exact lowQ.mk ii_ref m2 f2 (q a n)
/-! ### [elt for target in iter if ..] -/
def dLc (w : DTI) (gt : DTG) (tt : DTT) (te : DTE) (vs : List Nat) : DTA := fun e M Q E => w e M (fun src M1 => ∃ I : Nat → List D → Mem → Prop, I 0 [] M1 ∧
  (∀ i d acc M', src.items[i]? = some d → I i acc M' → src.live M' ∧ gt d (wipeS e vs) M' (fun e2 M2 => tt e2 M2 (fun b M3 =>
    if b = true then te e2 M3 (fun y M4 => acc.length < sizeLine ∧ I (i + 1) (acc ++ [y]) M4) EF else I (i + 1) acc M3) EF) EF) ∧
  ∀ acc M', I src.items.length acc M' → src.live M' ∧ Q acc M') E
section
variable {g : Gd} {elt tg iter : Expr} {ifs : List Expr} {scope : Scope} {own : List (Str × Nat)} {pos : Pos} {w : DTI} {gt : DTG} {tt : DTT} {te : DTE} {ns : List Nat}
theorem lc_low {w' : TI} {g' : TG} {tt' : TT} (ki : ∀ σ H e M R (RV : It → Hp → Prop), SRel g.X.K H e σ → MRel g.X.K M H → Fr g.M0 g.H0 M H → w e M R g.E →
      (∀ J src M1 H1, JRel g.X.K H1 J src → MRel g.X.K M1 H1 → Fr M H M1 H1 → R src M1 → RV J H1) → w' σ H RV)
    (kg : ∀ σ H e M v d Q (QV : L2.St → Hp → Prop), SRel g.X.K H e σ → MRel g.X.K M H → Is g.X.K H d v → gt d e M Q EF →
      (∀ σ' H' e' M', SRel g.X.K H' e' σ' → MRel g.X.K M' H' → Fr M H M' H' → (∀ vs, (∀ i ∈ ns, i ∈ vs) → L2.wipe σ' vs = L2.wipe σ vs) → Q e' M' → QV σ' H') → g' v σ H QV)
    (kt : ∀ σ H e M Q (QV : Bool → Hp → Prop), SRel g.X.K H e σ → MRel g.X.K M H → tt e M Q EF → (∀ b M' H', MRel g.X.K M' H' → Fr M H M' H' → Q b M' → QV b H') → tt' σ H QV)
    (hns : ∀ i ∈ ns, i ∈ own.map (·.2)) {σ : L2.St} {H : Hp} {e : Sl} {M : Mem} {Q : List D → Mem → Prop} {QV : VK} (sl : SRel g.X.K H e σ) (mr : MRel g.X.K M H) (fr : Fr g.M0 g.H0 M H) (q : dLc w gt tt te (own.map (·.2)) e M Q g.E)
    (k : ∀ a vs ds M' H', H' a = some (.lst vs) → IsL g.X.K H' ds vs → M' a = none → H a = none → MRel g.X.K M' H' → Fr M H M' H' → Q ds M' → QV (.ref a) H') : tLc w' g' tt' (lowAny g.X.K te) (own.map (·.2)) σ H QV := by
  refine ki σ H e M _ _ sl mr fr q fun J src M1 H1 jr m1 f1 q => ?_
  obtain ⟨I, h0, turn, last⟩ := q
  intro p hp
  have np1 : M1 p = none := m1.none_of hp
  have h0p : H p = none := f1.there p hp
  have fr1 := fr.trans f1
  have e1 : Ext g.X.K H H1 := f1.ext mr
  have fn := fr_new (o := HO.lst []) m1 hp
  refine ⟨fun i n H' => i + n = src.items.length ∧ ∃ acc vs M', H' p = some (.lst vs) ∧ IsL g.X.K H' acc vs ∧ M' p = none ∧ MRel g.X.K M' H' ∧ Fr M1 H1 M' H' ∧ I i acc M',
    ⟨src.items.length, by omega, [], [], M1, upd_same, isL_nil.mpr rfl, np1, mr_new m1 hp, fn, h0⟩, fun i n H' hw => ?_⟩
  obtain ⟨hn, acc, vs, M', hp', il, np, m', f', hw⟩ := hw
  have ex : Ext g.X.K H H' := (f1.trans f').ext mr
  cases n with
  | zero =>
    have hi : i = src.items.length := by omega
    subst hi
    obtain ⟨lv, q⟩ := last acc M' hw
    exact .inl ⟨(jr _ M' H' m' (f'.ext m1) lv).2 (Nat.le_refl _), k p vs acc M' H' hp' il np h0p m' (f1.trans f') q⟩
  | succ n =>
    have hi : i < src.items.length := by omega
    have hd := List.getElem?_eq_getElem hi
    obtain ⟨lv, q⟩ := turn i _ acc M' hd hw
    obtain ⟨go, yl⟩ := (jr i M' H' m' (f'.ext m1) lv).1 _ hd
    refine .inr ⟨go, fun H2 => ∃ acc vs M', H2 p = some (.lst vs) ∧ IsL g.X.K H2 acc vs ∧ M' p = none ∧ MRel g.X.K M' H2 ∧ Fr M1 H1 M' H2 ∧ I (i + 1) acc M', fun H2 z => ⟨n, by omega, by omega, z⟩, fun x H2 y => ?_⟩
    obtain ⟨ix, m2, f2⟩ := yl x H2 y
    refine kg (wipe σ (own.map (·.2))) H2 (wipeS e (own.map (·.2))) M' x _ _ _ ((sl.ext ((f1.trans (f'.trans f2)).ext mr)).wipe _) m2 ix q fun σ3 H3 e3 M3 sl3 m3 f3 hwp q => ?_
    refine ⟨(hwp _ hns).trans (wipe_wipe σ _), ?_⟩
    refine kt σ3 H3 e3 M3 _ _ sl3 m3 q fun b M4 H4 m4 f4 q => ?_
    have f24 := f2.trans (f3.trans f4)
    cases b with
    | false =>
      obtain ⟨p4, np4⟩ := f24.keep p _ hp' np
      exact ⟨acc, vs, M4, p4, IsL.ext (f24.ext m') _ _ il, np4, m4, f'.trans f24, q⟩
    | true =>
      refine lowAny_start (sl3.ext (f4.ext m3)) m4 q fun v d M5 H5 i5 m5 f5 q => ?_
      have f25 := f24.trans f5
      obtain ⟨p5, np5⟩ := f25.keep p _ hp' np
      have il5 := IsL.ext (f25.ext m') _ _ il
      have eo : Ext g.X.K H5 (upd H5 p (.lst (vs ++ [v]))) := ext_out p5
      refine ⟨vs, p5, by rw [il5.length]; exact q.1, acc ++ [d], vs ++ [v], M5, upd_same, ?_, np5, mr_out m5 p5 np5, fr_out (f'.trans f25) hp, q.2⟩
      exact (IsL.ext eo _ _ il5).append (IsL.mk (Is.ext eo _ _ i5) (isL_nil.mpr rfl))
end
end DL

/-! Comprehensions as expressions and statements. -/
namespace DL
open PySem PySem.Spec PyProof.Rows L2
section
variable {g : Gd} {elt tg iter tg1 iter1 : Expr} {ifs ifs1 : List Expr} {scope : Scope} {own : List (Str × Nat)} {vs1 : List Nat} {pos spos py : Pos} {w w1 : DTI} {gt gt1 : DTG} {tt tt1 : DTT} {te : DTE} {ns ms : List Nat}
theorem dle_lc (hc : g.X.calm = true) (hN : g.X.N.Nodup) (hi : DI g tg iter w) (ok : BlkOk g.X.N g.X.env.scope scope own) (hg : BlkG g scope tg gt ns) (ht : BlkT g scope ifs tt) (he : BlkE g scope elt te) (hns : ∀ i ∈ ns, i ∈ own.map (·.2))
    (hs : ∀ x, foldedSetIterable iter g.X.env x = pure x) : DLE g (.ListComp elt [⟨tg, iter, ifs, 0⟩] scope pos) (dLc w gt tt te (own.map (·.2))) := by
  obtain ⟨w', pi, ki⟩ := hi.pi
  obtain ⟨g', pg, kg⟩ := hg
  obtain ⟨t', pt, kt⟩ := ht
  exact ⟨⟨_, pe_lc hc hN pi ok pg pt he.pe hs, fun σ H e M Q QV sl mr fr q k => lc_low ki kg kt hns sl mr fr q k⟩⟩
/-- name = [..] -/
theorem ds_lc {i : Nat} {y : Str} (hc : g.X.calm = true) (hN : g.X.N.Nodup) (hy : g.X.N[i]? = some y) (hyl : g.X.env.scope.names.lookup y = some .local)
    (hsw : swapsWith (.ListComp elt [⟨tg, iter, ifs, 0⟩] scope pos) (some (.Name y py)) spos.line g.X.env = pure true) (hi : DI g tg iter w) (ok : BlkOk g.X.N g.X.env.scope scope own) (hg : BlkG g scope tg gt ns) (ht : BlkT g scope ifs tt) (he : BlkE g scope elt te) (hns : ∀ i ∈ ns, i ∈ own.map (·.2))
    (hs : ∀ x, foldedSetIterable iter g.X.env x = pure x) : DS g (.Assign [.Name y py] (.ListComp elt [⟨tg, iter, ifs, 0⟩] scope pos) spos) (dAsg (dNew (dLc w gt tt te (own.map (·.2)))) (dgName i)) := by
  obtain ⟨w', pi, ki⟩ := hi.pi
  obtain ⟨g', pg, kg⟩ := hg
  obtain ⟨t', pt, kt⟩ := ht
  refine ⟨⟨_, ps_setLc hc hN hy hyl hsw pi ok pg pt he.pe hs, fun P hP σ H e M D DV sl mr pm le q => ?_⟩⟩
  have fr := hP.base _ _ pm
  refine lc_low ki kg kt hns sl mr fr q fun a vs ds M' H' h l n n0 m f q => ?_
  obtain ⟨m2, f2⟩ := new_in h l n n0 m f
  exact le.nx _ _ _ _ (SRel.set ii_ref i (sl.ext (f2.ext mr))) m2 (hP.step _ _ _ _ pm f2) (q a n)
/-! ### two clauses -/
def BlkI (g : Gd) (scope : Scope) (tg x : Expr) (w : DTI) : Prop := ∃ w' : TI, (∀ s H C cl fp, PI (g.X.blk s H scope (compEnvC scope cl C g.X.env) fp) tg x w') ∧
  ∀ σ H e M R (RV : It → Hp → Prop), SRel g.X.K H e σ → MRel g.X.K M H → w e M R EF →
    (∀ J src M1 H1, JRel g.X.K H1 J src → MRel g.X.K M1 H1 → Fr M H M1 H1 → R src M1 → RV J H1) → w' σ H RV
def dLc2 (w : DTI) (gt : DTG) (tt : DTT) (w1 : DTI) (gt1 : DTG) (tt1 : DTT) (te : DTE) (vs vs1 : List Nat) : DTA := fun e M Q E => w e M (fun src M1 => ∃ I : Nat → List D → Mem → Prop, I 0 [] M1 ∧
  (∀ i d acc M', src.items[i]? = some d → I i acc M' → src.live M' ∧ gt d (wipeS e vs) M' (fun e2 M2 => tt e2 M2 (fun b M3 =>
    if b = true then w1 e2 M3 (fun src1 M4 => ∃ I1 : Nat → List D → Mem → Prop, I1 0 acc M4 ∧
      (∀ j d1 acc1 M5, src1.items[j]? = some d1 → I1 j acc1 M5 → src1.live M5 ∧ gt1 d1 (wipeS e2 vs1) M5 (fun e3 M6 => tt1 e3 M6 (fun b M7 =>
        if b = true then te e3 M7 (fun y M8 => acc1.length < sizeLine ∧ I1 (j + 1) (acc1 ++ [y]) M8) EF else I1 (j + 1) acc1 M7) EF) EF) ∧
      ∀ acc1 M5, I1 src1.items.length acc1 M5 → src1.live M5 ∧ I (i + 1) acc1 M5) EF
    else I (i + 1) acc M3) EF) EF) ∧
  ∀ acc M', I src.items.length acc M' → src.live M' ∧ Q acc M') E
theorem lc2_low {w' w1' : TI} {g' g1' : TG} {tt' tt1' : TT} (ki : ∀ σ H e M R (RV : It → Hp → Prop), SRel g.X.K H e σ → MRel g.X.K M H → Fr g.M0 g.H0 M H → w e M R g.E →
      (∀ J src M1 H1, JRel g.X.K H1 J src → MRel g.X.K M1 H1 → Fr M H M1 H1 → R src M1 → RV J H1) → w' σ H RV)
    (kg : ∀ σ H e M v d Q (QV : L2.St → Hp → Prop), SRel g.X.K H e σ → MRel g.X.K M H → Is g.X.K H d v → gt d e M Q EF →
      (∀ σ' H' e' M', SRel g.X.K H' e' σ' → MRel g.X.K M' H' → Fr M H M' H' → (∀ vs, (∀ i ∈ ns, i ∈ vs) → L2.wipe σ' vs = L2.wipe σ vs) → Q e' M' → QV σ' H') → g' v σ H QV)
    (kt : ∀ σ H e M Q (QV : Bool → Hp → Prop), SRel g.X.K H e σ → MRel g.X.K M H → tt e M Q EF → (∀ b M' H', MRel g.X.K M' H' → Fr M H M' H' → Q b M' → QV b H') → tt' σ H QV)
    (ki1 : ∀ σ H e M R (RV : It → Hp → Prop), SRel g.X.K H e σ → MRel g.X.K M H → w1 e M R EF →
      (∀ J src M1 H1, JRel g.X.K H1 J src → MRel g.X.K M1 H1 → Fr M H M1 H1 → R src M1 → RV J H1) → w1' σ H RV)
    (kg1 : ∀ σ H e M v d Q (QV : L2.St → Hp → Prop), SRel g.X.K H e σ → MRel g.X.K M H → Is g.X.K H d v → gt1 d e M Q EF →
      (∀ σ' H' e' M', SRel g.X.K H' e' σ' → MRel g.X.K M' H' → Fr M H M' H' → (∀ vs, (∀ i ∈ ms, i ∈ vs) → L2.wipe σ' vs = L2.wipe σ vs) → Q e' M' → QV σ' H') → g1' v σ H QV)
    (kt1 : ∀ σ H e M Q (QV : Bool → Hp → Prop), SRel g.X.K H e σ → MRel g.X.K M H → tt1 e M Q EF → (∀ b M' H', MRel g.X.K M' H' → Fr M H M' H' → Q b M' → QV b H') → tt1' σ H QV)
    (hns : ∀ i ∈ ns, i ∈ own.map (·.2)) (hms : ∀ i ∈ ms, i ∈ vs1) {σ : L2.St} {H : Hp} {e : Sl} {M : Mem} {Q : List D → Mem → Prop} {QV : VK} (sl : SRel g.X.K H e σ) (mr : MRel g.X.K M H) (fr : Fr g.M0 g.H0 M H)
    (q : dLc2 w gt tt w1 gt1 tt1 te (own.map (·.2)) vs1 e M Q g.E)
    (k : ∀ a vs ds M' H', H' a = some (.lst vs) → IsL g.X.K H' ds vs → M' a = none → H a = none → MRel g.X.K M' H' → Fr M H M' H' → Q ds M' → QV (.ref a) H') : tLc2 w' g' tt' w1' g1' tt1' (lowAny g.X.K te) (own.map (·.2)) vs1 σ H QV := by
  refine ki σ H e M _ _ sl mr fr q fun J src M1 H1 jr m1 f1 q => ?_
  obtain ⟨I, h0, turn, last⟩ := q
  intro p hp
  have np1 : M1 p = none := m1.none_of hp
  have h0p : H p = none := f1.there p hp
  have fn := fr_new (o := HO.lst []) m1 hp
  refine ⟨fun i n H' => i + n = src.items.length ∧ ∃ acc vs M', H' p = some (.lst vs) ∧ IsL g.X.K H' acc vs ∧ M' p = none ∧ MRel g.X.K M' H' ∧ Fr M1 H1 M' H' ∧ I i acc M',
    ⟨src.items.length, by omega, [], [], M1, upd_same, isL_nil.mpr rfl, np1, mr_new m1 hp, fn, h0⟩, fun i n H' hw => ?_⟩
  obtain ⟨hn, acc, vs, M', hp', il, np, m', f', hw⟩ := hw
  cases n with
  | zero =>
    have hi : i = src.items.length := by omega
    subst hi
    obtain ⟨lv, q⟩ := last acc M' hw
    exact .inl ⟨(jr _ M' H' m' (f'.ext m1) lv).2 (Nat.le_refl _), k p vs acc M' H' hp' il np h0p m' (f1.trans f') q⟩
  | succ n =>
    have hi : i < src.items.length := by omega
    have hd := List.getElem?_eq_getElem hi
    obtain ⟨lv, q⟩ := turn i _ acc M' hd hw
    obtain ⟨go, yl⟩ := (jr i M' H' m' (f'.ext m1) lv).1 _ hd
    refine .inr ⟨go, fun H2 => ∃ acc vs M', H2 p = some (.lst vs) ∧ IsL g.X.K H2 acc vs ∧ M' p = none ∧ MRel g.X.K M' H2 ∧ Fr M1 H1 M' H2 ∧ I (i + 1) acc M', fun H2 z => ⟨n, by omega, by omega, z⟩, fun x H2 y => ?_⟩
    obtain ⟨ix, m2, f2⟩ := yl x H2 y
    refine kg (wipe σ (own.map (·.2))) H2 (wipeS e (own.map (·.2))) M' x _ _ _ ((sl.ext ((f1.trans (f'.trans f2)).ext mr)).wipe _) m2 ix q fun σ3 H3 e3 M3 sl3 m3 f3 hwp q => ?_
    refine ⟨(hwp _ hns).trans (wipe_wipe σ _), ?_⟩
    refine kt σ3 H3 e3 M3 _ _ sl3 m3 q fun b M4 H4 m4 f4 q => ?_
    have f24 := f2.trans (f3.trans f4)
    obtain ⟨p4, np4⟩ := f24.keep p _ hp' np
    have il4 := IsL.ext (f24.ext m') _ _ il
    have sl4 := sl3.ext (f4.ext m3)
    cases b with
    | false => exact ⟨acc, vs, M4, p4, il4, np4, m4, f'.trans f24, q⟩
    | true =>
      refine ki1 σ3 H4 e3 M4 _ _ sl4 m4 q fun J1 src1 M5 H5 jr1 m5 f5 q => ?_
      obtain ⟨I1, k0, turn1, last1⟩ := q
      have f15 := f'.trans (f24.trans f5)
      obtain ⟨p5, np5⟩ := f5.keep p _ p4 np4
      refine ⟨fun j n H' => j + n = src1.items.length ∧ ∃ acc vs M', H' p = some (.lst vs) ∧ IsL g.X.K H' acc vs ∧ M' p = none ∧ MRel g.X.K M' H' ∧ Fr M1 H1 M' H' ∧ Ext g.X.K H5 H' ∧ I1 j acc M',
        ⟨src1.items.length, by omega, acc, vs, M5, p5, IsL.ext (f5.ext m4) _ _ il4, np5, m5, f15, Ext.refl, k0⟩, fun j n' H' hw => ?_⟩
      obtain ⟨hn1, ac, us, M6, p6, il6, np6, m6, f6, e6, hw⟩ := hw
      cases n' with
      | zero =>
        have hj : j = src1.items.length := by omega
        subst hj
        obtain ⟨lv, q⟩ := last1 ac M6 hw
        exact .inl ⟨(jr1 _ M6 H' m6 e6 lv).2 (Nat.le_refl _), ac, us, M6, p6, il6, np6, m6, f6, q⟩
      | succ n' =>
        have hj : j < src1.items.length := by omega
        have hd1 := List.getElem?_eq_getElem hj
        obtain ⟨lv, q⟩ := turn1 j _ ac M6 hd1 hw
        obtain ⟨go1, yl1⟩ := (jr1 j M6 H' m6 e6 lv).1 _ hd1
        refine .inr ⟨go1, fun H2 => ∃ acc vs M', H2 p = some (.lst vs) ∧ IsL g.X.K H2 acc vs ∧ M' p = none ∧ MRel g.X.K M' H2 ∧ Fr M1 H1 M' H2 ∧ Ext g.X.K H5 H2 ∧ I1 (j + 1) acc M', fun H2 z => ⟨n', by omega, by omega, z⟩, fun x1 H7 y1 => ?_⟩
        obtain ⟨ix1, m7, f7⟩ := yl1 x1 H7 y1
        have e57 : Ext g.X.K H5 H7 := e6.trans (f7.ext m6)
        refine kg1 (wipe σ3 vs1) H7 (wipeS e3 vs1) M6 x1 _ _ _ ((sl4.ext ((f5.ext m4).trans e57)).wipe _) m7 ix1 q fun σ8 H8 e8 M8 sl8 m8 f8 hw8 q => ?_
        refine ⟨(hw8 _ hms).trans (wipe_wipe σ3 _), ?_⟩
        refine kt1 σ8 H8 e8 M8 _ _ sl8 m8 q fun b M9 H9 m9 f9 q => ?_
        have f79 := f7.trans (f8.trans f9)
        cases b with
        | false =>
          obtain ⟨p9, np9⟩ := f79.keep p _ p6 np6
          exact ⟨ac, us, M9, p9, IsL.ext (f79.ext m6) _ _ il6, np9, m9, f6.trans f79, e6.trans (f79.ext m6), q⟩
        | true =>
          refine lowAny_start (sl8.ext (f9.ext m8)) m9 q fun v d Ma Ha ia ma fa q => ?_
          have f7a := f79.trans fa
          obtain ⟨pa, npa⟩ := f7a.keep p _ p6 np6
          have ila := IsL.ext (f7a.ext m6) _ _ il6
          have eo : Ext g.X.K Ha (upd Ha p (.lst (us ++ [v]))) := ext_out pa
          refine ⟨us, pa, by rw [ila.length]; exact q.1, ac ++ [d], us ++ [v], Ma, upd_same, ?_, npa, mr_out ma pa npa, fr_out (f6.trans f7a) hp, (e6.trans (f7a.ext m6)).trans eo, q.2⟩
          exact (IsL.ext eo _ _ ila).append (IsL.mk (Is.ext eo _ _ ia) (isL_nil.mpr rfl))
theorem dle_lc2 (hc : g.X.calm = true) (hN : g.X.N.Nodup) (hi : DI g tg iter w) (ok : BlkOk g.X.N g.X.env.scope scope own) (hv : ∀ i ∈ vs1, i ∈ own.map (·.2)) (hg : BlkG g scope tg gt ns) (ht : BlkT g scope ifs tt) (hi1 : BlkI g scope tg1 iter1 w1) (hg1 : BlkG g scope tg1 gt1 ms) (ht1 : BlkT g scope ifs1 tt1)
    (he : BlkE g scope elt te) (hns : ∀ i ∈ ns, i ∈ own.map (·.2)) (hms : ∀ i ∈ ms, i ∈ vs1) (hs : ∀ x, foldedSetIterable iter g.X.env x = pure x) (hs1 : ∀ env x, foldedSetIterable iter1 env x = pure x) :
    DLE g (.ListComp elt [⟨tg, iter, ifs, 0⟩, ⟨tg1, iter1, ifs1, 0⟩] scope pos) (dLc2 w gt tt w1 gt1 tt1 te (own.map (·.2)) vs1) := by
  obtain ⟨w', pi, ki⟩ := hi.pi
  obtain ⟨g', pg, kg⟩ := hg
  obtain ⟨t', pt, kt⟩ := ht
  obtain ⟨w1', pi1, ki1⟩ := hi1
  obtain ⟨g1', pg1, kg1⟩ := hg1
  obtain ⟨t1', pt1, kt1⟩ := ht1
  exact ⟨⟨_, pe_lc2 hc hN pi ok hv pg pt pi1 pg1 pt1 he.pe hs hs1, fun σ H e M Q QV sl mr fr q k => lc2_low ki kg kt ki1 kg1 kt1 hns hms sl mr fr q k⟩⟩
theorem ds_lc2 {i : Nat} {y : Str} (hc : g.X.calm = true) (hN : g.X.N.Nodup) (hy : g.X.N[i]? = some y) (hyl : g.X.env.scope.names.lookup y = some .local)
    (hsw : swapsWith (.ListComp elt [⟨tg, iter, ifs, 0⟩, ⟨tg1, iter1, ifs1, 0⟩] scope pos) (some (.Name y py)) spos.line g.X.env = pure true) (hi : DI g tg iter w) (ok : BlkOk g.X.N g.X.env.scope scope own) (hv : ∀ i ∈ vs1, i ∈ own.map (·.2)) (hg : BlkG g scope tg gt ns) (ht : BlkT g scope ifs tt) (hi1 : BlkI g scope tg1 iter1 w1) (hg1 : BlkG g scope tg1 gt1 ms) (ht1 : BlkT g scope ifs1 tt1)
    (he : BlkE g scope elt te) (hns : ∀ i ∈ ns, i ∈ own.map (·.2)) (hms : ∀ i ∈ ms, i ∈ vs1) (hs : ∀ x, foldedSetIterable iter g.X.env x = pure x) (hs1 : ∀ env x, foldedSetIterable iter1 env x = pure x) :
    DS g (.Assign [.Name y py] (.ListComp elt [⟨tg, iter, ifs, 0⟩, ⟨tg1, iter1, ifs1, 0⟩] scope pos) spos) (dAsg (dNew (dLc2 w gt tt w1 gt1 tt1 te (own.map (·.2)) vs1)) (dgName i)) := by
  obtain ⟨w', pi, ki⟩ := hi.pi
  obtain ⟨g', pg, kg⟩ := hg
  obtain ⟨t', pt, kt⟩ := ht
  obtain ⟨w1', pi1, ki1⟩ := hi1
  obtain ⟨g1', pg1, kg1⟩ := hg1
  obtain ⟨t1', pt1, kt1⟩ := ht1
  refine ⟨⟨_, ps_setLc2 hc hN hy hyl hsw pi ok hv pg pt pi1 pg1 pt1 he.pe hs hs1, fun P hP σ H e M D DV sl mr pm le q => ?_⟩⟩
  have fr := hP.base _ _ pm
  refine lc2_low ki kg kt ki1 kg1 kt1 hns hms sl mr fr q fun a vs ds M' H' h l n n0 m f q => ?_
  obtain ⟨m2, f2⟩ := new_in h l n n0 m f
  exact le.nx _ _ _ _ (SRel.set ii_ref i (sl.ext (f2.ext mr))) m2 (hP.step _ _ _ _ pm f2) (q a n)
end
end DL

/-! Defs, their calls, the law's end. -/
namespace DL
open PySem PySem.Spec PyProof.Rows L2
abbrev DSp := List D → Mem → QE → EX → Prop
/-- the def at f keeps the promise sp (told of trees), at most k calls deep -/
structure FnG (P : Program) (w : World) (K : PySem.W.Frag) (mg : Str → Option Value) (base : Heap) (k : Nat) (f : Addr) (fd : FuncData) (ps : List Str) (sp : DSp) : Prop where
  len : ∀ ds M Q E, sp ds M Q E → ds.length = ps.length
  run : ∀ (A : Around) (outer : List PySem.Env) (s : Shared) (H : Hp) (args : Args) (us : List Value) (vs : List V) (ds : List D) (M : Mem) (Q : QE) (E : EX) (QV : VK) (XV : XK), Room k A → A.guards = some [] → Env0 P w K mg base A outer s H →
    BindsTo s fd args (ps.zip us) → Vals vs us → IsL K H ds vs → MRel K M H → Fin K M H Q QV → (∀ c d H', wxOf K M H E c d H' → XV c d H') → sp ds M Q E → codeAny (model P w) A (.call (.ref f) args) (CR (CX P w) outer P w H s QV XV) s
def startD (n : Nat) (ds : List D) : Sl := ds.map some ++ List.replicate (n - ds.length) none
theorem start_rel {K : PySem.W.Frag} {H : Hp} (N : List Str) : ∀ {ds : List D} {vs : List V}, IsL K H ds vs → SRel K H (startD N.length ds) (L2.start N vs) := by
  intro ds vs h
  have hl := h.length
  unfold startD L2.start
  rw [hl]
  have tail : ∀ n : Nat, SRel K H (List.replicate n none) (List.replicate n none) := fun n => by
    induction n with
    | zero => rfl
    | succ n ih => exact ⟨none, _, rfl, (fun d e => nomatch e), ih⟩
  generalize N.length - ds.length = n
  clear hl
  induction ds generalizing vs with
  | nil => rw [isL_nil] at h; subst h; exact tail n
  | cons d ds ih =>
    rw [isL_cons] at h
    obtain ⟨v, r, rfl, i, t⟩ := h
    exact ⟨some v, _, rfl, fun d' e => by cases e; exact ⟨v, rfl, i⟩, ih t⟩
/-- the ground of a def's body -/
abbrev bodyG (P : Program) (w : World) (K : PySem.W.Frag) (mg : Str → Option Value) (base : Heap) (N : List Str) (qual : Str) (scope : Scope) (f : Addr) (cd : Value) (A : Around) (outer : List PySem.Env) (s : Shared) (H : Hp) (XV : XK) (M : Mem) (E : EX) : Gd :=
  ⟨cxOf (CX P w) P w K mg base N qual scope f cd A outer s H XV, M, H, E⟩
/-- a body keeps a promise -/
theorem fnG_of {P : Program} {w : World} {K : PySem.W.Frag} {mg : Str → Option Value} {base : Heap} {k : Nat} {f : Addr} {name qual : Str} {params : Arguments} {body : List Stmt} {scope : Scope} {dV kV doc pm cdv ct oc : Value} {an od : Option Addr} {osl : Array (Option Value)} {N ps : List Str} {sp : DSp}
    (lk : K.lookup f = some ⟨oc, od, .func (PySem.W.fnOf name qual params body scope dV kV doc pm an cdv ct), osl⟩) (hcd : PySem.W.codeIn K cdv qual = true) (S : FnScope N ps scope) (len : ∀ ds M Q E, sp ds M Q E → ds.length = ps.length)
    (hbody : ∀ (A : Around) (outer : List PySem.Env) (s : Shared) (H : Hp) (ds : List D) (M : Mem) (Q : QE) (E : EX) (XV : XK), Room k (A.deeper (envOfC qual scope s.heap.objs.size f cdv)) → A.guards = some [] → (∀ c d H', wxOf K M H E c d H' → XV c d H') → sp ds M Q E →
      ∃ t, DSs (bodyG P w K mg base N qual scope f cdv A outer s H XV M E) body t ∧ t { nx := fun _ M' => Q .non M', rt := Q } E (startD N.length ds) M) :
    FnG P w K mg base (k + 1) f (PySem.W.fnOf name qual params body scope dV kV doc pm an cdv ct) ps sp where
  len := len
  run := fun A outer s H args us vs ds M Q E QV XV hr hg e0 hb r il mr fin hX hsp => by
    have dl := len _ _ _ _ hsp
    have vl : vs.length = ps.length := by rw [il.length]; exact dl
    have K1 : K.In s.heap := e0.mod.kin.keeps fun b o e => (e0.bs b o e).1
    have L1 : s.heap.NoLimit := e0.mod.nolimit.keeps fun b o e => (e0.bs b o e).1
    refine codeAny_call_function hr.depth (K1 _ _ lk) rfl S.co S.gen rfl (PySem.W.codeRec_of K1 hcd) (hb _ _ _ _ ?_)
    refine wpAny_newFunctionEnv_cells S.kind (fun y hy => ?_) fun env he s1 x => ?_
    · obtain ⟨n, u⟩ := y
      rcases S.par n (List.of_mem_zip hy).1 with q | q
      · exact .inl q
      · exact .inr ⟨q, PySem.W.cellsFrom_some _ _ _ (.inl q)⟩
    · subst he
      refine ⟨L1.keeps x.toInCall.keep, codeAny_func ?_⟩
      obtain ⟨t, hs, ht⟩ := hbody A outer s H ds M Q E XV (hr.deeper _) hg hX hsp
      obtain ⟨t', ps', kk⟩ := hs.ps
      have I := inv_start (CX := CX P w) (E := XV) S hr.hd e0 vl r x
      have q := kk (fun M' H' => Fr M H M' H') ⟨fun _ _ _ _ a b => a.trans b, fun _ _ _ a b => a.sub b, fun _ _ a => a⟩ (L2.start N vs) H (startD N.length ds) M (⟨fun _ M' => Q .non M', Q, fun _ _ => False, fun _ _ => False⟩ : DEnds) { nx := fun _ H' => QV .non H', rt := QV } (start_rel N il) mr Fr.refl
        ⟨fun σ' H' e' M' s' m' f' q => fin _ _ _ _ ii_non m' f' q, fun v' H' d' M' i' m' f' q => fin _ _ _ _ i' m' f' q, fun _ _ _ _ _ _ _ q => q.elim, fun _ _ _ _ _ _ _ q => q.elim⟩ ht
      refine wpAny_mono (ps'.run [] s1 _ H _ I q) (fun fl s' z => ?_) fun e s' z => z
      have done : ∀ {σ' : L2.St} {H' : Hp} {v : V} {u : Value}, L2.Inv (cxOf (CX P w) P w K mg base N qual scope f cdv A outer s H XV) [] σ' H' s' → RelV v u → QV v H' → CE outer P w H s QV u s' :=
        fun J rv q => ⟨_, _, J.os, J.bare, J.base, J.hok, rv, q⟩
      cases fl with
      | next => obtain ⟨σ', H', J, z⟩ := z; exact done (v := V.non) (u := Value.none) J rfl z
      | ret u => obtain ⟨v, σ', H', J, rv, z⟩ := z; exact done J rv z
      | brk => obtain ⟨_, _, _, z⟩ := z; exact z.elim
      | cont => obtain ⟨_, _, _, z⟩ := z; exact z.elim
/-- what is known of the ground wherever code runs -/
structure Gok (g : Gd) (k : Nat) : Prop where
  room : Room k g.X.A
  gu : g.X.A.guards = some []
  tk : Takes g.X (fun c d _ H => wxOf g.X.K g.M0 g.H0 g.E c d H)
/-- a call of a def: f gives way to its promise -/
def dFn (sp : DSp) (r : DTA) : DTE := fun e M Q E => r e M (fun ds M1 => sp ds M1 Q E) E
section
variable {g : Gd} {k : Nat} {f : Addr} {fd : FuncData} {ps : List Str} {sp : DSp} {n : Str} {p pos : Pos} {x : Expr} {xs : List Expr} {r : DTA}
theorem fnG_run {pins : List (Addr × Obj)} {σ : L2.St} {H : Hp} {s : Shared} {e : Sl} {M : Mem} {us : List Value} {vs : List V} {ds : List D} {Q : QE} {pos : List Value} {kw : List (Str × Value)} (F : FnG g.X.prog g.X.w g.X.K g.X.mg g.X.base k f fd ps sp) (G : Gok g k) (I : SI g pins σ H s e M)
    (hb : BindsTo s fd ⟨pos, kw⟩ (ps.zip us)) (r : Vals vs us) (il : IsL g.X.K H ds vs) (h : sp ds M Q g.E) : wpAny (model g.X.prog g.X.w) g.X.A (call (.ref f) pos kw) (DEP g pins σ e M H Q) g.X.xe s := by
  refine wpAny_call (codeAny_mono (F.run g.X.A g.X.stack s H ⟨pos, kw⟩ us vs ds M Q g.E (lowQ g.X.K M H Q) (wxOf g.X.K M H g.E) G.room G.gu I.inv.env0 hb r il I.mr fin_low (fun _ _ _ z => z) h) fun q s' hq => ?_)
  cases q with
  | error err => exact passes_call G.tk (fun c d σ' H' z => by
      obtain ⟨M', fs, f', m', x', q⟩ := z
      exact ⟨M', fs, I.fr.trans f', m', x', q⟩) pins σ H s err s' I.inv hq
  | ok fl =>
    cases fl with
    | ret u =>
      obtain ⟨v, H', J, rv, d, M', i, m, f, q⟩ := I.inv.after hq
      exact ⟨v, d, H', M', rv, i, I.next J m f, f, q⟩
    | next => exact False.elim hq
    | brk => exact False.elim hq
    | cont => exact False.elim hq
/-- the arguments, then the defaults dvs -/
def dFnD (sp : DSp) (dvs : List D) (r : DTA) : DTE := fun e M Q E => r e M (fun ds M1 => sp (ds ++ dvs) M1 Q E) E
theorem DA.run {t : DTA} (h : DA g xs t) (pos : Pos) {pins : List (Addr × Obj)} {s : Shared} {σ : L2.St} {H : Hp} {e : Sl} {M : Mem} {Q : List D → Mem → Prop} (I : SI g pins σ H s e M) (q : t e M Q g.E) :
    wpAny (model g.X.prog g.X.w) g.X.A (spliced (backTo pos (starEach xs g.X.env))) (DAP g pins σ e M H Q) g.X.xe s := by
  obtain ⟨t', pa, ka⟩ := h.pa
  refine thn (pa.run pos pins s σ H (fun vs H' => ∃ ds M', IsL g.X.K H' ds vs ∧ MRel g.X.K M' H' ∧ Fr M H M' H' ∧ Q ds M') I.inv (ka σ H e M Q _ I.sl I.mr I.fr q fun ds vs M' H' l m f q => ⟨ds, M', l, m, f, q⟩)) fun us s' z => ?_
  obtain ⟨vs, H', J, r, ds, M', l, m, f, q⟩ := z
  exact ⟨vs, ds, H', M', r, l, I.next J m f, f, q⟩
theorem de_fn {t : DTE} {dvs : List D} {dus : List Value} {vvs : List V} (F : FnG g.X.prog g.X.w g.X.K g.X.mg g.X.base k f fd ps sp) (G : Gok g k) (hg : Gl g.X n) (hm : g.X.mg n = some (.ref f)) (hk : PySem.W.keepIn g.X.K (.ref f) = true) (hb : Binds g.X.K fd ps dus) (hd : Vals vvs dus) (hi : ∀ H, IsL g.X.K H dvs vvs)
    (hx : DE g x t) (ha : DA g xs r) (ns : isStar x = false) (hdb : (n == ("__debug__" : Str)) = false) : DE g (.Call (.Name n p) (x :: xs) [] pos) (dFnD sp dvs (dCons t r)) := by
  refine ⟨fun pins s σ H e M Q I q => wpAny_Call_Name_kw (ld_glob I.inv hg hm ?_ hdb)⟩
  refine PySem.W.callWith_K (h₀ := g.X.base) I.inv.ok.mod.kin hk (thn ((da_cons hx ha ns).run pos I q) fun us s1 z => ?_) (star_cons ns) (bt_any ha)
  obtain ⟨vs, ds, H1, M1, rv, l, J, f, q⟩ := z
  refine ⟨J.inv.kIn, ?_⟩
  have r2 : Vals (vs ++ vvs) (us ++ dus) := rv.append hd
  have l2 : IsL g.X.K H1 (ds ++ dvs) (vs ++ vvs) := l.append (hi H1)
  have hl : (us ++ dus).length = ps.length := by rw [← r2.length, l2.length]; exact F.len _ _ _ _ q
  refine thn (fnG_run F G J (hb s1 us J.inv.kIn hl) r2 l2 q) fun u s2 z => ?_
  obtain ⟨v, d, H', M', rv', i, J', f', q⟩ := z
  exact ⟨v, d, H', M', rv', i, J', f.trans f', q⟩
theorem de_fn0 {dvs : List D} {dus : List Value} {vvs : List V} (F : FnG g.X.prog g.X.w g.X.K g.X.mg g.X.base k f fd ps sp) (G : Gok g k) (hg : Gl g.X n) (hm : g.X.mg n = some (.ref f)) (hk : PySem.W.keepIn g.X.K (.ref f) = true) (hb : Binds g.X.K fd ps dus) (hd : Vals vvs dus) (hi : ∀ H, IsL g.X.K H dvs vvs)
    (hdb : (n == ("__debug__" : Str)) = false) : DE g (.Call (.Name n p) [] [] pos) (dFnD sp dvs dNil) := by
  refine ⟨fun pins s σ H e M Q I q => wpAny_Call_Name_kw (ld_glob I.inv hg hm (PySem.W.callWith_K0 I.inv.kIn hk ?_) hdb)⟩
  have hl : ([] ++ dus).length = ps.length := by rw [List.nil_append, ← hd.length, (hi H).length]; exact F.len _ _ _ _ q
  have q' : sp dvs M Q g.E := q
  exact fnG_run F G I (hb s [] I.inv.kIn hl) hd (hi H) q'
end
/-! ### the law's own end -/
/-- the law's promise at the heap behind the top -/
theorem lawG_call {P : Program} {w : World} {K : PySem.W.Frag} {mg mb : Str → Option Value} {k : Nat} {fa a : Addr} {fd : FuncData} {x : Str} {sp : DSp} {s1 : Shared} {vs : List Value} {ns : List Int}
    (KX : K.In s1.heap) (hns : s1.heap.Ns mainGlobals mg) (hb : s1.heap.Ns builtinsNs mb) (hbb : ∀ x : Str, x ≠ "__name__" → mb x = bootBuiltins x) (hlim : s1.heap.NoLimit) (hg : s1.gens = #[])
    (ha : s1.heap.get? a = some { cls := .type "list", data := .seq vs.toArray }) (hi : IntsAre vs ns) (hl : ns.length ≤ sizeLine) (hr : Room k callerA)
    (F : ∀ base : Heap, K.In base → base.Ns mainGlobals mg → FnG P w K mg base k fa fd [x] sp) (hbind : ∀ (s : Shared) (u : Value), BindsTo s fd ⟨[u], []⟩ [(x, u)])
    (hsp : sp [.rl (ns.map D.int)] (fun _ => none) (fun d _ => d = .bl true) EF) :
    codeAny (model P w) callerA (.call (.ref fa) ⟨[.ref a], []⟩) (fun r s' => r = .ok (.ret (.bool true)) ∧ OldK s1.heap s'.heap ∧ s'.os = s1.os ∧ AllBare s'.gens) s1 := by
  have rv : Vals (ns.map V.int) vs := vals_of_ints hi
  have main : ∀ H : Hp, RdL K H a (ns.map V.int) → HOk P w H s1.heap → (∀ b u, H b = some u → b = a ∧ ∃ o, u = .frz o (.lst (ns.map V.int))) → (∀ b o, K.lookup b = some o → H b = none) →
      codeAny (model P w) callerA (.call (.ref fa) ⟨[.ref a], []⟩) (fun r s' => r = .ok (.ret (.bool true)) ∧ OldK s1.heap s'.heap ∧ s'.os = s1.os ∧ AllBare s'.gens) s1 := by
    intro H hR hok hA hK
    have clear : ∀ {b : Addr} {o : Obj} {es : Array DictEntry} {ep : Nat}, s1.heap.get? b = some o → o.data = .dict es ep → H b = none := fun {b o es ep} e d => by
      cases q : H b with
      | none => rfl
      | some u =>
        obtain ⟨rfl, _⟩ := hA b u q
        rw [ha] at e
        cases e
        cases (show Data.seq vs.toArray _ = Data.dict es ep from d)
    have nsB : ∀ {b : Addr} {m : Str → Option Value}, s1.heap.Ns b m → (hidT s1.heap H).Ns b m := fun {b m} z => by
      obtain ⟨o, es, ep, e, d, z⟩ := z
      exact ⟨o, es, ep, hidT_get e (clear e d), d, z⟩
    have kB : K.In (hidT s1.heap H) := fun b o e => hidT_get (KX b o e) (hK b o e)
    have mB : Mod K mg (hidT s1.heap H) := ⟨kB, nsB hns, ⟨mb, nsB hb, hbb⟩, let ⟨m, h1, h2⟩ := hlim; ⟨m, nsB h1, h2⟩⟩
    have e0 : Env0 P w K mg (hidT s1.heap H) callerA [] s1 H := ⟨rfl, mB, fun b o e => of_hidT e, Nat.le_of_eq (hidT_size _ _), trivial, (fun b z => by cases z), hok, .of_eq hg⟩
    have mr : MRel K (fun _ => none) H := fun b o e => by cases e
    have il : IsL K H [D.rl (ns.map D.int)] [V.ref a] := IsL.mk (is_rl.mpr ⟨a, _, rfl, hR, isL_map (fun _ => ii_int) ns⟩) (isL_nil.mpr rfl)
    have run := (F _ kB (nsB hns)).run callerA [] s1 H ⟨[.ref a], []⟩ [.ref a] [.ref a] [D.rl (ns.map D.int)] (fun _ => none) (fun d _ => d = .bl true) EF (fun v _ => v = .bl true) (fun _ _ _ => False) hr rfl e0 (hbind s1 (.ref a)) (.cons rfl .nil) il mr
      (fun v d M' H' i _ _ q => by subst q; exact is_bl.mp i) (fun c d H' z => by obtain ⟨_, _, _, _, _, z⟩ := z; exact z) hsp
    refine codeAny_mono run fun r s' z => ?_
    cases r with
    | error e => obtain ⟨_, _, _, _, _, _, _, _, _, _, _, _, z⟩ := z; exact z.elim
    | ok fl =>
      cases fl with
      | next => exact False.elim z
      | brk => exact False.elim z
      | cont => exact False.elim z
      | ret u =>
        obtain ⟨v, H', os, bare, un, hok', r', q⟩ := z
        obtain rfl : v = .bl true := q
        obtain rfl : u = Value.bool true := r'
        refine ⟨rfl, OldK.of_keep fun b o e => ?_, os, bare⟩
        cases q : H b with
        | none => exact un.keep b o e q (fun y => by cases y) (fun y => by cases y)
        | some u =>
          obtain ⟨rfl, ob, rfl⟩ := hA b u q
          obtain ⟨e1, _⟩ := hok b _ q
          obtain ⟨e2, _⟩ := hok' b _ (un.frzs b ob _ q)
          rw [e] at e1
          cases e1
          exact e2
  have lv : vs.length = ns.length := hi.length
  cases hk : K.lookup a with
  | some o =>
    have e := KX a o hk
    rw [ha] at e
    cases e
    exact main (fun _ => none) (.inr ⟨_, vs.toArray, _, hk, rfl, rfl, rfl, by rw [List.size_toArray, lv]; exact hl, by simpa using rv⟩) (fun b u z => by cases z) (fun b u z => by cases z) fun _ _ _ => rfl
  | none =>
    refine main (fun b => if b = a then some (.frz { cls := .type "list", data := .seq vs.toArray } (.lst (ns.map V.int))) else none) (.inl ⟨_, if_pos rfl⟩) (fun b u z => ?_) (fun b u z => ?_) fun b o e => ?_
    · dsimp only at z
      split at z
      · rename_i hb
        cases z
        subst hb
        exact ⟨ha, by rw [List.length_map]; exact hl, vs, _, rv, ha⟩
      · cases z
    · split at z
      · rename_i hb
        cases z
        exact ⟨hb, _, rfl⟩
      · cases z
    · exact if_neg fun z => by rw [z, hk] at e; cases e
/-- the law's end over a head by facts -/
theorem walkG {l : PySem.W.OpenLaw} {n k : Nat} {q : Program} {loose : List Str} {XP : (Str → Option Value) → Heap → Prop} {YP : World → Heap → Prop} {d : DefRec} {x : Str}
    (hn : l.most = some n) (hn2 : n ≤ sizeLine) (hdf : d.params.defaults = []) (hr : Room k callerA)
    (F : ∀ (w : World) (mg : Str → Option Value) (fa : Addr) (h : Heap), YP w h → h.Ns mainGlobals mg → mg d.name = some (.ref fa) →
      ∃ (K : PySem.W.Frag) (fd : FuncData) (sp : DSp), K.In h ∧ (∀ (s : Shared) (u : Value), BindsTo s fd ⟨[u], []⟩ [(x, u)]) ∧
        (∀ ns : List Int, ns.length ≤ n → sp [.rl (ns.map D.int)] (fun _ => none) (fun d _ => d = .bl true) EF) ∧
        ∀ base : Heap, K.In base → base.Ns mainGlobals mg → FnG l.prog w K mg base k fa fd [x] sp) :
    PySem.W.WalkO q loose XP YP l.row.toRowW d [] (fun f vs => PySem.call f vs) := by
  refine Att.attach_call hn hdf fun w s0 s1 mg mb fa o pm cd doc a vs ns G Y ho hd hcd hmg hobj hints hlen hg => ?_
  obtain ⟨K, fd, sp, KX, hb, hsp, hF⟩ := F w mg fa _ Y G.T.g hmg
  exact lawG_call KX G.T.g G.T.b G.T.builtins G.T.nolimit hg hobj hints (Nat.le_trans hlen hn2) hr hF hb (hsp ns hlen)
end DL

/-! Built-in functions, types and methods by trees. -/
namespace DL
open PySem PySem.Spec PyProof.Rows L2
section
variable {K : PySem.W.Frag} {H : Hp}
theorem isL_one {d : D} {vs : List V} (l : IsL K H [d] vs) : ∃ v, vs = [v] ∧ Is K H d v := by
  rw [isL_cons] at l
  obtain ⟨v, r, rfl, i, l⟩ := l
  rw [isL_nil] at l
  subst l
  exact ⟨v, rfl, i⟩
theorem isL_two {d e : D} {vs : List V} (l : IsL K H [d, e] vs) : ∃ v u, vs = [v, u] ∧ Is K H d v ∧ Is K H e u := by
  rw [isL_cons] at l
  obtain ⟨v, r, rfl, i, l⟩ := l
  obtain ⟨u, rfl, j⟩ := isL_one l
  exact ⟨v, u, rfl, i, j⟩
/-- a row of one kind of scalars -/
theorem isL_ints {xs : List Int} {vs : List V} (l : IsL K H (xs.map D.int) vs) : vs = xs.map V.int := by
  induction xs generalizing vs with
  | nil => rw [List.map_nil, isL_nil] at l; exact l
  | cons x xs ih =>
    rw [List.map_cons, isL_cons] at l
    obtain ⟨v, r, rfl, i, l⟩ := l
    rw [is_int] at i
    rw [i, ih l]; rfl
theorem isL_strs {xs : List Str} {vs : List V} (l : IsL K H (xs.map D.str) vs) : vs = xs.map V.str := by
  induction xs generalizing vs with
  | nil => rw [List.map_nil, isL_nil] at l; exact l
  | cons x xs ih =>
    rw [List.map_cons, isL_cons] at l
    obtain ⟨v, r, rfl, i, l⟩ := l
    rw [is_str] at i
    rw [i, ih l]; rfl
theorem isL_bls {xs : List Bool} {vs : List V} (l : IsL K H (xs.map D.bl) vs) : vs = xs.map V.bl := by
  induction xs generalizing vs with
  | nil => rw [List.map_nil, isL_nil] at l; exact l
  | cons x xs ih =>
    rw [List.map_cons, isL_cons] at l
    obtain ⟨v, r, rfl, i, l⟩ := l
    rw [is_bl] at i
    rw [i, ih l]; rfl
end
section
variable {X : Cx}
/-! abs, len, int -/
def rAbs : RnD := fun ds M Q => match ds with | [.int i] => Q (.int (if i < 0 then -i else i)) M | _ => False
theorem cd_abs : CallD X (.builtin "abs") rAbs := by
  refine ⟨_, call_abs, fun M H Mo Ho vs ds Q QV m f l fin q => ?_⟩
  match ds, q with
  | [.int i], q =>
    obtain ⟨v, rfl, j⟩ := isL_one l
    rw [is_int] at j
    exact ⟨i, by rw [j], fin _ _ _ _ ii_int m f q⟩
def rLenD : RnD := fun ds M Q => match ds with
  | [.str z] => z.length ≤ sizeLine ∧ Q (.int z.length) M
  | [.tup xs] => Q (.int xs.length) M
  | [.rl xs] => Q (.int xs.length) M
  | [.ref a] => (∃ xs, M a = some (.lst xs) ∧ Q (.int xs.length) M) ∨ ∃ kvs, M a = some (.dK kvs) ∧ Q (.int kvs.length) M
  | _ => False
theorem call_lenDict : CallR X (.builtin "len") (fun xs H Q => ∃ a kvs, xs = [.ref a] ∧ H a = some (.dK kvs) ∧ Q (.int kvs.length) H) := by
  intro pins s σ H xs us Q I r h
  obtain ⟨a, kvs, rfl, h, q⟩ := h
  rw [Vals.ref1 r]
  exact d_len I (.inl h) fun t s' I' => ⟨.int kvs.length, H, I', ⟨t, rfl⟩, q⟩
theorem cd_len : CallD X (.builtin "len") rLenD := by
  refine ⟨_, call_len.or call_lenDict, fun M H Mo Ho vs ds Q QV m f l fin q => ?_⟩
  match ds, q with
  | [.str z], q =>
    obtain ⟨v, rfl, j⟩ := isL_one l
    rw [is_str] at j
    subst j
    exact .inl ⟨_, z.length, rfl, ⟨q.1, rfl⟩, fin _ _ _ _ ii_int m f q.2⟩
  | [.tup xs], q =>
    obtain ⟨v, rfl, j⟩ := isL_one l
    rw [is_tup] at j
    obtain ⟨a, ws, rfl, e, l1⟩ := j
    exact .inl ⟨_, xs.length, rfl, .inr ⟨ws, SqT.of e, l1.length.symm⟩, fin _ _ _ _ ii_int m f q⟩
  | [.rl xs], q =>
    obtain ⟨v, rfl, j⟩ := isL_one l
    rw [is_rl] at j
    obtain ⟨a, ws, rfl, e, l1⟩ := j
    exact .inl ⟨_, xs.length, rfl, .inl ⟨ws, e.sq, l1.length.symm⟩, fin _ _ _ _ ii_int m f q⟩
  | [.ref a], q =>
    obtain ⟨v, rfl, j⟩ := isL_one l
    rw [is_ref] at j
    subst j
    rcases q with ⟨xs, h, q⟩ | ⟨kvs, h, q⟩
    · obtain ⟨ws, e, l1⟩ := m a _ h
      exact .inl ⟨_, xs.length, rfl, .inl ⟨ws, SqL.of e, l1.length.symm⟩, fin _ _ _ _ ii_int m f q⟩
    · obtain ⟨ws, e, r⟩ := m a _ h
      exact .inr ⟨a, ws, rfl, e, by rw [KRel.length r]; exact fin _ _ _ _ ii_int m f q⟩
def rInt : RnD := fun ds M Q => match ds with
  | [.int i] => Q (.int i) M
  | [.bl b] => Q (.int (if b = true then 1 else 0)) M
  | _ => False
theorem cd_int : CallD X (.type "int") rInt := by
  refine ⟨_, call_int1, fun M H Mo Ho vs ds Q QV m f l fin q => ?_⟩
  match ds, q with
  | [.int i], q =>
    obtain ⟨v, rfl, j⟩ := isL_one l
    rw [is_int] at j
    exact .inl ⟨i, by rw [j], fin _ _ _ _ ii_int m f q⟩
  | [.bl b], q =>
    obtain ⟨v, rfl, j⟩ := isL_one l
    rw [is_bl] at j
    exact .inr ⟨b, by rw [j], fin _ _ _ _ ii_int m f q⟩
/-! min, max of two -/
theorem cmp_strs_lt {P : Program} {w : World} {A : Around} {R : Nat → Value → Prop} (x : Nat → Str) (h : ∀ i v, R i v → ∃ t, v = .str (x i) t) : CmpOf P w A .Lt R (fun i j => ltS (x i) (x j)) := fun i j vi vj s Q E hi hj q => by
  obtain ⟨t, rfl⟩ := h i vi hi
  obtain ⟨u, rfl⟩ := h j vj hj
  have := PySem.P.lt_str (prog := P) (w := w) (A := A) (E := E) (s := s) (x := x i) (y := x j) (t := t) (u := u) (Q := Q) q
  exact this
theorem cmp_strs_gt {P : Program} {w : World} {A : Around} {R : Nat → Value → Prop} (x : Nat → Str) (h : ∀ i v, R i v → ∃ t, v = .str (x i) t) : CmpOf P w A .Gt R (fun i j => ltS (x j) (x i)) := fun i j vi vj s Q E hi hj q => by
  obtain ⟨t, rfl⟩ := h i vi hi
  obtain ⟨u, rfl⟩ := h j vj hj
  have := PySem.P.gt_str (prog := P) (w := w) (A := A) (E := E) (s := s) (x := x i) (y := x j) (t := t) (u := u) (Q := Q)
  exact this q
/-- the least, the greatest of two texts -/
theorem two_strs (mx : Bool) (hc : X.calm = true) : CallR X (.builtin (if mx then "max" else "min")) (fun xs H Q => ∃ a b, xs = [.str a, .str b] ∧ Q (.str (if (if mx then ltS a b else ltS b a) = true then b else a)) H) := by
  intro pins s σ H xs us Q I r h
  obtain ⟨a, b, rfl, q⟩ := h
  obtain ⟨u1, u2, rfl, ⟨t, rfl⟩, ⟨u, rfl⟩⟩ := vals2 r
  have hh : X.A.in1.handled = none := I.ok.hd hc
  have hT : (s.heap.push { cls := .type "tuple", data := .seq #[.str a t, .str b u] }).IsTuple s.heap.objs.size #[.str a t, .str b u] := ⟨_, Heap.get?_push_size _ rfl, rfl, 0, rfl⟩
  have hsz : (s.heap.push { cls := .type "tuple", data := .seq #[.str a t, .str b u] }).objs.size = s.heap.objs.size + 1 := Heap.size_push ..
  have at_ : ∀ (i : Nat) (v : Value), (#[Value.str a t, .str b u] : Array Value)[i]? = some v → ∃ t', v = .str (if i = 0 then a else b) t' := fun i v e => by
    match i, e with
    | 0, e => simp at e; exact ⟨t, by rw [← e]; rfl⟩
    | 1, e => simp at e; exact ⟨u, by rw [← e]; rfl⟩
    | i + 2, e => simp at e
  have fpok : ∀ c ∈ [(s.heap.push { cls := .type "tuple", data := .seq #[.str a t, .str b u] }).objs.size, s.heap.objs.size], c < ((s.heap.push { cls := .type "tuple", data := .seq #[.str a t, .str b u] }).push { cls := .type "tuple_iterator", data := .fields #[.ref s.heap.objs.size, rawInt 0] }).objs.size := fun c h => by
    rw [Heap.size_push, hsz]
    simp only [List.mem_cons, List.not_mem_nil, or_false] at h
    rcases h with rfl | rfl
    · rw [hsz]; exact Nat.lt_succ_self _
    · exact Nat.lt_succ_of_lt (Nat.lt_succ_self _)
  have old : ∀ (h' : Heap), (∀ c o, c ∉ [(s.heap.push { cls := .type "tuple", data := .seq #[.str a t, .str b u] }).objs.size] → ((s.heap.push { cls := .type "tuple", data := .seq #[.str a t, .str b u] }).push { cls := .type "tuple_iterator", data := .fields #[.ref s.heap.objs.size, rawInt 0] }).get? c = some o → h'.get? c = some o) →
      ∀ c o, s.heap.get? c = some o → h'.get? c = some o := fun h' hk c o e => by
    refine hk c o (fun hm => ?_) (Heap.get?_push_of_some _ (Heap.get?_push_of_some _ e))
    have e1 := List.mem_singleton.mp hm
    have l := Heap.lt_size e
    rw [e1, hsz] at l
    exact Nat.lt_irrefl _ (Nat.lt_of_succ_lt l)
  have st0 : ∀ (o : Obj), o = { cls := .type "tuple_iterator", data := .fields #[.ref s.heap.objs.size, rawInt 0] } → ((s.heap.push { cls := .type "tuple", data := .seq #[.str a t, .str b u] }).push o).IsTupleIter (s.heap.push { cls := .type "tuple", data := .seq #[.str a t, .str b u] }).objs.size s.heap.objs.size 0 := fun o e => by
    subst e
    exact ⟨_, Heap.get?_push_size _ rfl, rfl, rfl⟩
  have ne : s.heap.objs.size ≠ (s.heap.push { cls := .type "tuple", data := .seq #[.str a t, .str b u] }).objs.size := by rw [hsz]; exact Nat.ne_of_lt (Nat.lt_succ_self _)
  cases mx with
  | true =>
    refine call_max_two (wpAny_pyIter_tuple hT ⟨_, _, _, _, _, _, _, rfl, Walks.tuple hh _ s.heap.objs.size ne #[.str a t, .str b u], ⟨st0 _ rfl, hT.push _⟩, fpok, by simp, cmp_strs_gt (fun i => if i = 0 then a else b) at_, fun v h' tk hP hk => ?_⟩)
    refine ⟨.str (if ltS a b = true then b else a), H, I.kept (old h' hk), ?_, by simpa using q⟩
    by_cases c : ltS a b = true
    · have e : argBest (fun i j => ltS (if j = 0 then a else b) (if i = 0 then a else b)) 1 = 1 := by simp [argBest, c]
      have hP' : (#[Value.str a t, .str b u] : Array Value)[argBest (fun i j => ltS (if j = 0 then a else b) (if i = 0 then a else b)) 1]? = some v := hP
      rw [e] at hP'
      simp at hP'
      rw [if_pos c, ← hP']
      exact ⟨u, rfl⟩
    · have e : argBest (fun i j => ltS (if j = 0 then a else b) (if i = 0 then a else b)) 1 = 0 := by simp [argBest, c]
      have hP' : (#[Value.str a t, .str b u] : Array Value)[argBest (fun i j => ltS (if j = 0 then a else b) (if i = 0 then a else b)) 1]? = some v := hP
      rw [e] at hP'
      simp at hP'
      rw [if_neg c, ← hP']
      exact ⟨t, rfl⟩
  | false =>
    refine call_min_two (wpAny_pyIter_tuple hT ⟨_, _, _, _, _, _, _, rfl, Walks.tuple hh _ s.heap.objs.size ne #[.str a t, .str b u], ⟨st0 _ rfl, hT.push _⟩, fpok, by simp, cmp_strs_lt (fun i => if i = 0 then a else b) at_, fun v h' tk hP hk => ?_⟩)
    refine ⟨.str (if ltS b a = true then b else a), H, I.kept (old h' hk), ?_, by simpa using q⟩
    by_cases c : ltS b a = true
    · have e : argBest (fun i j => ltS (if i = 0 then a else b) (if j = 0 then a else b)) 1 = 1 := by simp [argBest, c]
      have hP' : (#[Value.str a t, .str b u] : Array Value)[argBest (fun i j => ltS (if i = 0 then a else b) (if j = 0 then a else b)) 1]? = some v := hP
      rw [e] at hP'
      simp at hP'
      rw [if_pos c, ← hP']
      exact ⟨u, rfl⟩
    · have e : argBest (fun i j => ltS (if i = 0 then a else b) (if j = 0 then a else b)) 1 = 0 := by simp [argBest, c]
      have hP' : (#[Value.str a t, .str b u] : Array Value)[argBest (fun i j => ltS (if i = 0 then a else b) (if j = 0 then a else b)) 1]? = some v := hP
      rw [e] at hP'
      simp at hP'
      rw [if_neg c, ← hP']
      exact ⟨t, rfl⟩
def rMin2 : RnD := fun ds M Q => match ds with
  | [.int i, .int j] => Q (.int (if j < i then j else i)) M
  | [.str a, .str b] => Q (.str (if ltS b a = true then b else a)) M
  | _ => False
def rMax2 : RnD := fun ds M Q => match ds with
  | [.int i, .int j] => Q (.int (if j > i then j else i)) M
  | [.str a, .str b] => Q (.str (if ltS a b = true then b else a)) M
  | _ => False
theorem cd_min2 (hc : X.calm = true) : CallD X (.builtin "min") rMin2 := by
  refine ⟨_, (call_min2 hc).or (two_strs false hc), fun M H Mo Ho vs ds Q QV m f l fin q => ?_⟩
  match ds, q with
  | [.int i, .int j], q =>
    obtain ⟨v, u, rfl, h1, h2⟩ := isL_two l
    rw [is_int] at h1 h2
    exact .inl ⟨i, j, by rw [h1, h2], fin _ _ _ _ ii_int m f q⟩
  | [.str i, .str j], q =>
    obtain ⟨v, u, rfl, h1, h2⟩ := isL_two l
    rw [is_str] at h1 h2
    exact .inr ⟨i, j, by rw [h1, h2], fin _ _ _ _ ii_str m f q⟩
theorem cd_max2 (hc : X.calm = true) : CallD X (.builtin "max") rMax2 := by
  refine ⟨_, (call_max2 hc).or (two_strs true hc), fun M H Mo Ho vs ds Q QV m f l fin q => ?_⟩
  match ds, q with
  | [.int i, .int j], q =>
    obtain ⟨v, u, rfl, h1, h2⟩ := isL_two l
    rw [is_int] at h1 h2
    exact .inl ⟨i, j, by rw [h1, h2], fin _ _ _ _ ii_int m f q⟩
  | [.str i, .str j], q =>
    obtain ⟨v, u, rfl, h1, h2⟩ := isL_two l
    rw [is_str] at h1 h2
    exact .inr ⟨i, j, by rw [h1, h2], fin _ _ _ _ ii_str m f q⟩
/-! tuple(..), list(..) -/
def rTuple : RnD := fun ds M Q => match ds with
  | [.tup xs] => Q (.tup xs) M
  | [.rl xs] => Q (.tup xs) M
  | [.ref a] => ∃ xs, M a = some (.lst xs) ∧ Q (.tup xs) M
  | _ => False
theorem cd_tuple : CallD X (.type "tuple") rTuple := by
  refine ⟨_, call_tuple_of, fun M H Mo Ho vs ds Q QV m f l fin q => ?_⟩
  match ds, q with
  | [.tup xs], q =>
    obtain ⟨v, rfl, j⟩ := isL_one l
    have j0 := j
    rw [is_tup] at j
    obtain ⟨a, ws, rfl, e, l1⟩ := j
    exact ⟨a, ws, rfl, .inr ⟨SqT.of e, fin _ _ _ _ j0 m f q⟩⟩
  | [.rl xs], q =>
    obtain ⟨v, rfl, j⟩ := isL_one l
    rw [is_rl] at j
    obtain ⟨a, ws, rfl, e, l1⟩ := j
    exact ⟨a, ws, rfl, .inl ⟨e.sq, fin.newT m f l1 q⟩⟩
  | [.ref a], q =>
    obtain ⟨v, rfl, j⟩ := isL_one l
    rw [is_ref] at j
    subst j
    obtain ⟨xs, h, q⟩ := q
    obtain ⟨ws, e, l1⟩ := m a _ h
    exact ⟨a, ws, rfl, .inl ⟨SqL.of e, fin.newT m f l1 q⟩⟩
def rList : RnD := fun ds M Q => match ds with
  | [.tup xs] => ∀ p, M p = none → Q (.ref p) (wr M p (.lst xs))
  | [.rl xs] => ∀ p, M p = none → Q (.ref p) (wr M p (.lst xs))
  | [.ref a] => ∃ xs, M a = some (.lst xs) ∧ ∀ p, M p = none → Q (.ref p) (wr M p (.lst xs))
  | [.str x] => x.length ≤ sizeLine ∧ ∀ p, M p = none → Q (.ref p) (wr M p (.lst (signs x)))
  | _ => False
theorem call_listStr (hc : X.calm = true) : CallR X (.type "list") (fun xs H Q => ∃ x : Str, xs = [.str x] ∧ x.length ≤ sizeLine ∧ ∀ p, H p = none → Q (.ref p) (upd H p (.lst (x.cps.toList.map fun c => V.str ⟨#[c]⟩)))) := by
  intro pins s σ H xs us Q I r h
  obtain ⟨x, rfl, hx, q⟩ := h
  obtain ⟨u1, rfl, ⟨t, rfl⟩⟩ := vals1 r
  refine call_list_str (I.ok.hd hc) x t (hn := hx) fun h' tk acc c hk hS hacc => ?_
  have hlen : acc.size = x.cps.size := by rw [hacc.1]
  have rel : Vals (x.cps.toList.map fun c => V.str ⟨#[c]⟩) acc.toList := by
    refine vals_of_at (by simp [hlen]) fun j y u h1 h2 => ?_
    obtain ⟨c', u', h3, rfl⟩ := hacc.2 j u (by simpa using h2)
    rw [List.getElem?_map, Array.getElem?_toList, h3] at h1
    cases h1
    exact ⟨u', rfl⟩
  refine ⟨.ref _, _, I.laid (a := s.heap.objs.size) (o := .lst (x.cps.toList.map fun c => V.str ⟨#[c]⟩)) hk (Nat.le_refl _) ⟨by simpa [Str.length] using hx, acc.toList, c, rel, by simpa using hS⟩, rfl, q _ (I.hok.fresh (Nat.le_refl _))⟩
theorem cd_list (hc : X.calm = true) : CallD X (.type "list") rList := by
  refine ⟨_, call_list_of.or (call_listStr hc), fun M H Mo Ho vs ds Q QV m f l fin q => ?_⟩
  match ds, q with
  | [.tup xs], q =>
    obtain ⟨v, rfl, j⟩ := isL_one l
    rw [is_tup] at j
    obtain ⟨a, ws, rfl, e, l1⟩ := j
    exact .inl ⟨a, ws, rfl, .inr (SqT.of e), fin.newL m f l1 q⟩
  | [.rl xs], q =>
    obtain ⟨v, rfl, j⟩ := isL_one l
    rw [is_rl] at j
    obtain ⟨a, ws, rfl, e, l1⟩ := j
    exact .inl ⟨a, ws, rfl, .inl e.sq, fin.newL m f l1 q⟩
  | [.ref a], q =>
    obtain ⟨v, rfl, j⟩ := isL_one l
    rw [is_ref] at j
    subst j
    obtain ⟨xs, h, q⟩ := q
    obtain ⟨ws, e, l1⟩ := m a _ h
    exact .inl ⟨a, ws, rfl, .inl (SqL.of e), fin.newL m f l1 q⟩
  | [.str x], q =>
    obtain ⟨v, rfl, j⟩ := isL_one l
    rw [is_str] at j
    subst j
    exact .inr ⟨x, rfl, q.1, fin.newL m f (isL_map (fun _ => ii_str) _) q.2⟩
end
end DL

/-! More built-ins by trees; repr; methods; what is dropped at once. -/
namespace DL
open PySem PySem.Spec PyProof.Rows L2
section
variable {X : Cx}
/-! all, any, sum over a list that stands -/
def listAt (M : Mem) (d : D) (R : List D → Prop) : Prop := match d with
  | .rl xs => R xs
  | .ref a => ∃ xs, M a = some (.lst xs) ∧ R xs
  | _ => False
theorem listAt_low {M : Mem} {H : Hp} {d : D} {v : V} {R : List D → Prop} (m : MRel X.K M H) (i : Is X.K H d v) (q : listAt M d R) : ∃ a vs xs, v = .ref a ∧ SqL X.K H a vs ∧ IsL X.K H xs vs ∧ R xs := by
  cases d with
  | rl xs =>
    rw [is_rl] at i
    obtain ⟨a, ws, rfl, e, l⟩ := i
    exact ⟨a, ws, xs, rfl, e.sq, l, q⟩
  | ref a =>
    rw [is_ref] at i
    obtain ⟨xs, h, q⟩ := q
    obtain ⟨ws, e, l⟩ := m a _ h
    exact ⟨a, ws, xs, i, SqL.of e, l, q⟩
  | _ => exact q.elim
def rBools (c : List Bool → Bool) : RnD := fun ds M Q => match ds with | [d] => listAt M d fun xs => ∃ bs, xs = bs.map D.bl ∧ Q (.bl (c bs)) M | _ => False
theorem cd_all (hc : X.calm = true) : CallD X (.builtin "all") (rBools fun bs => bs.all id) := by
  refine ⟨_, cr_all hc, fun M H Mo Ho vs ds Q QV m f l fin q => ?_⟩
  match ds, q with
  | [d], q =>
    obtain ⟨v, rfl, j⟩ := isL_one l
    obtain ⟨a, ws, xs, rfl, s, l1, bs, rfl, q⟩ := listAt_low m j q
    exact ⟨a, bs, rfl, by rw [← isL_bls l1]; exact s, fin _ _ _ _ ii_bl m f q⟩
theorem cd_any (hc : X.calm = true) : CallD X (.builtin "any") (rBools fun bs => bs.any id) := by
  refine ⟨_, cr_any hc, fun M H Mo Ho vs ds Q QV m f l fin q => ?_⟩
  match ds, q with
  | [d], q =>
    obtain ⟨v, rfl, j⟩ := isL_one l
    obtain ⟨a, ws, xs, rfl, s, l1, bs, rfl, q⟩ := listAt_low m j q
    exact ⟨a, bs, rfl, by rw [← isL_bls l1]; exact s, fin _ _ _ _ ii_bl m f q⟩
def rSumD : RnD := fun ds M Q => match ds with | [d] => listAt M d fun xs => ∃ ns : List Int, xs = ns.map D.int ∧ Q (.int ns.sum) M | _ => False
theorem cd_sum (hc : X.calm = true) : CallD X (.builtin "sum") rSumD := by
  refine ⟨_, cr_sum hc, fun M H Mo Ho vs ds Q QV m f l fin q => ?_⟩
  match ds, q with
  | [d], q =>
    obtain ⟨v, rfl, j⟩ := isL_one l
    obtain ⟨a, ws, xs, rfl, s, l1, ns, rfl, q⟩ := listAt_low m j q
    exact ⟨a, ns, rfl, by rw [← isL_ints l1]; exact s, fin _ _ _ _ ii_int m f q⟩
/-! sorted: texts, numbers -/
def rSortedD : RnD := fun ds M Q => match ds with
  | [d] => listAt M d fun xs => (∃ ss : List Str, xs = ss.map D.str ∧ ss.length < 64 ∧ ∀ ys : List Str, ys.Perm ss → sortedS ys = true → ∀ p, M p = none → Q (.ref p) (wr M p (.lst (ys.map D.str)))) ∨
      ∃ ns : List Int, xs = ns.map D.int ∧ ns.length < 64 ∧ ∀ ys : List Int, ys.Perm ns → ys.Pairwise (· ≤ ·) → ∀ p, M p = none → Q (.ref p) (wr M p (.lst (ys.map D.int)))
  | _ => False
theorem cd_sorted : CallD X (.builtin "sorted") rSortedD := by
  refine ⟨_, cr_sortedS.or cr_sorted, fun M H Mo Ho vs ds Q QV m f l fin q => ?_⟩
  match ds, q with
  | [d], q =>
    obtain ⟨v, rfl, j⟩ := isL_one l
    obtain ⟨a, ws, xs, rfl, s, l1, q⟩ := listAt_low m j q
    rcases q with ⟨ss, rfl, h64, q⟩ | ⟨ns, rfl, h64, q⟩
    · refine .inl ⟨a, ss, rfl, by rw [← isL_strs l1]; exact s, h64, fun ys p h1 h2 hp => ?_⟩
      exact fin.newL m f (isL_map (fun _ => ii_str) ys) (q ys h1 h2) p hp
    · refine .inr ⟨a, ns, rfl, by rw [← isL_ints l1]; exact s, h64, fun ys p h1 h2 hp => ?_⟩
      exact fin.newL m f (isL_map (fun _ => ii_int) ys) (q ys h1 h2) p hp
/-! repr -/
def rRepr : RnD := fun ds M Q => match ds with
  | [d] => ∃ p, PD M d p ∧ p.hasDict = false ∧ p.showable = true ∧ p.shown.length ≤ sizeLine ∧ p.depth ≤ 64 ∧ Q (.str p.shown) M
  | _ => False
theorem call_reprP (hg : X.A.guards = some []) (hu : X.A.units + 70 < cLine) : CallR X (.builtin "repr") (fun xs H Q => ∃ v M d p, xs = [v] ∧ MRel X.K M H ∧ Is X.K H d v ∧ PD M d p ∧ p.hasDict = false ∧ p.showable = true ∧ p.shown.length ≤ sizeLine ∧ p.depth ≤ 64 ∧ Q (.str p.shown) H) := by
  intro pins s σ H xs us Q I r h
  obtain ⟨v, M, d, p, rfl, m, i, hp, nd, h1, h2, h3, q⟩ := h
  obtain ⟨u, rfl, ru⟩ := vals1 r
  obtain ⟨as, hr⟩ := PD.reads I m p d v u hp i ru nd
  have hsm := PyData.noDict_hsm (as := as) nd
  have viaRef : ∀ a, u = .ref a → wpAny (model X.prog X.w) X.A (call (.builtin "repr") [u]) (EP X pins σ Q) X.xe s := fun a e => by
    subst e
    exact repr_of_reads' hr h1 hsm hg (by omega) (fun _ _ z => z) (fun h' t tk k => ⟨.str _, H, I.kept k, ⟨_, rfl⟩, q⟩) h2
  cases hr with
  | none => exact PySem.P.repr_of_none ⟨.str "None", H, I.tok _, ⟨_, rfl⟩, q⟩
  | bool b => exact PySem.P.repr_of_bool ⟨.str (if b then "True" else "False"), H, I.tok _, ⟨_, rfl⟩, q⟩
  | int k t => exact PySem.P.repr_of_int (by simpa [PyData.showable] using h1) ⟨.str (toString k), H, I.tok _, ⟨_, rfl⟩, q⟩
  | str x t => exact PySem.P.repr_of_str ⟨.str (reprText x), H, I.tok _, ⟨_, rfl⟩, q⟩ h2
  | list _ _ _ _ => exact viaRef _ rfl
  | tuple _ _ _ _ => exact viaRef _ rfl
  | dict _ _ _ _ _ => exact viaRef _ rfl
theorem cd_repr (hg : X.A.guards = some []) (hu : X.A.units + 70 < cLine) : CallD X (.builtin "repr") rRepr := by
  refine ⟨_, call_reprP hg hu, fun M H Mo Ho vs ds Q QV m f l fin q => ?_⟩
  match ds, q with
  | [d], q =>
    obtain ⟨v, rfl, j⟩ := isL_one l
    obtain ⟨p, h1, h2, h3, h4, h5, q⟩ := q
    exact ⟨v, M, d, p, rfl, m, j, h1, h2, h3, h4, h5, fin _ _ _ _ ii_str m f q⟩
/-! isinstance of a thing and a built-in class -/
def tyName : D → Option String
  | .non => some "NoneType"
  | .bl _ => some "bool"
  | .int _ => some "int"
  | .str _ => some "str"
  | .tup _ => some "tuple"
  | .rl _ => some "list"
  | _ => none
/-- the type of a thing, by the memory -/
def hasTy (M : Mem) (d : D) (T : String) : Prop := match d with
  | .ref a => (T = "list" ∧ ∃ xs, M a = some (.lst xs)) ∨ (T = "dict" ∧ ∃ kvs, M a = some (.dK kvs))
  | _ => tyName d = some T
theorem hasTy_low {M : Mem} {H : Hp} {d : D} {v : V} {T : String} (m : MRel X.K M H) (i : Is X.K H d v) (h : hasTy M d T) : TyX X.K H v (.type T) := by
  cases d with
  | non => cases h; rw [is_non] at i; subst i; exact .base .non
  | bl b => cases h; rw [is_bl] at i; subst i; exact .base (.bl b)
  | int b => cases h; rw [is_int] at i; subst i; exact .base (.int b)
  | str b => cases h; rw [is_str] at i; subst i; exact .base (.str b)
  | tup xs => cases h; rw [is_tup] at i; obtain ⟨a, vs, rfl, e, l⟩ := i; exact .base (.tup e)
  | rl xs =>
    cases h
    rw [is_rl] at i
    obtain ⟨a, vs, rfl, e, l⟩ := i
    rcases e with ⟨o, e⟩ | ⟨o, its, n, e, c, _⟩
    · exact .base (.frz e)
    · exact .kList e c
  | ref a =>
    rw [is_ref] at i
    subst i
    rcases h with ⟨rfl, xs, h⟩ | ⟨rfl, kvs, h⟩
    · obtain ⟨ws, e, _⟩ := m a _ h
      exact .base (.lst e)
    · obtain ⟨ws, e, _⟩ := m a _ h
      exact .base (.dK e)
  | ty n => cases h
def rIsiD : RnD := fun ds M Q => match ds with
  | [d, .ty c] => ∃ T, hasTy M d T ∧ ∃ b, kitB T c = some b ∧ Q (.bl b) M
  | _ => False
theorem cd_isi : CallD X (.builtin "isinstance") rIsiD := by
  refine ⟨_, call_isi, fun M H Mo Ho vs ds Q QV m f l fin q => ?_⟩
  match ds, q with
  | [d, .ty c], q =>
    obtain ⟨v, u, rfl, i, j⟩ := isL_two l
    rw [is_ty] at j
    subst j
    obtain ⟨T, h, b, e, q⟩ := q
    exact ⟨v, .ty c, _, _, b, rfl, .ty c, hasTy_low m i h, kit_ty e, fin _ _ _ _ ii_bl m f q⟩
/-! ### methods -/
def mJoin : RmD := fun x ds M Q => match x with
  | .str a => (match ds with
    | [d] => (match d with
      | .tup xs => ∃ ys : List Str, xs = ys.map D.str ∧ (ys.map (·.length)).sum + ys.length * a.length ≤ 16777216 ∧ Q (.str (Txt.join a ys)) M
      | d => listAt M d fun xs => ∃ ys : List Str, xs = ys.map D.str ∧ (ys.map (·.length)).sum + ys.length * a.length ≤ 16777216 ∧ Q (.str (Txt.join a ys)) M)
    | _ => False)
  | _ => False
theorem md_join : MtD X "str" "join" "str.join" mJoin := by
  refine ⟨PySem.F.plainAttrs_str, PySem.F.slot_str_join, PySem.F.type_str_join, _, mt_join, fun M H Mo Ho x a vs ds Q QV m f i l fin q => ?_⟩
  cases a with
  | str a =>
    rw [is_str] at i
    match ds, q with
    | [d], q =>
      obtain ⟨v, rfl, j⟩ := isL_one l
      cases d with
      | tup xs =>
        obtain ⟨ys, rfl, hz, q⟩ := q
        rw [is_tup] at j
        obtain ⟨p, ws, rfl, e, l1⟩ := j
        exact ⟨a, p, ys, i, rfl, .inr (by rw [← isL_strs l1]; exact SqT.of e), hz, fin _ _ _ _ ii_str m f q⟩
      | rl xs =>
        have q : listAt M (.rl xs) fun xs => ∃ ys : List Str, xs = ys.map D.str ∧ (ys.map (·.length)).sum + ys.length * a.length ≤ 16777216 ∧ Q (.str (Txt.join a ys)) M := q
        obtain ⟨p, ws, zs, rfl, s, l1, ys, rfl, hz, q⟩ := listAt_low m j q
        exact ⟨a, p, ys, i, rfl, .inl (by rw [← isL_strs l1]; exact s), hz, fin _ _ _ _ ii_str m f q⟩
      | ref b =>
        have q : listAt M (.ref b) fun xs => ∃ ys : List Str, xs = ys.map D.str ∧ (ys.map (·.length)).sum + ys.length * a.length ≤ 16777216 ∧ Q (.str (Txt.join a ys)) M := q
        obtain ⟨p, ws, zs, rfl, s, l1, ys, rfl, hz, q⟩ := listAt_low m j q
        exact ⟨a, p, ys, i, rfl, .inl (by rw [← isL_strs l1]; exact s), hz, fin _ _ _ _ ii_str m f q⟩
      | _ => exact q.elim
  | _ => exact q.elim
def mUpper : RmD := fun x ds M Q => match x with
  | .str a => ds = [] ∧ a.length ≤ 5592405 ∧ Q (.str (Txt.upper a)) M
  | _ => False
theorem md_upper : MtD X "str" "upper" "str.upper" mUpper := by
  refine ⟨PySem.F.plainAttrs_str, PySem.F.slot_str_upper, PySem.F.type_str_upper, _, mt_upper, fun M H Mo Ho x a vs ds Q QV m f i l fin q => ?_⟩
  cases a with
  | str a =>
    rw [is_str] at i
    obtain ⟨rfl, hz, q⟩ := q
    rw [isL_nil] at l
    exact ⟨a, i, l, hz, fin _ _ _ _ ii_str m f q⟩
  | _ => exact q.elim
def mAppend : RmD := fun x ds M Q => match x with
  | .ref a => (match ds with | [d] => ∃ xs, M a = some (.lst xs) ∧ xs.length < sizeLine ∧ Q .non (wr M a (.lst (xs ++ [d]))) | _ => False)
  | _ => False
theorem md_append : MtD X "list" "append" "list.append" mAppend := by
  refine ⟨PySem.F.plainAttrs_list, PySem.F.slot_list_append, PySem.F.type_list_append, _, mt_append, fun M H Mo Ho x a vs ds Q QV m f i l fin q => ?_⟩
  cases a with
  | ref a =>
    rw [is_ref] at i
    match ds, q with
    | [d], q =>
      obtain ⟨v, rfl, j⟩ := isL_one l
      obtain ⟨xs, h, hz, q⟩ := q
      obtain ⟨ws, e, l1⟩ := m a _ h
      exact ⟨a, ws, v, i, rfl, e, by rw [l1.length]; exact hz, fin.setL m f h (l1.append (IsL.mk j (isL_nil.mpr rfl))) ii_non q⟩
  | _ => exact q.elim
def mExtend : RmD := fun x ds M Q => match x with
  | .ref a => (match ds with | [.ref b] => ∃ xs zs, M a = some (.lst xs) ∧ M b = some (.lst zs) ∧ xs.length + zs.length ≤ sizeLine ∧ Q .non (wr M a (.lst (xs ++ zs))) | _ => False)
  | _ => False
theorem md_extend : MtD X "list" "extend" "list.extend" mExtend := by
  refine ⟨PySem.F.plainAttrs_list, PySem.F.slot_list_extend, PySem.F.type_list_extend, _, mt_extend, fun M H Mo Ho x a vs ds Q QV m f i l fin q => ?_⟩
  cases a with
  | ref a =>
    rw [is_ref] at i
    match ds, q with
    | [.ref b], q =>
      obtain ⟨v, rfl, j⟩ := isL_one l
      rw [is_ref] at j
      subst j
      obtain ⟨xs, zs, h, h2, hz, q⟩ := q
      obtain ⟨ws, e, l1⟩ := m a _ h
      obtain ⟨us, e2, l2⟩ := m b _ h2
      exact ⟨a, b, ws, us, i, rfl, e, e2, by rw [l1.length, l2.length]; exact hz, fin.setL m f h (l1.append l2) ii_non q⟩
  | _ => exact q.elim
/-- pop(), pop(i) of a list -/
def mPop : RmD := fun x ds M Q => match x with
  | .ref a => (match ds with
    | [] => ∃ xs d, M a = some (.lst xs) ∧ xs[xs.length - 1]? = some d ∧ Q d (wr M a (.lst xs.dropLast))
    | [.int i] => ∃ xs k d, M a = some (.lst xs) ∧ -(2 ^ 63) ≤ i ∧ i < 2 ^ 63 ∧ seqIndex? i xs.length = some k ∧ xs[k]? = some d ∧ Q d (wr M a (.lst (xs.eraseIdx k)))
    | _ => False)
  | _ => False
theorem md_pop : MtD X "list" "pop" "list.pop" mPop := by
  refine ⟨PySem.F.plainAttrs_list, PySem.F.slot_list_pop, PySem.F.type_list_pop, _, MtR.or mt_pop mt_popAt, fun M H Mo Ho x a vs ds Q QV m f i l fin q => ?_⟩
  cases a with
  | ref a =>
    rw [is_ref] at i
    match ds, q with
    | [], q =>
      rw [isL_nil] at l
      obtain ⟨xs, d, h, e1, q⟩ := q
      obtain ⟨ws, e, l1⟩ := m a _ h
      obtain ⟨v, e2, j⟩ := l1.get e1
      refine .inl ⟨a, ws, v, i, l, e, by rw [l1.length]; exact e2, fin.setL m f h l1.dropLast j q⟩
    | [.int k], q =>
      obtain ⟨v, rfl, j⟩ := isL_one l
      rw [is_int] at j
      subst j
      obtain ⟨xs, n, d, h, b1, b2, e1, e3, q⟩ := q
      obtain ⟨ws, e, l1⟩ := m a _ h
      obtain ⟨u, e2, j⟩ := l1.get e3
      exact .inr ⟨a, ws, k, n, u, i, rfl, e, b1, b2, by rw [l1.length]; exact e1, e2, fin.setL m f h (l1.eraseIdx n) j q⟩
  | _ => exact q.elim
end
/-! ### a new list that is handed to a built-in at once, and dropped -/
/-- what a call reads of a list that nothing else knows -/
abbrev RtD := List D → Mem → QE → Prop
def TmpOk (r : RnD) (rt : RtD) : Prop := ∀ ds M Q, rt ds M Q → ∀ p, M p = none → r [.ref p] (wr M p (.lst ds)) (fun d M3 => ∃ M4, Sub M4 M3 ∧ Q d M4)
def dTmp (rt : RtD) (t : DTA) : DTE := fun e M Q E => t e M (fun ds M1 => rt ds M1 Q) E
theorem sub_wr {M : Mem} {p : Addr} {o : MO} (h : M p = none) : Sub M (wr M p o) := fun a u e => by
  have ne : a ≠ p := fun z => by subst z; rw [h] at e; cases e
  rw [wr_ne ne]; exact e
section
variable {g : Gd} {x : Expr} {t : DTA} {pos p apos : Pos} {n : Str} {id T : String} {r : RnD} {rt : RtD}
theorem tmp_low {r' : List V → Hp → VK → Prop} (k : CallK g.X.K r r') (ht : TmpOk r rt) {M M' : Mem} {H H' : Hp} {a : Addr} {vs : List V} {ds : List D} {Q : QE} (h : H' a = some (.lst vs)) (l : IsL g.X.K H' ds vs) (n : M' a = none) (n0 : H a = none) (m : MRel g.X.K M' H') (f : Fr M H M' H') (q : rt ds M' Q) :
    r' [.ref a] H' (lowQ g.X.K M H Q) := by
  obtain ⟨m2, f2⟩ := new_in h l n n0 m f
  refine k _ H' M H [.ref a] [.ref a] _ _ m2 f2 (IsL.mk ii_ref (isL_nil.mpr rfl)) (fun v d M3 H3 i3 m3 f3 q3 => ?_) (ht ds M' Q q a n)
  obtain ⟨M4, s4, q4⟩ := q3
  exact lowQ.mk i3 (m3.sub s4) (f3.sub s4) q4
theorem de_tmpB (hc : CallD g.X (.builtin id) r) (ht : TmpOk r rt) (hg : Gl g.X n) (hm : g.X.mg n = none) (hv : bootBuiltins n = some (.builtin id)) (hx : DLE g x t) (ns : isStar x = false) (hn : n ≠ "__name__") (hdb : (n == ("__debug__" : Str)) = false) :
    DE g (.Call (.Name n p) [x] [] pos) (dTmp rt t) := by
  obtain ⟨r', h, k⟩ := hc
  obtain ⟨t', pe, kk⟩ := hx.pe
  refine DE.of (pe_callB h hg hm hv (pa_cons pe pa_nil (star_cons ns)) hn hdb (star_cons ns) rfl) fun σ H e M Q sl mr fr q => ?_
  exact kk σ H e M _ _ sl mr fr q fun a vs ds M' H' h1 l n n0 m f q => tmp_low k ht h1 l n n0 m f q
theorem de_tmpT (hc : CallD g.X (.type T) r) (ht : TmpOk r rt) (hg : Gl g.X n) (hm : g.X.mg n = none) (hv : bootBuiltins n = some (.type T)) (hx : DLE g x t) (ns : isStar x = false) (hn : n ≠ "__name__") (hdb : (n == ("__debug__" : Str)) = false) :
    DE g (.Call (.Name n p) [x] [] pos) (dTmp rt t) := by
  obtain ⟨r', h, k⟩ := hc
  obtain ⟨t', pe, kk⟩ := hx.pe
  refine DE.of (pe_callTy h hg hm hv (pa_cons pe pa_nil (star_cons ns)) hn hdb (star_cons ns) rfl) fun σ H e M Q sl mr fr q => ?_
  exact kk σ H e M _ _ sl mr fr q fun a vs ds M' H' h1 l n n0 m f q => tmp_low k ht h1 l n n0 m f q
end
def tTuple : RtD := fun ds M Q => Q (.tup ds) M
theorem ok_tTuple : TmpOk rTuple tTuple := fun ds M Q q p hp => ⟨ds, wr_same, M, sub_wr hp, q⟩
def tBools (c : List Bool → Bool) : RtD := fun ds M Q => ∃ bs, ds = bs.map D.bl ∧ Q (.bl (c bs)) M
theorem ok_tBools {c : List Bool → Bool} : TmpOk (rBools c) (tBools c) := fun ds M Q ⟨bs, e, q⟩ p hp => ⟨ds, wr_same, bs, e, M, sub_wr hp, q⟩
def tLen : RtD := fun ds M Q => Q (.int ds.length) M
theorem ok_tLen : TmpOk rLenD tLen := fun ds M Q q p hp => .inl ⟨ds, wr_same, M, sub_wr hp, q⟩
def tSum : RtD := fun ds M Q => ∃ ns : List Int, ds = ns.map D.int ∧ Q (.int ns.sum) M
theorem ok_tSum : TmpOk rSumD tSum := fun ds M Q ⟨bs, e, q⟩ p hp => ⟨ds, wr_same, bs, e, M, sub_wr hp, q⟩
end DL

/-! A small syntax, and what it reads. -/
namespace DL
open PySem PySem.Spec PyProof.Rows L2
inductive CD where
  | non | bl (b : Bool) | int (i : Int) | str (s : Str)
  deriving DecidableEq
def CD.d : CD → D
  | .non => .non
  | .bl b => .bl b
  | .int i => .int i
  | .str s => .str s
/-- built-in functions -/
inductive BF where
  | abs | len | min | max | all | any | sum | sorted | repr | isi
  deriving DecidableEq
/-- built-in types that are called -/
inductive BT where
  | int | tuple | list
  deriving DecidableEq
/-- built-in methods -/
inductive BM where
  | join | upper | append | extend | pop
  deriving DecidableEq
def BF.nm : BF → String
  | .abs => "abs" | .len => "len" | .min => "min" | .max => "max" | .all => "all" | .any => "any" | .sum => "sum" | .sorted => "sorted" | .repr => "repr" | .isi => "isinstance"
def BF.rd : BF → RnD
  | .abs => rAbs | .len => rLenD | .min => rMin2 | .max => rMax2 | .all => rBools fun bs => bs.all id | .any => rBools fun bs => bs.any id | .sum => rSumD | .sorted => rSortedD | .repr => rRepr | .isi => rIsiD
def BF.rt : BF → RtD
  | .len => tLen | .all => tBools fun bs => bs.all id | .any => tBools fun bs => bs.any id | .sum => tSum | _ => fun _ _ _ => False
def BT.nm : BT → String
  | .int => "int" | .tuple => "tuple" | .list => "list"
def BT.rd : BT → RnD
  | .int => rInt | .tuple => rTuple | .list => rList
def BT.rt : BT → RtD
  | .tuple => tTuple | _ => fun _ _ _ => False
def BM.nm : BM → String
  | .join => "join" | .upper => "upper" | .append => "append" | .extend => "extend" | .pop => "pop"
def BM.ty : BM → String
  | .join => "str" | .upper => "str" | _ => "list"
def BM.id : BM → String
  | .join => "str.join" | .upper => "str.upper" | .append => "list.append" | .extend => "list.extend" | .pop => "list.pop"
def BM.rd : BM → RmD
  | .join => mJoin | .upper => mUpper | .append => mAppend | .extend => mExtend | .pop => mPop
def dMulA : R2D := fun x y M Q => match x with
  | .ref _ => dMulL x y M Q
  | _ => dMulI x y M Q
/-- a power of at most 2 ^ 27 bits -/
def CPowG (i j : Int) : Prop := 0 ≤ j ∧ ((i.natAbs.log2 + 1 : Nat) : Int) * j ≤ 2 ^ 27
theorem op_powG {X : Cx} : OpR X (binaryOp .Pow) (rI CPowG fun i j => .int (i ^ j.toNat)) := opI fun i j _ _ _ _ _ hc q => by
  refine pow_int hc.1 (Int.le_trans (Int.mul_le_mul_of_nonneg_right ?_ hc.1) hc.2) q
  have : Builtin.Int.intBits i ≤ i.natAbs.log2 + 1 := by
    unfold Builtin.Int.intBits
    split <;> omega
  exact Int.ofNat_le.mpr this
def boR : Operator → R2D
  | .Add => dAdd
  | .Sub => dSub
  | .Mult => dMulA
  | .FloorDiv => dFdiv
  | .Mod => dMod
  | .Pow => dI CPowG fun i j => .int (i ^ j.toNat)
  | _ => fun _ _ _ _ => False
def coR : CmpOp → R2D
  | .Eq => dEq
  | .NotEq => dNe
  | .Lt => dLt
  | .LtE => dIB fun i j => decide (i ≤ j)
  | .Gt => dIB fun i j => decide (j < i)
  | .GtE => dIB fun i j => decide (j ≤ i)
  | .Is => dIs false
  | .IsNot => dIs true
  | .In => dIn false
  | .NotIn => dIn true
mutual
inductive IG where
  | nm (i : Nat)
  | tp (gs : IGs)
inductive IGs where
  | nil
  | cons (g : IG) (r : IGs)
end
mutual
def IG.slots : IG → List Nat
  | .nm i => [i]
  | .tp gs => IGs.slots gs
def IGs.slots : IGs → List Nat
  | .nil => []
  | .cons g r => IG.slots g ++ IGs.slots r
end
mutual
def wG : IG → DTG
  | .nm i => dgName i
  | .tp gs => dgTup (wGs gs)
def wGs : IGs → DTGs
  | .nil => dgNil
  | .cons g r => dgCons (wG g) (wGs r)
end
mutual
inductive IE where
  | sl (i : Nat)
  | lit (c : CD)
  | gc (c : CD)
  | gty (T : BTy)
  | tup (es : IEs)
  | lst (es : IEs)
  | bin (o : Operator) (a b : IE)
  | neg (a : IE)
  | cmp (o : CmpOp) (a b : IE)
  | chain (o o' : CmpOp) (a b c : IE)
  | andE (a b : IE)
  | orE (a b : IE)
  | one (a : IE)
  | nt (a : IE)
  | ife (c a b : IE)
  | ix (a i : IE)
  | sli (a : IE) (lo hi : IO)
  | cb (f : BF) (a : IE) (es : IEs)
  | ct (f : BT) (a : IE) (es : IEs)
  | tb (f : BF) (l : IE)
  | tt (f : BT) (l : IE)
  | cf (f : Nat) (a : IE) (es : IEs)
  | cf0 (f : Nat)
  | mt (m : BM) (o : IE) (a : IE) (es : IEs)
  | mt0 (m : BM) (o : IE)
  | lc (own : List (Str × Nat)) (g : IG) (it : II) (cs : IO) (e : IE)
  | lc2 (own : List (Str × Nat)) (vs1 : List Nat) (g : IG) (it : II) (cs : IO) (g1 : IG) (it1 : II) (cs1 : IO) (e : IE)
inductive IEs where
  | nil
  | cons (a : IE) (r : IEs)
inductive IO where
  | no
  | yes (a : IE)
inductive II where
  | any (a : IE)
  | rg1 (a : IE)
  | rg2 (a b : IE)
  | en (a : IE)
/-- a type as a value -/
inductive BTy where
  | str | int | tuple | bool | list | dict
end
def BTy.nm : BTy → String
  | .str => "str" | .int => "int" | .tuple => "tuple" | .bool => "bool" | .list => "list" | .dict => "dict"
section
variable (S : Nat → DSp)
mutual
/-- the value; the test; a new list -/
def wE : IE → DTE
  | .sl i => dSlot i
  | .lit c => dC c.d
  | .gc c => dC c.d
  | .gty T => dC (.ty T.nm)
  | .tup es => dTup (wEs es)
  | .lst es => dLst (wEs es)
  | .bin o a b => dBin (boR o) (wE a) (wE b)
  | .neg a => dNeg (wE a)
  | .cmp o a b => dBin (coR o) (wE a) (wE b)
  | .chain o o' a b c => dChain (coR o) (coR o') (wE a) (wE b) (wE c)
  | .andE a b => dAnd (wE a) (wE b)
  | .orE a b => dOr (wE a) (wE b)
  | .one a => wE a
  | .nt a => dNot (wE a)
  | .ife c a b => dIfE (wT c) (wE a) (wE b)
  | .ix a i => dBin dIx (wE a) (wE i)
  | .sli a lo hi => dSlice (wE a) (wO lo) (wO hi)
  | .cb f a es => dCall f.rd (dCons (wE a) (wEs es))
  | .ct f a es => dCall f.rd (dCons (wE a) (wEs es))
  | .tb f l => dTmp f.rt (wL l)
  | .tt f l => dTmp f.rt (wL l)
  | .cf f a es => dFnD (S f) [] (dCons (wE a) (wEs es))
  | .cf0 f => dFnD (S f) [] dNil
  | .mt m o a es => dMt m.ty m.rd (wE o) (dCons (wE a) (wEs es))
  | .mt0 m o => dMt m.ty m.rd (wE o) dNil
  | .lc own g it cs e => dNew (dLc (wI it) (wG g) (wC cs) (wE e) (own.map (·.2)))
  | .lc2 own vs1 g it cs g1 it1 cs1 e => dNew (dLc2 (wI it) (wG g) (wC cs) (wI it1) (wG g1) (wC cs1) (wE e) (own.map (·.2)) vs1)
def wT : IE → DTT
  | .cmp o a b => dTest (dBin (coR o) (wE a) (wE b))
  | .chain o o' a b c => dTest (dChain (coR o) (coR o') (wE a) (wE b) (wE c))
  | .andE a b => dAndT (wT a) (wT b)
  | .orE a b => dOrT (wT a) (wT b)
  | .one a => wT a
  | .nt a => dNotT (wT a)
  | .sl i => dTruth (dSlot i)
  | .lit c => dTruth (dC c.d)
  | .gc c => dTruth (dC c.d)
  | .ix a i => dTruth (dBin dIx (wE a) (wE i))
  | .sli a lo hi => dTruth (dSlice (wE a) (wO lo) (wO hi))
  | .cb f a es => dTruth (dCall f.rd (dCons (wE a) (wEs es)))
  | .ct f a es => dTruth (dCall f.rd (dCons (wE a) (wEs es)))
  | .tb f l => dTruth (dTmp f.rt (wL l))
  | .tt f l => dTruth (dTmp f.rt (wL l))
  | .cf f a es => dTruth (dFnD (S f) [] (dCons (wE a) (wEs es)))
  | .cf0 f => dTruth (dFnD (S f) [] dNil)
  | .mt m o a es => dTruth (dMt m.ty m.rd (wE o) (dCons (wE a) (wEs es)))
  | .mt0 m o => dTruth (dMt m.ty m.rd (wE o) dNil)
  | _ => fun _ _ _ _ => False
def wL : IE → DTA
  | .lc own g it cs e => dLc (wI it) (wG g) (wC cs) (wE e) (own.map (·.2))
  | .lc2 own vs1 g it cs g1 it1 cs1 e => dLc2 (wI it) (wG g) (wC cs) (wI it1) (wG g1) (wC cs1) (wE e) (own.map (·.2)) vs1
  | _ => fun _ _ _ _ => False
def wEs : IEs → DTA
  | .nil => dNil
  | .cons a r => dCons (wE a) (wEs r)
def wO : IO → DTO
  | .no => dNoPart
  | .yes a => dPart (wE a)
def wC : IO → DTT
  | .no => dYes
  | .yes a => wT a
def wI : II → DTI
  | .any a => diAny (wE a)
  | .rg1 a => diRng1 (dCons (wE a) dNil)
  | .rg2 a b => diRng2 (dCons (wE a) (dCons (wE b) dNil))
  | .en a => diEnum (dCons (wE a) dNil)
end
/-- name, name = a, b: from the right -/
def dPar (i j : Nat) (ta tb : DTE) : DTS := fun D E e M => ta e M (fun x M1 => tb e M1 (fun y M2 => D.nx (setS (setS e i (some x)) j (some y)) M2) E) E
mutual
inductive IS where
  | ex (a : IE)
  | asg (g : IG) (a : IE)
  | sto (o i a : IE)
  | par (i j : Nat) (a b : IE)
  | ret (a : IE)
  | retN
  | iff (c : IE) (a b : ISs)
  | fo (g : IG) (it : II) (b : ISs)
  | wh (c : IE) (b : ISs)
  | pas | brk | cnt
inductive ISs where
  | nil
  | cons (s : IS) (r : ISs)
end
mutual
def wS : IS → DTS
  | .ex a => dDrop (wE S a)
  | .asg g a => dAsg (wE S a) (wG g)
  | .sto o i a => dAsg (wE S a) (dgSub (wE S o) (wE S i))
  | .par i j a b => dPar i j (wE S a) (wE S b)
  | .ret a => dRet (wE S a)
  | .retN => dRetN
  | .iff c a b => dIf (wT S c) (wSs a) (wSs b)
  | .fo g it b => dFor (wI S it) (wG g) (wSs b)
  | .wh c b => dWhile (wT S c) (wSs b)
  | .pas => dNext
  | .brk => fun D _ e M => D.bk e M
  | .cnt => fun D _ e M => D.ct e M
def wSs : ISs → DTS
  | .nil => dNext
  | .cons s r => dSeq (wS s) (wSs r)
end
end
end DL

/-! What the syntax alone says. -/
namespace DL
open PySem PySem.Spec PyProof.Rows L2
def isSlice : Expr → Bool
  | .Slice .. => true
  | _ => false
theorem plainIx_of {b : Expr} (h : isSlice b = false) : PlainIx b := fun o i => by cases b <;> first | rfl | cases h
def plainT : Expr → Bool
  | .UnaryOp .Not _ _ => false
  | .BoolOp .. => false
  | .IfExp .. => false
  | .Compare .. => false
  | _ => true
theorem truth_of {a : Expr} (h : plainT a = true) (env : PySem.Env) (whole : Sem Value) : isTrue a env whole = (do let v ← whole; standAt a.pos; holding [v] (truthy v)) := by
  cases a with
  | UnaryOp op _ _ => cases op <;> first | rfl | cases h
  | BoolOp => cases h
  | IfExp => cases h
  | Compare => cases h
  | _ => rfl
def noSup : Expr → Bool
  | .Call _ [] [] _ => false
  | _ => true
theorem base_of {o : Expr} {n : Str} {env : PySem.Env} {w : Sem Value} (h : noSup o = true) : attributeBase o n env w = w := by
  cases o with
  | Call f xs ks p =>
    cases xs with
    | cons => cases f <;> rfl
    | nil =>
      cases ks with
      | cons => cases f <;> rfl
      | nil => cases h
  | _ => rfl
def notComp : Expr → Bool
  | .ListComp .. => false
  | .SetComp .. => false
  | .DictComp .. => false
  | _ => true
theorem swaps_of {x : Expr} {t : Option Expr} {l : Nat} {env : PySem.Env} (h : notComp x = true) : swapsWith x t l env = pure false := by
  cases x <;> first | rfl | cases h
theorem sole_of {t x : Expr} {l : Nat} {env : PySem.Env} (h : notComp x = true) : swapsWithSole [t] x l env = pure false := swaps_of h
def noPair : Expr → Expr → Bool
  | .Tuple .., .Tuple .. => false
  | .List .., .Tuple .. => false
  | _, _ => true
theorem stores_of {t x : Expr} {env : PySem.Env} (h : noPair t x = true) : swappedStores [t] x env = pure none := by
  cases t <;> first | rfl | (cases x <;> first | rfl | cases h)
def isSetD : Expr → Bool
  | .Set .. => true
  | _ => false
theorem folded_of {x : Expr} (h : isSetD x = false) (env : PySem.Env) (v : Value) : foldedSetIterable x env v = pure v := by
  cases x <;> first | rfl | cases h
theorem behind_of {x : Expr} {op : CmpOp} (h : isSetD x = false) : behindInMarks op x = false := by
  cases x <;> first | rfl | cases h
theorem sub_of {o i : Expr} {pos : Pos} {env : PySem.Env} (h : isSlice i = false) (v : Value) : assign (.Subscript o i pos) env v = (do
      let ov ← holding [v] (eval o env)
      let iv ← holding [v, ov] (eval i env)
      standAt pos
      holding [v, ov, iv] (setItem ov iv v)
      release [v, ov, iv] []) := by
  cases i <;> first | rfl | cases h
/-- [..] on one line, or not -/
theorem sw_false {elt : Expr} {gs : List Comprehension} {scope : Scope} {pos py : Pos} {y : Str} {l : Nat} {env : PySem.Env} (hl : (py.line == pos.line) = false) : swapsWith (.ListComp elt gs scope pos) (some (.Name y py)) l env = pure false := by
  unfold swapsWith
  simp only [Expr.pos, hl, Bool.and_false, Bool.false_and]
theorem kind_of {env : PySem.Env} (h : env.scope.kind = .function) : env.blockKind = .function := by
  unfold Env.blockKind
  rw [h]
  rfl
theorem star_match (a : Expr) : (match a with | .Starred .. => true | _ => false) = isStar a := by cases a <;> rfl
/-- x, y = a, b by plain local names on one line -/
theorem pair_of {x y : Str} {px py pt pt2 : Pos} {kt k2 : Nat} {a b : Expr} {env : PySem.Env} (hk : env.scope.kind = .function) (hx : env.scope.names.lookup x = some .local) (hy : env.scope.names.lookup y = some .local) (hl : (py.line == px.line) = true) (hne : x ≠ y)
    (sa : isStar a = false) (sb : isStar b = false) (hf : (foldedForSure 8 a && foldedForSure 8 b) = false) (hc : (constantsAlone 8 a && constantsAlone 8 b) = false) :
    swappedStores [.Tuple [.Name x px, .Name y py] kt pt] (.Tuple [a, b] k2 pt2) env = pure (some [x, y]) := by
  have h1 : env.kindOf x = some .local := hx
  have h2 : env.kindOf y = some .local := hy
  have hyx : (y == x) = false := by simpa using fun z : y = x => hne z.symm
  have hf' : [a, b].all (foldedForSure 8) = false := by simpa using hf
  have hc' : [a, b].all (constantsAlone 8) = false := by simpa using hc
  have hxy : (x == y) = false := by simpa using hne
  unfold swappedStores
  have hl' : py.line = px.line := by simpa using hl
  have ne2 : y ≠ x := fun z => hne z.symm
  simp [kind_of hk, h1, h2, Expr.pos, hl', List.eraseDups_cons, ne2, hyx, star_match, sa, sb, hf', hc', List.filterMap_cons]
  intro z
  rcases z with z | z
  · cases a <;> first | (exact nomatch (show false = true from z)) | cases sa
  · cases b <;> first | (exact nomatch (show false = true from z)) | cases sb
/-- two names, not both plain locals: no exchange -/
theorem nopair_of {x y : Str} {px py pt : Pos} {kt : Nat} {v : Expr} {env : PySem.Env} (h : (decide (env.kindOf x = some .local) && decide (env.kindOf y = some .local)) = false) : swappedStores [.Tuple [.Name x px, .Name y py] kt pt] v env = pure none := by
  unfold swappedStores
  cases v with
  | Tuple vs k p =>
    show (if _ then _ else _) = _
    split
    · rfl
    · show (if _ then _ else _) = _
      split
      · rfl
      · refine if_pos ?_
        rw [Bool.or_eq_true]
        left
        by_cases hx : env.kindOf x = some .local
        · have h2 : ¬ env.kindOf y = some .local := fun z => by simp [hx, z] at h
          by_cases hl : py.line = px.line <;> simp [List.filterMap_cons, hx, hl, h2, Expr.pos]
        · by_cases hy : env.kindOf y = some .local <;> by_cases hl : py.line = px.line <;> simp [List.filterMap_cons, hx, hl, hy, Expr.pos]
  | _ => rfl
section
variable {g : Gd} {a b : Expr} {ta tb : DTE}
theorem ds_par {i j : Nat} {x y : Str} {px py pt pt2 pos : Pos} {kt k2 : Nat} (hc : g.X.calm = true) (hN : g.X.N.Nodup) (hi : g.X.N[i]? = some x) (hj : g.X.N[j]? = some y) (hij : i ≠ j)
    (hx : g.X.env.scope.names.lookup x = some .local) (hy : g.X.env.scope.names.lookup y = some .local) (ha : DE g a ta) (hb : DE g b tb) (sa : isStar a = false) (sb : isStar b = false)
    (hw : swappedStores [.Tuple [.Name x px, .Name y py] kt pt] (.Tuple [a, b] k2 pt2) g.X.env = pure (some [x, y])) :
    DS g (.Assign [.Tuple [.Name x px, .Name y py] kt pt] (.Tuple [a, b] k2 pt2) pos) (dPar i j ta tb) := by
  obtain ⟨t', pa, ka⟩ := (da_cons ha (da_cons hb da_nil sb) sa).pa
  refine ⟨⟨_, ps_par hc hN hi hj hij hx hy pa hw, fun P hP σ H e M D DV sl mr hp le q => ?_⟩⟩
  refine ka σ H e M (fun ds M2 => match ds with | [d1, d2] => D.nx (setS (setS e i (some d1)) j (some d2)) M2 | _ => False) _ sl mr (hP.base _ _ hp) q fun ds vs M2 H2 l m f q => ?_
  match ds, q with
  | [d1, d2], q =>
    obtain ⟨v1, v2, rfl, i1, i2⟩ := isL_two l
    exact ⟨v1, v2, rfl, le.nx _ _ _ _ (SRel.set i2 j (SRel.set i1 i (sl.ext (f.ext mr)))) m (hP.step _ _ _ _ hp f) q⟩
end
end DL

/-! The look at a def's syntax. -/
namespace DL
open PySem PySem.Spec PyProof.Rows L2
structure Cc where
  sc : Scope
  N : List Str
  fns : List (Str × Nat)
  cs : List (Str × CD)
  blk : Bool
def Cc.into (c : Cc) (scope : Scope) : Cc := { c with sc := relS scope c.sc, blk := true }
def Cc.kd (c : Cc) (n : Str) : Option NameKind := c.sc.names.lookup n
def visB : Option NameKind → Bool
  | some .local => true
  | some .cell => true
  | some .free => true
  | _ => false
def glB : Option NameKind → Bool
  | some .globalImplicit => true
  | _ => false
def slotB (c : Cc) (i : Nat) (n : Str) : Bool := decide (c.N[i]? = some n)
def okName (n : Str) : Bool := !(n == ("__debug__" : Str)) && !(n == ("__classdict__" : Str)) && !(n == ("__name__" : Str))
def litB : CD → Const → Bool
  | .non, .none => true
  | .bl b, .bool b' => b == b'
  | .int i, .int j => decide (i = j)
  | .str s, .str t => decide (s = t)
  | _, _ => false
def isLc : IE → Bool
  | .lc .. => true
  | .lc2 .. => true
  | _ => false
def isAny : II → Bool
  | .any _ => true
  | _ => false
mutual
def chkG : IG → Cc → Expr → Bool
  | .nm i, c, e => match e with
    | .Name n _ => slotB c i n && (match c.kd n with | some .local => true | some .cell => !c.blk | _ => false)
    | _ => false
  | .tp gs, c, e => match e with
    | .Tuple xs _ _ => chkGs gs c xs
    | _ => false
def chkGs : IGs → Cc → List Expr → Bool
  | .nil, _, xs => match xs with | [] => true | _ => false
  | .cons g r, c, xs => match xs with
    | x :: ys => !isStar x && (chkG g c x && chkGs r c ys)
    | _ => false
end
mutual
def chkE : IE → Cc → Bool → Expr → Bool
  | .sl i, c, m, e => match e with
    | .Name n _ => slotB c i n && visB (c.kd n)
    | _ => false
  | .lit d, c, m, e => match e with
    | .Constant k _ _ => litB d k
    | _ => false
  | .gc d, c, m, e => match e with
    | .Name n _ => glB (c.kd n) && decide (c.cs.lookup n = some d)
    | _ => false
  | .gty T, c, m, e => match e with
    | .Name n _ => !m && (glB (c.kd n) && decide (n = (T.nm : Str)))
    | _ => false
  | .tup es, c, m, e => match e with
    | .Tuple xs _ _ => !m && chkEs es c xs
    | _ => false
  | .lst es, c, m, e => match e with
    | .List xs _ => !m && chkEs es c xs
    | _ => false
  | .bin o a b, c, m, e => match e with
    | .BinOp x op y _ => !m && (decide (op = o) && (chkE a c false x && chkE b c false y))
    | _ => false
  | .neg a, c, m, e => match e with
    | .UnaryOp .USub x _ => !m && chkE a c false x
    | _ => false
  | .cmp o a b, c, m, e => match e with
    | .Compare x [op] [y] _ => decide (op = o) && (!isSetD y && (chkE a c false x && chkE b c false y))
    | _ => false
  | .chain o o' a b d, c, m, e => match e with
    | .Compare x [op, op'] [y, z] _ => !m && (decide (op = o) && (decide (op' = o') && (!isSetD z && (chkE a c false x && (chkE b c false y && chkE d c false z)))))
    | _ => false
  | .andE a b, c, m, e => match e with
    | .BoolOp .And (x :: y :: r) p => chkE a c m x && chkE b c m (.BoolOp .And (y :: r) p)
    | _ => false
  | .orE a b, c, m, e => match e with
    | .BoolOp .Or (x :: y :: r) p => chkE a c m x && chkE b c m (.BoolOp .Or (y :: r) p)
    | _ => false
  | .one a, c, m, e => match e with
    | .BoolOp _ [x] _ => chkE a c m x
    | _ => false
  | .nt a, c, m, e => match e with
    | .UnaryOp .Not x _ => chkE a c m x
    | _ => false
  | .ife t a b, c, m, e => match e with
    | .IfExp w x y _ => !m && (chkE t c true w && (chkE a c false x && chkE b c false y))
    | _ => false
  | .ix a i, c, m, e => match e with
    | .Subscript x y _ => !isSlice y && (chkE a c false x && chkE i c false y)
    | _ => false
  | .sli a lo hi, c, m, e => match e with
    | .Subscript x (.Slice l h none _) _ => chkE a c false x && (chkO lo c l && chkO hi c h)
    | _ => false
  | .cb f a es, c, m, e => match e with
    | .Call (.Name n _) (x :: xs) [] _ => glB (c.kd n) && (decide (n = (f.nm : Str)) && (!isStar x && (chkE a c false x && chkEs es c xs)))
    | _ => false
  | .ct f a es, c, m, e => match e with
    | .Call (.Name n _) (x :: xs) [] _ => glB (c.kd n) && (decide (n = (f.nm : Str)) && (!isStar x && (chkE a c false x && chkEs es c xs)))
    | _ => false
  | .tb f l, c, m, e => match e with
    | .Call (.Name n _) [x] [] _ => glB (c.kd n) && (decide (n = (f.nm : Str)) && (!isStar x && (chkE l c false x && isLc l)))
    | _ => false
  | .tt f l, c, m, e => match e with
    | .Call (.Name n _) [x] [] _ => glB (c.kd n) && (decide (n = (f.nm : Str)) && (!isStar x && (chkE l c false x && isLc l)))
    | _ => false
  | .cf f a es, c, m, e => match e with
    | .Call (.Name n _) (x :: xs) [] _ => glB (c.kd n) && (decide (c.fns[f]? = some (n, xs.length + 1)) && (!isStar x && (chkE a c false x && chkEs es c xs)))
    | _ => false
  | .cf0 f, c, m, e => match e with
    | .Call (.Name n _) [] [] _ => glB (c.kd n) && decide (c.fns[f]? = some (n, 0))
    | _ => false
  | .mt k o a es, c, m, e => match e with
    | .Call (.Attribute x n q) (y :: ys) [] p => decide (n = (k.nm : Str)) && (noSup x && ((q.endLine == p.line) && (decide (ys.length < 28) && (!isStar y && (chkE o c false x && (chkE a c false y && chkEs es c ys))))))
    | _ => false
  | .mt0 k o, c, m, e => match e with
    | .Call (.Attribute x n q) [] [] p => decide (n = (k.nm : Str)) && (noSup x && ((q.endLine == p.line) && chkE o c false x))
    | _ => false
  | .lc own g it cs a, c, m, e => match e with
    | .ListComp el [⟨tg, iter, ifs, as⟩] scope _ => !m && (decide (as = 0) && (blkC c.N c.sc scope own && (decide (∀ i ∈ IG.slots g, i ∈ own.map (·.2)) && (!isSetD iter && (chkI it c tg iter && (chkG g (c.into scope) tg && (chkC cs (c.into scope) ifs && chkE a (c.into scope) false el)))))))
    | _ => false
  | .lc2 own vs g it cs g1 it1 cs1 a, c, m, e => match e with
    | .ListComp el [⟨tg, iter, ifs, as⟩, ⟨tg1, iter1, ifs1, as1⟩] scope _ => !m && (decide (as = 0) && (decide (as1 = 0) && (blkC c.N c.sc scope own && (decide (∀ i ∈ IG.slots g, i ∈ own.map (·.2)) && (decide (∀ i ∈ IG.slots g1, i ∈ vs) && (decide (∀ i ∈ vs, i ∈ own.map (·.2)) && (!isSetD iter && (!isSetD iter1 && (isAny it1 && (chkI it c tg iter && (chkG g (c.into scope) tg && (chkC cs (c.into scope) ifs &&
        (chkI it1 (c.into scope) tg1 iter1 && (chkG g1 (c.into scope) tg1 && (chkC cs1 (c.into scope) ifs1 && chkE a (c.into scope) false el)))))))))))))))
    | _ => false
def chkEs : IEs → Cc → List Expr → Bool
  | .nil, _, xs => match xs with | [] => true | _ => false
  | .cons a r, c, xs => match xs with
    | x :: ys => !isStar x && (chkE a c false x && chkEs r c ys)
    | _ => false
def chkO : IO → Cc → Option Expr → Bool
  | .no, _, x => match x with | none => true | _ => false
  | .yes a, c, x => match x with | some y => chkE a c false y | _ => false
def chkC : IO → Cc → List Expr → Bool
  | .no, _, x => match x with | [] => true | _ => false
  | .yes a, c, x => match x with | [y] => chkE a c true y | _ => false
def chkI : II → Cc → Expr → Expr → Bool
  | .any a, c, _, x => chkE a c false x
  | .rg1 a, c, _, x => match x with
    | .Call (.Name n _) [y] [] _ => glB (c.kd n) && (decide (n = ("range" : Str)) && (!isStar y && chkE a c false y))
    | _ => false
  | .rg2 a b, c, _, x => match x with
    | .Call (.Name n _) [y, z] [] _ => glB (c.kd n) && (decide (n = ("range" : Str)) && (!isStar y && (!isStar z && (chkE a c false y && chkE b c false z))))
    | _ => false
  | .en a, c, t, x => match t, x with
    | .Tuple .., .Call (.Name n _) [y] [] _ => glB (c.kd n) && (decide (n = ("enumerate" : Str)) && (!isStar y && chkE a c false y))
    | _, _ => false
end
def locB (k : Option NameKind) : Bool := match k with | some .local => true | _ => false
def noSwap (c : Cc) : Expr → Expr → Bool
  | .Tuple [.Name x _, .Name y _] _ _, v => !(locB (c.kd x) && locB (c.kd y)) || noPair (.Tuple [] 0 ⟨0, 0, 0, 0⟩) v
  | t, v => noPair t v
mutual
def chkS : IS → Cc → Stmt → Bool
  | .ex a, c, s => match s with
    | .Expr x _ => notComp x && chkE a c false x
    | _ => false
  | .asg g a, c, s => match s with
    | .Assign [t] x _ => !isStar t && (noSwap c t x && (chkG g c t && (chkE a c false x && (notComp x || (match t, x with
      | .Name y p, .ListComp _ _ sc q => (!(p.line == q.line)) || ((match c.kd y with | some .local => true | _ => false) && !(sc.names.any fun (n, k) => n == y && (k == .local || k == .cell)))
      | _, _ => false)))))
    | _ => false
  | .sto o i a, c, s => match s with
    | .Assign [.Subscript x y _] z _ => !isSlice y && (notComp z && (chkE o c false x && (chkE i c false y && chkE a c false z)))
    | _ => false
  | .par i j a b, c, s => match s with
    | .Assign [.Tuple [.Name x p, .Name y q] _ _] (.Tuple [u, v] _ _) _ => decide (i ≠ j) && (slotB c i x && (slotB c j y && ((match c.kd x, c.kd y with | some .local, some .local => true | _, _ => false) && ((q.line == p.line) && (decide (x ≠ y) && (!isStar u && (!isStar v && (!(foldedForSure 8 u && foldedForSure 8 v) && (!(constantsAlone 8 u && constantsAlone 8 v) && (chkE a c false u && chkE b c false v))))))))))
    | _ => false
  | .ret a, c, s => match s with
    | .Return (some x) _ => chkE a c false x
    | _ => false
  | .retN, _, s => match s with
    | .Return none _ => true
    | _ => false
  | .iff t a b, c, s => match s with
    | .If w x y _ => chkE t c true w && (chkSs a c x && chkSs b c y)
    | _ => false
  | .fo g it b, c, s => match s with
    | .For tg iter x [] _ => !isSetD iter && (chkI it c tg iter && (chkG g c tg && chkSs b c x))
    | _ => false
  | .wh t b, c, s => match s with
    | .While w x [] _ => chkE t c true w && chkSs b c x
    | _ => false
  | .pas, _, s => match s with | .Pass _ => true | _ => false
  | .brk, _, s => match s with | .Break _ => true | _ => false
  | .cnt, _, s => match s with | .Continue _ => true | _ => false
def chkSs : ISs → Cc → List Stmt → Bool
  | .nil, _, xs => match xs with | [] => true | _ => false
  | .cons a r, c, xs => match xs with
    | x :: ys => chkS a c x && chkSs r c ys
    | _ => false
end
end DL

/-! The ground of a look. -/
namespace DL
open PySem PySem.Spec PyProof.Rows L2
def freeNames : List Str := ["abs", "len", "min", "max", "all", "any", "sum", "sorted", "repr", "isinstance", "int", "tuple", "list", "range", "enumerate", "str", "bool", "dict"]
def CD.v : CD → V
  | .non => .non
  | .bl b => .bl b
  | .int i => .int i
  | .str s => .str s
theorem CD.is (c : CD) (K : PySem.W.Frag) (H : Hp) : Is K H c.d c.v := by
  cases c with
  | non => exact ii_non
  | bl => exact ii_bl
  | int => exact ii_int
  | str => exact ii_str
/-- a def of the table, called with n values -/
def FnF (P : Program) (w : World) (K : PySem.W.Frag) (mg : Str → Option Value) (base : Heap) (k : Nat) (n : Str) (sp : DSp) : Prop :=
  ∃ (f : Addr) (fd : FuncData) (ps : List Str) (dvs : List D) (dus : List Value) (vvs : List V) (sp0 : DSp), FnG P w K mg base k f fd ps sp0 ∧ mg n = some (.ref f) ∧ PySem.W.keepIn K (.ref f) = true ∧ Binds K fd ps dus ∧ Vals vvs dus ∧ (∀ H, IsL K H dvs vvs) ∧
    ∀ ds M Q E, sp ds M Q E → sp0 (ds ++ dvs) M Q E
structure CtxOk (c : Cc) (S : Nat → DSp) (k : Nat) (g : Gd) : Prop where
  sc : g.X.env.scope = c.sc
  N : g.X.N = c.N
  nd : c.N.Nodup
  nn : ∀ n ∈ c.N, okName n = true
  kind : c.sc.kind = .function
  calm : g.X.calm = true
  gok : Gok g k
  fn : c.blk = false → ∀ n, g.X.fn n = true
  free : ∀ n ∈ freeNames, g.X.mg n = none
  cs : ∀ n d, c.cs.lookup n = some d → okName n = true ∧ ∃ u, g.X.mg n = some u ∧ RelV d.v u
  fns : ∀ i n ar, c.fns[i]? = some (n, ar) → okName n = true ∧ FnF g.X.prog g.X.w g.X.K g.X.mg g.X.base k n (S i)
section
variable {c : Cc} {S : Nat → DSp} {k : Nat} {g : Gd}
theorem CtxOk.hu (O : CtxOk c S k g) : g.X.A.units + 70 < cLine := by have := O.gok.room.un; omega
theorem CtxOk.hN (O : CtxOk c S k g) : g.X.N.Nodup := by rw [O.N]; exact O.nd
theorem okName.dbg {n : Str} (h : okName n = true) : (n == ("__debug__" : Str)) = false := by
  unfold okName at h
  simp only [Bool.and_eq_true, Bool.not_eq_true'] at h
  exact h.1.1
theorem okName.cd {n : Str} (h : okName n = true) : (n == ("__classdict__" : Str)) = false := by
  unfold okName at h
  simp only [Bool.and_eq_true, Bool.not_eq_true'] at h
  exact h.1.2
theorem okName.nm {n : Str} (h : okName n = true) : n ≠ "__name__" := by
  unfold okName at h
  simp only [Bool.and_eq_true, Bool.not_eq_true'] at h
  exact fun z => by have := h.2; rw [z] at this; exact nomatch (this.symm.trans (by decide +kernel : (("__name__" : Str) == ("__name__" : Str)) = true))
theorem CtxOk.slot (O : CtxOk c S k g) {i : Nat} {n : Str} (h : slotB c i n = true) : g.X.N[i]? = some n ∧ okName n = true := by
  have := of_decide_eq_true h
  exact ⟨by rw [O.N]; exact this, O.nn n (List.mem_of_getElem? this)⟩
theorem CtxOk.vis (O : CtxOk c S k g) {n : Str} (h : visB (c.kd n) = true) : Vis g.X.env.scope n := by
  rw [O.sc]
  have h' : visB (c.sc.names.lookup n) = true := h
  unfold Vis
  cases e : c.sc.names.lookup n with
  | none => rw [e] at h'; cases h'
  | some q => rw [e] at h'; cases q <;> first | exact .inl rfl | exact .inr (.inl rfl) | exact .inr (.inr rfl) | cases h'
theorem CtxOk.gl (O : CtxOk c S k g) {n : Str} (h : glB (c.kd n) = true) : Gl g.X n := by
  show g.X.env.scope.names.lookup n = _
  rw [O.sc]
  have h' : glB (c.sc.names.lookup n) = true := h
  cases e : c.sc.names.lookup n with
  | none => rw [e] at h'; cases h'
  | some q => rw [e] at h'; cases q <;> first | rfl | cases h'
theorem CtxOk.into (O : CtxOk c S k g) {scope : Scope} (hs : scope.kind = .function) (s : Shared) (H : Hp) (C : Addr) (cl : List (Str × Addr)) (fp : List Addr) (M1 : Mem) (H1 : Hp) : CtxOk (c.into scope) S k (blkG g scope s H C cl fp M1 H1) where
  sc := by
    have : relS scope g.X.env.scope = relS scope c.sc := by rw [O.sc]
    exact this
  N := O.N
  nd := O.nd
  nn := O.nn
  kind := hs
  calm := O.calm
  gok := ⟨O.gok.room, O.gok.gu, fun u s' x => by
    obtain ⟨a, B, sI, pins, σ, H, cls, d, e, I, nb, up, sky, na, os, ag, w⟩ := x
    obtain ⟨_, _, _, _, _, z⟩ := w
    exact z.elim⟩
  fn := fun h => nomatch h
  free := O.free
  cs := O.cs
  fns := O.fns
end
/-! built-ins -/
def BF.id : BF → String := BF.nm
theorem BF.ok (f : BF) : okName (f.nm : Str) = true ∧ (f.nm : Str) ∈ freeNames ∧ bootBuiltins (f.nm : Str) = some (.builtin f.nm) := by
  cases f <;> exact ⟨by decide +kernel, by decide +kernel, by rfl⟩
theorem BT.ok (f : BT) : okName (f.nm : Str) = true ∧ (f.nm : Str) ∈ freeNames ∧ bootBuiltins (f.nm : Str) = some (.type f.nm) := by
  cases f <;> exact ⟨by decide +kernel, by decide +kernel, by rfl⟩
theorem BTy.ok (f : BTy) : okName (f.nm : Str) = true ∧ (f.nm : Str) ∈ freeNames ∧ bootBuiltins (f.nm : Str) = some (.type f.nm) := by
  cases f <;> exact ⟨by decide +kernel, by decide +kernel, by rfl⟩
section
variable {X : Cx}
theorem BF.cd (f : BF) (hc : X.calm = true) (hg : X.A.guards = some []) (hu : X.A.units + 70 < cLine) : CallD X (.builtin f.nm) f.rd := by
  cases f with
  | abs => exact cd_abs
  | len => exact cd_len
  | min => exact cd_min2 hc
  | max => exact cd_max2 hc
  | all => exact cd_all hc
  | any => exact cd_any hc
  | sum => exact cd_sum hc
  | sorted => exact cd_sorted
  | repr => exact cd_repr hg hu
  | isi => exact cd_isi
theorem BF.tmp (f : BF) : TmpOk f.rd f.rt := by
  cases f <;> first | exact ok_tLen | exact ok_tBools | exact ok_tSum | exact fun _ _ _ z => z.elim
theorem BT.cd (f : BT) (hc : X.calm = true) : CallD X (.type f.nm) f.rd := by
  cases f with
  | int => exact cd_int
  | tuple => exact cd_tuple
  | list => exact cd_list hc
theorem BT.tmp (f : BT) : TmpOk f.rd f.rt := by
  cases f <;> first | exact ok_tTuple | exact fun _ _ _ z => z.elim
theorem BM.md (m : BM) : MtD X m.ty m.nm m.id m.rd := by
  cases m with
  | join => exact md_join
  | upper => exact md_upper
  | append => exact md_append
  | extend => exact md_extend
  | pop => exact md_pop
theorem opd_no {f : Value → Value → Sem Value} : OpD X f (fun _ _ _ _ => False) := ⟨fun _ _ _ _ => False, fun _ _ _ _ _ _ _ _ _ _ _ _ z => z.elim, fun _ _ _ _ _ _ _ _ _ _ _ _ _ _ _ z => z.elim⟩
theorem boR_ok (o : Operator) : OpD X (binaryOp o) (boR o) := by
  cases o with
  | Add => exact opd_add
  | Sub => exact opd_sub
  | FloorDiv => exact opd_fdiv
  | Mod => exact opd_mod
  | Pow => exact opd_int op_powG
  | Mult =>
    refine OpD.imp (opd_mulL.or (opd_int op_mulM)) fun x y M Q q => ?_
    cases x with
    | ref => exact .inl q
    | _ => exact .inr q
  | _ => exact opd_no
theorem coR_ok (o : CmpOp) (hu : X.A.units + 70 < cLine) : OpD X (compareOp o) (coR o) := by
  cases o with
  | Eq => exact opd_eq (by omega)
  | NotEq => exact opd_ne (by omega)
  | Lt => exact opd_lt
  | LtE => exact opd_le
  | Gt => exact opd_gt
  | GtE => exact opd_ge
  | Is => exact opd_is
  | IsNot => exact opd_isNot
  | In => exact opd_in hu
  | NotIn => exact opd_notIn hu
end
end DL

/-! What is looked at is so. -/
namespace DL
open PySem PySem.Spec PyProof.Rows L2
def isBoolE : Expr → Bool
  | .BoolOp .. => true
  | _ => false
structure Snd (S : Nat → DSp) (g : Gd) (ir : IE) (m : Bool) (e : Expr) : Prop where
  de : m = false → DE g e (wE S ir)
  dt : m = true → DT g e (wT S ir)
  dw : m = true → isBoolE e = true → DW g e (wT S ir)
  dle : m = false → isLc ir = true → DLE g e (wL S ir)
  slc : m = false → isLc ir = true → ∀ (i : Nat) (y : Str) (py spos : Pos), g.X.N[i]? = some y → g.X.env.scope.names.lookup y = some .local → swapsWith e (some (.Name y py)) spos.line g.X.env = pure true → DS g (.Assign [.Name y py] e spos) (dAsg (wE S ir) (dgName i))
section
variable {S : Nat → DSp} {k : Nat} {c : Cc} {g : Gd} {ir : IE} {m : Bool} {e : Expr}
theorem Snd.leaf (h : DE g e (wE S ir)) (ht : wT S ir = dTruth (wE S ir)) (hp : plainT e = true) (hl : isLc ir = false) : Snd S g ir m e where
  de := fun _ => h
  dt := fun _ => by rw [ht]; exact dt_truth h fun w => truth_of hp g.X.env w
  dw := fun _ hb => by
    exfalso
    cases e <;> first | (cases hb; done) | (cases hp; done)
  dle := fun _ z => by rw [hl] at z; cases z
  slc := fun _ z => by rw [hl] at z; cases z
theorem Snd.val (hm : (!m) = true) (h : DE g e (wE S ir)) (hl : isLc ir = false) : Snd S g ir m e where
  de := fun _ => h
  dt := fun z => by subst z; cases hm
  dw := fun z => by subst z; cases hm
  dle := fun _ z => by rw [hl] at z; cases z
  slc := fun _ z => by rw [hl] at z; cases z
theorem Snd.both (h : m = false → DE g e (wE S ir)) (ht : m = true → DT g e (wT S ir)) (hb : isBoolE e = false) (hl : isLc ir = false) : Snd S g ir m e where
  de := h
  dt := ht
  dw := fun _ z => by rw [hb] at z; cases z
  dle := fun _ z => by rw [hl] at z; cases z
  slc := fun _ z => by rw [hl] at z; cases z
theorem Snd.bool (h : m = false → DE g e (wE S ir)) (ht : m = true → DW g e (wT S ir)) (hl : isLc ir = false) : Snd S g ir m e where
  de := h
  dt := fun z => (ht z).dt
  dw := fun z _ => ht z
  dle := fun _ z => by rw [hl] at z; cases z
  slc := fun _ z => by rw [hl] at z; cases z
theorem Snd.comp (hm : (!m) = true) (h : DLE g e (wL S ir)) (hw : wE S ir = dNew (wL S ir)) (hs : ∀ (i : Nat) (y : Str) (py spos : Pos), g.X.N[i]? = some y → g.X.env.scope.names.lookup y = some .local → swapsWith e (some (.Name y py)) spos.line g.X.env = pure true → DS g (.Assign [.Name y py] e spos) (dAsg (dNew (wL S ir)) (dgName i))) : Snd S g ir m e where
  de := fun _ => by rw [hw]; exact h.de
  dt := fun z => by subst z; cases hm
  dw := fun z => by subst z; cases hm
  dle := fun _ _ => h
  slc := fun _ _ => by rw [hw]; exact hs
/-! targets -/
mutual
theorem hitG : ∀ (t : IG) (d : D) (e : Sl) (M : Mem) (Q : Sl → Mem → Prop) (E : EX), wG t d e M Q E → ∃ e' M', Q e' M'
  | .nm i, d, e, M, Q, E, h => ⟨_, _, h⟩
  | .tp gs, d, e, M, Q, E, h => by
    cases d with
    | tup ds => exact hitGs gs ds e M Q E h
    | _ => exact False.elim h
theorem hitGs : ∀ (t : IGs) (ds : List D) (e : Sl) (M : Mem) (Q : Sl → Mem → Prop) (E : EX), wGs t ds e M Q E → ∃ e' M', Q e' M'
  | .nil, ds, e, M, Q, E, h => ⟨_, _, h.2⟩
  | .cons t r, ds, e, M, Q, E, h => by
    cases ds with
    | nil => exact False.elim h
    | cons d ds =>
      obtain ⟨e1, M1, h1⟩ := hitG t d e M _ E h
      exact hitGs r ds e1 M1 Q E h1
end
mutual
theorem sndG : ∀ (t : IG) (c : Cc) (e : Expr), chkG t c e = true → ∀ g, CtxOk c S k g → DG g e (wG t) (IG.slots t)
  | .nm i, c, e, h, g, O => by
    unfold chkG at h
    split at h
    · simp only [Bool.and_eq_true] at h
      obtain ⟨h1, h2⟩ := h
      obtain ⟨hN, ok⟩ := O.slot h1
      split at h2
      · rename_i e1
        have e1' := (congrArg (fun z : Scope => z.names.lookup _) O.sc).trans e1
        exact dg_name O.hN hN (.inl e1') (.inr e1')
      · rename_i e1
        have e1' := (congrArg (fun z : Scope => z.names.lookup _) O.sc).trans e1
        exact dg_name O.hN hN (.inr e1') (.inl (O.fn (by simpa using h2) _))
      · cases h2
    · cases h
  | .tp gs, c, e, h, g, O => by
    unfold chkG at h
    split at h
    · obtain ⟨h1, h2, h3⟩ := sndGs gs c _ h g O
      exact dg_tup O.calm h1 h2 h3
    · cases h
theorem sndGs : ∀ (t : IGs) (c : Cc) (xs : List Expr), chkGs t c xs = true → ∀ g, CtxOk c S k g → DGs g xs (wGs t) (IGs.slots t) ∧ (∀ ds e M Q E, wGs t ds e M Q E → ds.length = xs.length) ∧ xs.all (fun x => !isStar x) = true
  | .nil, c, xs, h, g, O => by
    unfold chkGs at h
    split at h
    · exact ⟨dgs_nil, fun ds e M Q E q => by have q : ds = [] ∧ Q e M := q; rw [q.1]; rfl, rfl⟩
    · cases h
  | .cons t r, c, xs, h, g, O => by
    unfold chkGs at h
    split at h
    · simp only [Bool.and_eq_true, Bool.not_eq_true'] at h
      obtain ⟨h0, h1, h2⟩ := h
      obtain ⟨h3, h4, h5⟩ := sndGs r c _ h2 g O
      refine ⟨dgs_cons (sndG t c _ h1 g O) h3 h0, fun ds e M Q E q => ?_, by rw [List.all_cons, h0, h5]; rfl⟩
      cases ds with
      | nil => exact q.elim
      | cons d ds =>
        have q : wG t d e M (fun e' M' => wGs r ds e' M' Q E) E := q
        obtain ⟨e1, M1, q1⟩ := hitG t d e M _ E q
        rw [List.length_cons, List.length_cons, h4 _ _ _ _ _ q1]
    · cases h
end
def BlkGs (g : Gd) (scope : Scope) (xs : List Expr) (t : DTGs) (ns : List Nat) : Prop := ∃ t' : TGs, (∀ s H C cl fp, PGs (g.X.blk s H scope (compEnvC scope cl C g.X.env) fp) xs t') ∧
  ∀ σ H e M vs ds Q (QV : L2.St → Hp → Prop), SRel g.X.K H e σ → MRel g.X.K M H → IsL g.X.K H ds vs → t ds e M Q EF →
    (∀ σ' H' e' M', SRel g.X.K H' e' σ' → MRel g.X.K M' H' → Fr M H M' H' → (∀ vs, (∀ i ∈ ns, i ∈ vs) → L2.wipe σ' vs = L2.wipe σ vs) → Q e' M' → QV σ' H') → t' vs σ H QV
mutual
theorem sndGB : ∀ (t : IG) (c : Cc) (scope : Scope) (e : Expr), scope.kind = .function → chkG t (c.into scope) e = true → ∀ g, CtxOk c S k g → BlkG g scope e (wG t) (IG.slots t)
  | .nm i, c, scope, e, hk, h, g, O => by
    unfold chkG at h
    split at h
    · simp only [Bool.and_eq_true] at h
      obtain ⟨h1, h2⟩ := h
      refine ⟨gName i, fun s H C cl fp => ?_, fun σ H e M v d Q QV sl mr id q k => k _ H _ M (SRel.set id i sl) mr Fr.refl (fun vs hv => set_wipe σ i _ vs (hv i (List.mem_cons_self))) q⟩
      have O2 := O.into hk s H C cl fp (fun _ => none) H
      obtain ⟨hN, ok⟩ := O2.slot h1
      split at h2
      · rename_i e1
        have e1' := (congrArg (fun z : Scope => z.names.lookup _) O2.sc).trans e1
        exact pg_name O2.hN hN (.inl e1') (.inr e1')
      · cases h2
      · cases h2
    · cases h
  | .tp gs, c, scope, e, hk, h, g, O => by
    unfold chkG at h
    split at h
    · rename_i xs kk pos
      obtain ⟨⟨t', h1, k2⟩, h2, h3⟩ := sndGsB gs c scope xs hk h g O
      refine ⟨gTup g.X.K xs.length t', fun s H C cl fp => pg_tup (X := g.X.blk s H scope (compEnvC scope cl C g.X.env) fp) (n := xs.length) O.calm (h1 s H C cl fp) dgs_len (dgs_nostar h3), fun σ H e M v d Q QV sl mr i q kk => ?_⟩
      cases d with
      | tup ds =>
        rw [is_tup] at i
        obtain ⟨a, vs, rfl, h1, l⟩ := i
        exact ⟨a, vs, rfl, SqT.of h1, by rw [l.length]; exact h2 _ _ _ _ _ q, k2 σ H e M vs ds Q QV sl mr l q kk⟩
      | _ => exact False.elim q
    · cases h
theorem sndGsB : ∀ (t : IGs) (c : Cc) (scope : Scope) (xs : List Expr), scope.kind = .function → chkGs t (c.into scope) xs = true → ∀ g, CtxOk c S k g → BlkGs g scope xs (wGs t) (IGs.slots t) ∧ (∀ ds e M Q E, wGs t ds e M Q E → ds.length = xs.length) ∧ xs.all (fun x => !isStar x) = true
  | .nil, c, scope, xs, hk, h, g, O => by
    unfold chkGs at h
    split at h
    · refine ⟨⟨_, fun s H C cl fp => pgs_nil, fun σ H e M vs ds Q QV sl mr il q k => ?_⟩, fun ds e M Q E q => by have q : ds = [] ∧ Q e M := q; rw [q.1]; rfl, rfl⟩
      obtain ⟨h, q⟩ := q
      subst h
      rw [isL_nil] at il
      exact ⟨il, k σ H e M sl mr Fr.refl (fun _ _ => rfl) q⟩
    · cases h
  | .cons t r, c, scope, xs, hk, h, g, O => by
    unfold chkGs at h
    split at h
    · simp only [Bool.and_eq_true, Bool.not_eq_true'] at h
      obtain ⟨h0, h1, h2⟩ := h
      obtain ⟨⟨u', h3, k3⟩, h4, h5⟩ := sndGsB r c scope _ hk h2 g O
      obtain ⟨t', ht, kt⟩ := sndGB t c scope _ hk h1 g O
      refine ⟨⟨_, fun s H C cl fp => pgs_cons (ht s H C cl fp) (h3 s H C cl fp) (assign_cons h0), fun σ H e M vs ds Q QV sl mr il q kk => ?_⟩, fun ds e M Q E q => ?_, by rw [List.all_cons, h0, h5]; rfl⟩
      · cases ds with
        | nil => exact False.elim q
        | cons d r =>
          rw [isL_cons] at il
          obtain ⟨v, rv, rfl, i, l⟩ := il
          refine ⟨v, rv, rfl, kt σ H e M v d _ _ sl mr i q fun σ1 H1 e1 M1 sl1 m1 f1 w1 q => ?_⟩
          refine k3 σ1 H1 e1 M1 rv r _ _ sl1 m1 (IsL.ext (f1.ext mr) _ _ l) q fun σ2 H2 e2 M2 sl2 m2 f2 w2 q => ?_
          exact kk σ2 H2 e2 M2 sl2 m2 (f1.trans f2) (fun vs hv => (w2 vs fun i hi => hv i (List.mem_append_right _ hi)).trans (w1 vs fun i hi => hv i (List.mem_append_left _ hi))) q
      · cases ds with
        | nil => exact False.elim q
        | cons d ds =>
          have q : wG t d e M (fun e' M' => wGs r ds e' M' Q E) E := q
          obtain ⟨e1, M1, q1⟩ := hitG t d e M _ E q
          rw [List.length_cons, List.length_cons, h4 _ _ _ _ _ q1]
    · cases h
end
theorem blkI_any {scope : Scope} {tg x : Expr} {t : DTE} (h : BlkE g scope x t) : BlkI g scope tg x (diAny t) := by
  refine ⟨wAny g.X.K (lowAny g.X.K t), fun s H C cl fp => pi_any (h.pe s H C cl fp), fun σ H e M R RV sl mr q k => ?_⟩
  refine lowAny_start sl mr q fun v d M1 H1 i m f q => ?_
  cases d with
  | str z => rw [is_str] at i; exact .inl ⟨z, i, k _ _ M1 H1 jrel_str m f q⟩
  | tup ds =>
    rw [is_tup] at i
    obtain ⟨a, vs, rfl, h1, l⟩ := i
    refine .inr (.inl ⟨a, vs, rfl, SqT.of h1, k _ _ M1 H1 (jrel_tup fun M' H' m' f' => ⟨vs, ?_, IsL.ext f' _ _ l⟩) m f q⟩)
    exact SqT.of (f'.1 _ _ h1)
  | rl ds =>
    rw [is_rl] at i
    obtain ⟨a, vs, rfl, h1, l⟩ := i
    refine .inr (.inr ⟨a, vs, rfl, h1.sq, k _ _ M1 H1 (jrel_list fun M' H' m' f' _ => ⟨vs, ?_, IsL.ext f' _ _ l⟩) m f q⟩)
    exact (f'.2 _ _ h1).sq
  | ref a =>
    rw [is_ref] at i
    subst i
    obtain ⟨ds, h1, q⟩ := q
    obtain ⟨ws, e1, l1⟩ := m a _ h1
    refine .inr (.inr ⟨a, ws, rfl, SqL.of e1, k _ _ M1 H1 (jrel_list fun M' H' m' f' p => ?_) m f q⟩)
    obtain ⟨ws', e2, l2⟩ := m' a _ p
    exact ⟨ws', SqL.of e2, l2⟩
  | _ => exact False.elim q
end
end DL

/-! Expressions that are looked at. -/
namespace DL
open PySem PySem.Spec PyProof.Rows L2
section
variable {S : Nat → DSp} {k : Nat} {c : Cc} {g : Gd}
theorem blk_kind {N : List Str} {sc scope : Scope} {own : List (Str × Nat)} (h : blkC N sc scope own = true) : scope.kind = .function := (blkOk_by h).kind
theorem de_imp {x : Expr} {t t' : DTE} (h : DE g x t) (q : ∀ e M Q, t' e M Q g.E → t e M Q g.E) : DE g x t' := ⟨fun pins s σ H e M Q I z => h.run pins s σ H e M Q I (q e M Q z)⟩
/-- a test clause, in any block -/
def CsOk (S : Nat → DSp) (k : Nat) (cs : IO) (c : Cc) (xs : List Expr) : Prop := (cs = .no ∧ xs = []) ∨ ∃ a x, cs = .yes a ∧ xs = [x] ∧ ∀ g, CtxOk c S k g → DT g x (wT S a)
theorem CsOk.blk {cs : IO} {scope : Scope} {xs : List Expr} (h : CsOk S k cs (c.into scope) xs) (hk : scope.kind = .function) (O : CtxOk c S k g) : BlkT g scope xs (wC S cs) := by
  rcases h with ⟨rfl, rfl⟩ | ⟨a, x, rfl, rfl, h⟩
  · exact blkT_nil
  · exact blkT_one fun s H C cl fp M1 H1 => h _ (O.into hk s H C cl fp M1 H1)
theorem fn_call {f ar : Nat} {n : Str} {x : Expr} {xs : List Expr} {t : DTE} {r : DTA} {p pos : Pos} (O : CtxOk c S k g) (hg : Gl g.X n) (hf : c.fns[f]? = some (n, ar)) (hx : DE g x t) (ha : DA g xs r) (ns : isStar x = false) :
    DE g (.Call (.Name n p) (x :: xs) [] pos) (dFnD (S f) [] (dCons t r)) := by
  obtain ⟨ok, F0, fd, ps, dvs, dus, vvs, sp0, F, hm, hk, hb, hd, hi, imp⟩ := O.fns f n ar hf
  refine ⟨fun pins s σ H e M Q I q => wpAny_Call_Name_kw (ld_glob I.inv hg hm ?_ (okName.dbg ok))⟩
  refine PySem.W.callWith_K (h₀ := g.X.base) I.inv.ok.mod.kin hk (thn ((da_cons hx ha ns).run pos I q) fun us s1 z => ?_) (star_cons ns) (bt_any ha)
  obtain ⟨vs, ds, H1, M1, rv, l, J, f, q⟩ := z
  refine ⟨J.inv.kIn, ?_⟩
  have q := imp _ _ _ _ q
  rw [List.append_nil] at q
  have r2 : Vals (vs ++ vvs) (us ++ dus) := rv.append hd
  have l2 : IsL g.X.K H1 (ds ++ dvs) (vs ++ vvs) := l.append (hi H1)
  have hl : (us ++ dus).length = ps.length := by rw [← r2.length, l2.length]; exact F.len _ _ _ _ q
  refine thn (fnG_run F O.gok J (hb s1 us J.inv.kIn hl) r2 l2 q) fun u s2 z => ?_
  obtain ⟨v, d, H', M', rv', i, J', f', q⟩ := z
  exact ⟨v, d, H', M', rv', i, J', f.trans f', q⟩
theorem fn_call0 {f ar : Nat} {n : Str} {p pos : Pos} (O : CtxOk c S k g) (hg : Gl g.X n) (hf : c.fns[f]? = some (n, ar)) : DE g (.Call (.Name n p) [] [] pos) (dFnD (S f) [] dNil) := by
  obtain ⟨ok, F0, fd, ps, dvs, dus, vvs, sp0, F, hm, hk, hb, hd, hi, imp⟩ := O.fns f n ar hf
  refine ⟨fun pins s σ H e M Q I q => wpAny_Call_Name_kw (ld_glob I.inv hg hm (PySem.W.callWith_K0 I.inv.kIn hk ?_) (okName.dbg ok))⟩
  have q' : sp0 ([] ++ dvs) M Q g.E := imp [] _ _ _ q
  have hl : ([] ++ dus).length = ps.length := by rw [List.nil_append, ← hd.length, (hi H).length]; exact F.len _ _ _ _ q'
  exact fnG_run F O.gok I (hb s [] I.inv.kIn hl) hd (hi H) q'
end
section
variable {S : Nat → DSp} {k : Nat}
theorem few_of {g : Gd} {x : Expr} {xs : List Expr} {t : DTE} {r : DTA} {pos : Pos} (hx : DE g x t) (ha : DA g xs r) (ns : isStar x = false) (hn : xs.length < 28) :
    ((backTo pos (starEach (x :: xs) g.X.env)).all (fun z => !z.1) && (backToKw pos (keywordEach [] g.X.env)).all (fun z => z.1.isSome)
      && decide ((x :: xs).length + ([] : List Keyword).length + (if ([] : List Keyword).isEmpty then 0 else 1) < 30)) = true := by
  have h := bt_any (pos := pos) (da_cons hx ha ns)
  have h1 : (backTo pos (starEach (x :: xs) g.X.env)).all (fun z => !z.1) = true := by
    rw [List.all_eq_true]
    intro z hz
    rw [List.any_eq_false] at h
    simpa using h z hz
  rw [h1]
  have h2 : (x :: xs).length + ([] : List Keyword).length + (if ([] : List Keyword).isEmpty then 0 else 1) < 30 := by
    show xs.length + 1 + 0 + 0 < 30
    omega
  rw [decide_eq_true h2]
  rfl
mutual
theorem sndE : ∀ (ir : IE) (c : Cc) (m : Bool) (e : Expr), chkE ir c m e = true → ∀ g, CtxOk c S k g → Snd S g ir m e
  | .sl i, c, m, e, h, g, O => by
    unfold chkE at h
    split at h
    · simp only [Bool.and_eq_true] at h
      obtain ⟨h1, h2⟩ := O.slot h.1
      exact Snd.leaf (de_slot h1 (O.vis h.2) (okName.dbg h2) (okName.cd h2)) rfl rfl rfl
    · cases h
  | .lit d, c, m, e, h, g, O => by
    unfold chkE at h
    split at h
    · rename_i kk j pos
      have : DE g (.Constant kk j pos) (dC d.d) := by
        cases d <;> cases kk <;> first | (cases h; done) | skip
        · exact de_non
        · cases eq_of_beq h; exact de_bl
        · cases of_decide_eq_true h; exact de_int
        · cases of_decide_eq_true h; exact de_str
      exact Snd.leaf this rfl rfl rfl
    · cases h
  | .gc d, c, m, e, h, g, O => by
    unfold chkE at h
    split at h
    · simp only [Bool.and_eq_true, decide_eq_true_eq] at h
      obtain ⟨ok, u, hm, r⟩ := O.cs _ _ h.2
      exact Snd.leaf (de_glob (O.gl h.1) hm r (fun H => d.is _ H) (okName.dbg ok)) rfl rfl rfl
    · cases h
  | .gty T, c, m, e, h, g, O => by
    unfold chkE at h
    split at h
    · simp only [Bool.and_eq_true, decide_eq_true_eq] at h
      obtain ⟨h1, h2, rfl⟩ := h
      obtain ⟨ok, fr, bb⟩ := T.ok
      exact Snd.val h1 (de_bltn (O.gl h2) (O.free _ fr) bb (v := .ty T.nm) rfl (fun H => ii_ty) (okName.nm ok) (okName.dbg ok)) rfl
    · cases h
  | .tup es, c, m, e, h, g, O => by
    unfold chkE at h
    split at h
    · simp only [Bool.and_eq_true] at h
      exact Snd.val h.1 (de_tup (sndEs es c _ h.2 g O)) rfl
    · cases h
  | .lst es, c, m, e, h, g, O => by
    unfold chkE at h
    split at h
    · simp only [Bool.and_eq_true] at h
      exact Snd.val h.1 (de_lst (sndEs es c _ h.2 g O)) rfl
    · cases h
  | .bin o a b, c, m, e, h, g, O => by
    unfold chkE at h
    split at h
    · simp only [Bool.and_eq_true, decide_eq_true_eq] at h
      obtain ⟨h0, rfl, h1, h2⟩ := h
      exact Snd.val h0 (de_bin (boR_ok _) ((sndE a c _ _ h1 g O).de rfl) ((sndE b c _ _ h2 g O).de rfl)) rfl
    · cases h
  | .neg a, c, m, e, h, g, O => by
    unfold chkE at h
    split at h
    · simp only [Bool.and_eq_true] at h
      exact Snd.val h.1 (de_neg ((sndE a c _ _ h.2 g O).de rfl)) rfl
    · cases h
  | .cmp o a b, c, m, e, h, g, O => by
    unfold chkE at h
    split at h
    · simp only [Bool.and_eq_true, decide_eq_true_eq, Bool.not_eq_true'] at h
      obtain ⟨rfl, h0, h1, h2⟩ := h
      have ha := (sndE a c _ _ h1 g O).de rfl
      have hb := (sndE b c _ _ h2 g O).de rfl
      exact Snd.both (fun _ => de_cmp (coR_ok _ O.hu) ha hb (behind_of h0)) (fun _ => dt_cmp (coR_ok _ O.hu) ha hb (behind_of h0)) rfl rfl
    · cases h
  | .chain o o' a b d, c, m, e, h, g, O => by
    unfold chkE at h
    split at h
    · simp only [Bool.and_eq_true, decide_eq_true_eq, Bool.not_eq_true'] at h
      obtain ⟨h5, rfl, rfl, h0, h1, h2, h3⟩ := h
      exact Snd.val (by rw [h5]; rfl) (de_chain (coR_ok _ O.hu) (coR_ok _ O.hu) ((sndE a c _ _ h1 g O).de rfl) ((sndE b c _ _ h2 g O).de rfl) ((sndE d c _ _ h3 g O).de rfl) (behind_of h0)) rfl
    · cases h
  | .andE a b, c, m, e, h, g, O => by
    unfold chkE at h
    split at h
    · simp only [Bool.and_eq_true] at h
      have ha := sndE a c _ _ h.1 g O
      have hb := sndE b c _ _ h.2 g O
      exact Snd.bool (fun z => de_and (ha.de z) (hb.de z)) (fun z => dw_and (ha.dt z) (hb.dw z rfl)) rfl
    · cases h
  | .orE a b, c, m, e, h, g, O => by
    unfold chkE at h
    split at h
    · simp only [Bool.and_eq_true] at h
      have ha := sndE a c _ _ h.1 g O
      have hb := sndE b c _ _ h.2 g O
      exact Snd.bool (fun z => de_or (ha.de z) (hb.de z)) (fun z => dw_or (ha.dt z) (hb.dw z rfl)) rfl
    · cases h
  | .one a, c, m, e, h, g, O => by
    unfold chkE at h
    split at h
    · rename_i op x pos
      have ha := sndE a c _ _ h g O
      exact Snd.bool (fun z => de_one (ha.de z)) (fun z => by cases op with
        | And => exact dw_and1 (ha.dt z)
        | Or => exact dw_or1 (ha.dt z)) rfl
    · cases h
  | .nt a, c, m, e, h, g, O => by
    unfold chkE at h
    split at h
    · have ha := sndE a c _ _ h g O
      exact Snd.both (fun z => de_not (ha.de z)) (fun z => dt_not (ha.dt z)) rfl rfl
    · cases h
  | .ife t a b, c, m, e, h, g, O => by
    unfold chkE at h
    split at h
    · simp only [Bool.and_eq_true] at h
      obtain ⟨h0, h1, h2, h3⟩ := h
      exact Snd.val h0 (de_if ((sndE t c _ _ h1 g O).dt rfl) ((sndE a c _ _ h2 g O).de rfl) ((sndE b c _ _ h3 g O).de rfl)) rfl
    · cases h
  | .ix a i, c, m, e, h, g, O => by
    unfold chkE at h
    split at h
    · simp only [Bool.and_eq_true, Bool.not_eq_true'] at h
      obtain ⟨h0, h1, h2⟩ := h
      exact Snd.leaf (de_ix (ixd (by have := O.hu; omega)) ((sndE a c _ _ h1 g O).de rfl) ((sndE i c _ _ h2 g O).de rfl) (plainIx_of h0)) rfl rfl rfl
    · cases h
  | .sli a lo hi, c, m, e, h, g, O => by
    unfold chkE at h
    split at h
    · simp only [Bool.and_eq_true] at h
      obtain ⟨h0, h1, h2⟩ := h
      exact Snd.leaf (de_slice ((sndE a c _ _ h0 g O).de rfl) (sndO lo c _ h1 g O) (sndO hi c _ h2 g O)) rfl rfl rfl
    · cases h
  | .cb f a es, c, m, e, h, g, O => by
    unfold chkE at h
    split at h
    · simp only [Bool.and_eq_true, decide_eq_true_eq, Bool.not_eq_true'] at h
      obtain ⟨h0, rfl, h1, h2, h3⟩ := h
      obtain ⟨ok, fr, bb⟩ := f.ok
      exact Snd.leaf (de_callB (f.cd O.calm O.gok.gu O.hu) (O.gl h0) (O.free _ fr) bb ((sndE a c _ _ h2 g O).de rfl) (sndEs es c _ h3 g O) h1 (okName.nm ok) (okName.dbg ok)) rfl rfl rfl
    · cases h
  | .ct f a es, c, m, e, h, g, O => by
    unfold chkE at h
    split at h
    · simp only [Bool.and_eq_true, decide_eq_true_eq, Bool.not_eq_true'] at h
      obtain ⟨h0, rfl, h1, h2, h3⟩ := h
      obtain ⟨ok, fr, bb⟩ := f.ok
      exact Snd.leaf (de_callT (f.cd O.calm) (O.gl h0) (O.free _ fr) bb ((sndE a c _ _ h2 g O).de rfl) (sndEs es c _ h3 g O) h1 (okName.nm ok) (okName.dbg ok)) rfl rfl rfl
    · cases h
  | .tb f l, c, m, e, h, g, O => by
    unfold chkE at h
    split at h
    · simp only [Bool.and_eq_true, decide_eq_true_eq, Bool.not_eq_true'] at h
      obtain ⟨h0, rfl, h1, h2, h3⟩ := h
      obtain ⟨ok, fr, bb⟩ := f.ok
      exact Snd.leaf (de_tmpB (f.cd O.calm O.gok.gu O.hu) f.tmp (O.gl h0) (O.free _ fr) bb ((sndE l c _ _ h2 g O).dle rfl h3) h1 (okName.nm ok) (okName.dbg ok)) rfl rfl rfl
    · cases h
  | .tt f l, c, m, e, h, g, O => by
    unfold chkE at h
    split at h
    · simp only [Bool.and_eq_true, decide_eq_true_eq, Bool.not_eq_true'] at h
      obtain ⟨h0, rfl, h1, h2, h3⟩ := h
      obtain ⟨ok, fr, bb⟩ := f.ok
      exact Snd.leaf (de_tmpT (f.cd O.calm) f.tmp (O.gl h0) (O.free _ fr) bb ((sndE l c _ _ h2 g O).dle rfl h3) h1 (okName.nm ok) (okName.dbg ok)) rfl rfl rfl
    · cases h
  | .cf f a es, c, m, e, h, g, O => by
    unfold chkE at h
    split at h
    · simp only [Bool.and_eq_true, decide_eq_true_eq, Bool.not_eq_true'] at h
      obtain ⟨h0, h1, h2, h3, h4⟩ := h
      exact Snd.leaf (fn_call O (O.gl h0) h1 ((sndE a c _ _ h3 g O).de rfl) (sndEs es c _ h4 g O) h2) rfl rfl rfl
    · cases h
  | .cf0 f, c, m, e, h, g, O => by
    unfold chkE at h
    split at h
    · simp only [Bool.and_eq_true, decide_eq_true_eq, Bool.not_eq_true'] at h
      exact Snd.leaf (fn_call0 O (O.gl h.1) h.2) rfl rfl rfl
    · cases h
  | .mt t o a es, c, m, e, h, g, O => by
    unfold chkE at h
    split at h
    · simp only [Bool.and_eq_true, decide_eq_true_eq, Bool.not_eq_true'] at h
      obtain ⟨rfl, h0, h1, h2, h3, h4, h5, h6⟩ := h
      have hx := (sndE a c _ _ h5 g O).de rfl
      have ha := sndEs es c _ h6 g O
      exact Snd.leaf (de_mt t.md ((sndE o c _ _ h4 g O).de rfl) hx ha h3 (base_of h0) (few_of hx ha h3 h2) h1) rfl rfl rfl
    · cases h
  | .mt0 t o, c, m, e, h, g, O => by
    unfold chkE at h
    split at h
    · simp only [Bool.and_eq_true, decide_eq_true_eq] at h
      obtain ⟨rfl, h0, h1, h2⟩ := h
      exact Snd.leaf (de_mt0 t.md ((sndE o c _ _ h2 g O).de rfl) (base_of h0) h1) rfl rfl rfl
    · cases h
  | .lc own t it cs a, c, m, e, h, g, O => by
    unfold chkE at h
    split at h
    · simp only [Bool.and_eq_true, decide_eq_true_eq, Bool.not_eq_true'] at h
      rename_i el tg iter ifs as scope pos
      obtain ⟨h0, rfl, hb, hs, hf, hi, hg, hc, he⟩ := h
      have hk := blk_kind hb
      have ok := blkOk_by hb
      rw [← O.N, ← O.sc] at ok
      have HI := sndI it c _ _ hi g O
      have HG := sndGB t c _ _ hk hg g O
      have HC := (sndC cs _ _ hc).blk hk O
      have HE : BlkE g scope el (wE S a) := fun s H C cl fp M1 H1 => (sndE a _ _ _ he _ (O.into hk s H C cl fp M1 H1)).de rfl
      exact Snd.comp (by rw [h0]; rfl) (dle_lc O.calm O.hN HI ok HG HC HE hs fun x => folded_of hf _ x) rfl fun i y py spos hy hyl hsw => ds_lc O.calm O.hN hy hyl hsw HI ok HG HC HE hs fun x => folded_of hf _ x
    · cases h
  | .lc2 own vs t it cs t1 it1 cs1 a, c, m, e, h, g, O => by
    unfold chkE at h
    split at h
    · simp only [Bool.and_eq_true, decide_eq_true_eq, Bool.not_eq_true'] at h
      rename_i el tg iter ifs as tg1 iter1 ifs1 as1 scope pos
      obtain ⟨h0, rfl, rfl, hb, hs, hs1, hv, hf, hf1, hany, hi, hg, hc, hi1, hg1, hc1, he⟩ := h
      have hk := blk_kind hb
      have ok := blkOk_by hb
      rw [← O.N, ← O.sc] at ok
      have HI := sndI it c _ _ hi g O
      have HG := sndGB t c _ _ hk hg g O
      have HC := (sndC cs _ _ hc).blk hk O
      have HI1 : BlkI g scope tg1 iter1 (wI S it1) := by
        cases it1 with
        | any b => exact blkI_any fun s H C cl fp M1 H1 => (sndE b _ _ _ hi1 _ (O.into hk s H C cl fp M1 H1)).de rfl
        | _ => cases hany
      have HG1 := sndGB t1 c _ _ hk hg1 g O
      have HC1 := (sndC cs1 _ _ hc1).blk hk O
      have HE : BlkE g scope el (wE S a) := fun s H C cl fp M1 H1 => (sndE a _ _ _ he _ (O.into hk s H C cl fp M1 H1)).de rfl
      exact Snd.comp (by rw [h0]; rfl) (dle_lc2 O.calm O.hN HI ok hv HG HC HI1 HG1 HC1 HE hs hs1 (fun x => folded_of hf _ x) fun env x => folded_of hf1 env x) rfl fun i y py spos hy hyl hsw => ds_lc2 O.calm O.hN hy hyl hsw HI ok hv HG HC HI1 HG1 HC1 HE hs hs1 (fun x => folded_of hf _ x) fun env x => folded_of hf1 env x
    · cases h
theorem sndEs : ∀ (es : IEs) (c : Cc) (xs : List Expr), chkEs es c xs = true → ∀ g, CtxOk c S k g → DA g xs (wEs S es)
  | .nil, c, xs, h, g, O => by
    unfold chkEs at h
    split at h
    · exact da_nil
    · cases h
  | .cons a r, c, xs, h, g, O => by
    unfold chkEs at h
    split at h
    · simp only [Bool.and_eq_true, Bool.not_eq_true'] at h
      obtain ⟨h0, h1, h2⟩ := h
      exact da_cons ((sndE a c _ _ h1 g O).de rfl) (sndEs r c _ h2 g O) h0
    · cases h
theorem sndO : ∀ (o : IO) (c : Cc) (x : Option Expr), chkO o c x = true → ∀ g, CtxOk c S k g → DO g x (wO S o)
  | .no, c, x, h, g, O => by
    unfold chkO at h
    split at h
    · exact do_none
    · cases h
  | .yes a, c, x, h, g, O => by
    unfold chkO at h
    split at h
    · exact do_some ((sndE a c _ _ h g O).de rfl)
    · cases h
theorem sndC : ∀ (o : IO) (c : Cc) (xs : List Expr), chkC o c xs = true → CsOk S k o c xs
  | .no, c, x, h => by
    unfold chkC at h
    split at h
    · exact .inl ⟨rfl, rfl⟩
    · cases h
  | .yes a, c, x, h => by
    unfold chkC at h
    split at h
    · exact .inr ⟨a, _, rfl, rfl, fun g O => (sndE a c _ _ h g O).dt rfl⟩
    · cases h
theorem sndI : ∀ (it : II) (c : Cc) (t x : Expr), chkI it c t x = true → ∀ g, CtxOk c S k g → DI g t x (wI S it)
  | .any a, c, t, x, h, g, O => by
    unfold chkI at h
    exact di_any ((sndE a c _ _ h g O).de rfl)
  | .rg1 a, c, t, x, h, g, O => by
    unfold chkI at h
    split at h
    · simp only [Bool.and_eq_true, decide_eq_true_eq, Bool.not_eq_true'] at h
      obtain ⟨h0, rfl, h1, h2⟩ := h
      exact di_range1 (O.gl h0) (O.free _ (by decide +kernel)) (da_cons ((sndE a c _ _ h2 g O).de rfl) da_nil h1) h1
    · cases h
  | .rg2 a b, c, t, x, h, g, O => by
    unfold chkI at h
    split at h
    · simp only [Bool.and_eq_true, decide_eq_true_eq, Bool.not_eq_true'] at h
      obtain ⟨h0, rfl, h1, h2, h3, h4⟩ := h
      exact di_range2 (O.gl h0) (O.free _ (by decide +kernel)) (da_cons ((sndE a c _ _ h3 g O).de rfl) (da_cons ((sndE b c _ _ h4 g O).de rfl) da_nil h2) h1) h1 h2
    · cases h
  | .en a, c, t, x, h, g, O => by
    unfold chkI at h
    split at h
    · simp only [Bool.and_eq_true, decide_eq_true_eq, Bool.not_eq_true'] at h
      obtain ⟨h0, rfl, h1, h2⟩ := h
      exact di_enum (O.gl h0) (O.free _ (by decide +kernel)) (da_cons ((sndE a c _ _ h2 g O).de rfl) da_nil h1) h1
    · cases h
end
end
end DL

/-! Statements that are looked at; a def's body. -/
namespace DL
open PySem PySem.Spec PyProof.Rows L2
section
variable {S : Nat → DSp} {k : Nat}
theorem noSwap_ok {c : Cc} {g : Gd} (O : CtxOk c S k g) {t x : Expr} (h : noSwap c t x = true) : swappedStores [t] x g.X.env = pure none := by
  unfold noSwap at h
  split at h
  · rename_i a _ b _ _ _
    rw [Bool.or_eq_true] at h
    rcases h with h | h
    · refine nopair_of ?_
      have e : ∀ n, g.X.env.kindOf n = c.kd n := fun n => by show g.X.env.scope.names.lookup n = _; rw [O.sc]; rfl
      rw [e, e]
      have l : ∀ z : Option NameKind, decide (z = some .local) = locB z := fun z => by
        cases z with
        | none => rfl
        | some z => cases z <;> rfl
      rw [l, l]
      cases h1 : locB (c.kd a) <;> cases h2 : locB (c.kd b) <;> first | rfl | (rw [h1, h2] at h; cases h)
    · exact stores_of (by cases x <;> first | rfl | cases h)
  · exact stores_of h
mutual
theorem sndS : ∀ (s : IS) (c : Cc) (st : Stmt), chkS s c st = true → ∀ g, CtxOk c S k g → PassesOwn (model g.X.prog g.X.w) g.X.A g.X.env g.X.xe → DS g st (wS S s)
  | .ex a, c, st, h, g, O, hp => by
    unfold chkS at h
    split at h
    · simp only [Bool.and_eq_true] at h
      exact ds_expr ((sndE a c _ _ h.2 g O).de rfl) (swaps_of h.1)
    · cases h
  | .asg t a, c, st, h, g, O, hp => by
    unfold chkS at h
    split at h
    · rename_i tg x pos
      simp only [Bool.and_eq_true, Bool.not_eq_true'] at h
      obtain ⟨h0, h1, h2, h3, h4⟩ := h
      have HG := sndG t c tg h2 g O
      have HE := sndE a c false x h3 g O
      cases hn : notComp x with
      | true => exact ds_asg (HE.de rfl) HG h0 (sole_of hn) (noSwap_ok O h1)
      | false =>
        rw [hn, Bool.false_or] at h4
        split at h4
        · rename_i y p elt gs sc q
          cases hl : p.line == q.line with
          | false => exact ds_asg (HE.de rfl) HG h0 (sw_false (l := pos.line) hl) (noSwap_ok O h1)
          | true =>
            rw [hl, Bool.not_true, Bool.false_or, Bool.and_eq_true] at h4
            obtain ⟨h5, h6⟩ := h4
            have e1 : c.kd y = some .local := by
              split at h5
              · assumption
              · cases h5
            have e2 : g.X.env.scope.names.lookup y = some .local := by rw [O.sc]; exact e1
            cases t with
            | tp => cases h2
            | nm i =>
              have h2' : slotB c i y = true := by
                unfold chkG at h2
                simp only [Bool.and_eq_true] at h2
                exact h2.1
              have hlc : isLc a = true := by
                cases a <;> first | rfl | (unfold chkE at h3; cases h3)
              exact HE.slc rfl hlc i y p pos (O.slot h2').1 e2 (sw_true (by rw [O.sc]; exact O.kind) e2 hl (by simpa using h6))
        · cases h4
    · cases h
  | .sto o i a, c, st, h, g, O, hp => by
    unfold chkS at h
    split at h
    · simp only [Bool.and_eq_true, Bool.not_eq_true'] at h
      obtain ⟨h0, h1, h2, h3, h4⟩ := h
      exact ds_asg ((sndE a c _ _ h4 g O).de rfl) (dg_sub (by have := O.hu; omega) ((sndE o c _ _ h2 g O).de rfl) ((sndE i c _ _ h3 g O).de rfl) (sub_of h0)) rfl (sole_of h1) (stores_of rfl)
    · cases h
  | .par i j a b, c, st, h, g, O, hp => by
    unfold chkS at h
    split at h
    · rename_i x p y q kt pt u v k2 pt2 pos
      simp only [Bool.and_eq_true, Bool.not_eq_true', decide_eq_true_eq] at h
      obtain ⟨hij, h1, h2, h3, h4, h5, h6, h7, h8, h9, h10, h11⟩ := h
      have e : c.kd x = some .local ∧ c.kd y = some .local := by
        split at h3
        · exact ⟨by assumption, by assumption⟩
        · cases h3
      have ex : g.X.env.scope.names.lookup x = some .local := by rw [O.sc]; exact e.1
      have ey : g.X.env.scope.names.lookup y = some .local := by rw [O.sc]; exact e.2
      exact ds_par O.calm O.hN (O.slot h1).1 (O.slot h2).1 hij ex ey ((sndE a c _ _ h10 g O).de rfl) ((sndE b c _ _ h11 g O).de rfl) h6 h7 (pair_of (by rw [O.sc]; exact O.kind) ex ey h4 h5 h6 h7 h8 h9)
    · cases h
  | .ret a, c, st, h, g, O, hp => by
    unfold chkS at h
    split at h
    · exact ds_ret ((sndE a c _ _ h g O).de rfl)
    · cases h
  | .retN, c, st, h, g, O, hp => by
    unfold chkS at h
    split at h
    · exact ds_retN
    · cases h
  | .iff t a b, c, st, h, g, O, hp => by
    unfold chkS at h
    split at h
    · simp only [Bool.and_eq_true] at h
      exact ds_if ((sndE t c _ _ h.1 g O).dt rfl) (sndSs a c _ h.2.1 g O hp) (sndSs b c _ h.2.2 g O hp)
    · cases h
  | .fo t it b, c, st, h, g, O, hp => by
    unfold chkS at h
    split at h
    · simp only [Bool.and_eq_true, Bool.not_eq_true'] at h
      obtain ⟨h0, h1, h2, h3⟩ := h
      exact ds_for hp O.calm (sndI it c _ _ h1 g O) (sndG t c _ h2 g O) (sndSs b c _ h3 g O hp) fun x => folded_of h0 _ x
    · cases h
  | .wh t b, c, st, h, g, O, hp => by
    unfold chkS at h
    split at h
    · simp only [Bool.and_eq_true] at h
      exact ds_while hp ((sndE t c _ _ h.1 g O).dt rfl) (sndSs b c _ h.2 g O hp)
    · cases h
  | .pas, c, st, h, g, O, hp => by
    unfold chkS at h
    split at h
    · exact ds_pass
    · cases h
  | .brk, c, st, h, g, O, hp => by
    unfold chkS at h
    split at h
    · exact ds_break
    · cases h
  | .cnt, c, st, h, g, O, hp => by
    unfold chkS at h
    split at h
    · exact ds_continue
    · cases h
theorem sndSs : ∀ (s : ISs) (c : Cc) (st : List Stmt), chkSs s c st = true → ∀ g, CtxOk c S k g → PassesOwn (model g.X.prog g.X.w) g.X.A g.X.env g.X.xe → DSs g st (wSs S s)
  | .nil, c, st, h, g, O, hp => by
    unfold chkSs at h
    split at h
    · exact ds_nil
    · cases h
  | .cons a r, c, st, h, g, O, hp => by
    unfold chkSs at h
    split at h
    · simp only [Bool.and_eq_true] at h
      exact ds_cons (sndS a c _ h.1 g O hp) (sndSs r c _ h.2 g O hp)
    · cases h
end
end
/-- what a table says, at a world's frame -/
structure TabOk (P : Program) (w : World) (K : PySem.W.Frag) (mg : Str → Option Value) (base : Heap) (c : Cc) (S : Nat → DSp) (k : Nat) : Prop where
  free : ∀ n ∈ freeNames, mg n = none
  cs : ∀ n d, c.cs.lookup n = some d → okName n = true ∧ ∃ u, mg n = some u ∧ RelV d.v u
  fns : ∀ i n ar, c.fns[i]? = some (n, ar) → okName n = true ∧ FnF P w K mg base k n (S i)
/-- what is looked at once in a def: names, scope -/
def scB (c : Cc) (ps : List Str) : Bool :=
  (match c.sc.kind with | .function => true | _ => false) && (!c.sc.isCoroutine && (!c.sc.isGenerator && (decide c.N.Nodup && (c.N.all okName && (decide (c.N.take ps.length = ps) &&
    ((ps.all fun x => match c.sc.names.lookup x with | some .local => true | some .cell => true | _ => false) && (c.sc.names.all fun y => match y.2 with | .free => false | _ => true)))))))
theorem scB_ok {c : Cc} {ps : List Str} (h : scB c ps = true) : FnScope c.N ps c.sc ∧ ∀ n ∈ c.N, okName n = true := by
  unfold scB at h
  simp only [Bool.and_eq_true, Bool.not_eq_true', decide_eq_true_eq, List.all_eq_true] at h
  obtain ⟨h1, h2, h3, h4, h5, h6, h7, h8⟩ := h
  refine ⟨⟨?_, h2, h3, h4, h6, fun x hx => ?_, fun y hy z => ?_⟩, h5⟩
  · split at h1
    · assumption
    · cases h1
  · have q := h7 x hx
    split at q
    · exact .inl (by assumption)
    · exact .inr (by assumption)
    · cases q
  · have q := h8 y hy
    rw [z] at q
    cases q
/-- a looked-at body keeps its promise -/
theorem fnG_chk {P : Program} {w : World} {K : PySem.W.Frag} {mg : Str → Option Value} {base : Heap} {k : Nat} {f : Addr} {name qual : Str} {params : Arguments} {body : List Stmt} {dV kV doc pm cdv ct oc : Value} {an od : Option Addr} {osl : Array (Option Value)} {ps : List Str} {sp : DSp} {c : Cc} {S : Nat → DSp} (ir : ISs)
    (lk : K.lookup f = some ⟨oc, od, .func (PySem.W.fnOf name qual params body c.sc dV kV doc pm an cdv ct), osl⟩) (hcd : PySem.W.codeIn K cdv qual = true) (hsc : scB c ps = true) (hb : c.blk = false) (hk : chkSs ir c body = true) (len : ∀ ds M Q E, sp ds M Q E → ds.length = ps.length)
    (T : TabOk P w K mg base c S k) (law : ∀ ds M Q E, sp ds M Q E → wSs S ir { nx := fun _ M' => Q .non M', rt := Q } E (startD c.N.length ds) M) :
    FnG P w K mg base (k + 1) f (PySem.W.fnOf name qual params body c.sc dV kV doc pm an cdv ct) ps sp := by
  obtain ⟨FS, nn⟩ := scB_ok hsc
  refine fnG_of lk hcd FS len fun A outer s H ds M Q E XV hr hg hX hsp => ⟨_, sndSs (k := k) ir c body hk _ ?_ ?_, law ds M Q E hsp⟩
  · exact ⟨rfl, rfl, FS.nd, nn, FS.kind, rfl, ⟨hr, hg, (takes_of rfl rfl rfl rfl).imp fun cc d σ H' z => hX cc d H' z⟩, fun _ _ => rfl, T.free, T.cs, T.fns⟩
  · exact passes_of rfl
end DL

/-! Trees as data; readings for the hand. -/
namespace DL
open PySem PySem.Spec PyProof.Rows L2
mutual
/-- numbers, texts, None, tuples and read-only lists of such, at most n deep -/
def good : D → Nat → Bool
  | .non, _ => true
  | .int _, _ => true
  | .str _, _ => true
  | .tup xs, n => match n with | 0 => false | m + 1 => goodL xs m
  | .rl xs, n => match n with | 0 => false | m + 1 => goodL xs m
  | .bl _, _ => false
  | .ref _, _ => false
  | .ty _, _ => false
def goodL : List D → Nat → Bool
  | [], _ => true
  | x :: xs, n => good x n && goodL xs n
end
mutual
theorem good_flat : ∀ (d : D) (n : Nat), good d n = true → flatD d = true ∧ (toPy d).plain = true ∧ (toPy d).depth ≤ n
  | .non, n, _ => ⟨rfl, rfl, Nat.zero_le _⟩
  | .int _, n, _ => ⟨rfl, rfl, Nat.zero_le _⟩
  | .str _, n, _ => ⟨rfl, rfl, Nat.zero_le _⟩
  | .tup xs, 0, h => by unfold good at h; cases h
  | .tup xs, m + 1, h => by
    unfold good at h
    obtain ⟨h1, h2, h3⟩ := goodL_flat xs m h
    refine ⟨by unfold flatD; exact h1, by unfold toPy; rw [PyData.plain]; exact h2, by unfold toPy; rw [PyData.depth]; omega⟩
  | .rl xs, 0, h => by unfold good at h; cases h
  | .rl xs, m + 1, h => by
    unfold good at h
    obtain ⟨h1, h2, h3⟩ := goodL_flat xs m h
    refine ⟨by unfold flatD; exact h1, by unfold toPy; rw [PyData.plain]; exact h2, by unfold toPy; rw [PyData.depth]; omega⟩
  | .bl _, _, h => by unfold good at h; cases h
  | .ref _, _, h => by unfold good at h; cases h
  | .ty _, _, h => by unfold good at h; cases h
theorem goodL_flat : ∀ (ds : List D) (n : Nat), goodL ds n = true → flatDL ds = true ∧ PyData.plainAll (toPyL ds) = true ∧ PyData.depthAll (toPyL ds) ≤ n
  | [], n, _ => ⟨rfl, by unfold toPyL; rw [PyData.plainAll], by unfold toPyL; rw [PyData.depthAll]; omega⟩
  | x :: xs, n, h => by
    unfold goodL at h
    rw [Bool.and_eq_true] at h
    obtain ⟨h1, h2, h3⟩ := good_flat x n h.1
    obtain ⟨g1, g2, g3⟩ := goodL_flat xs n h.2
    refine ⟨by unfold flatDL; rw [h1, g1]; rfl, by unfold toPyL; rw [PyData.plainAll, h2, g2]; rfl, by unfold toPyL; rw [PyData.depthAll]; exact Nat.max_le.mpr ⟨h3, g3⟩⟩
end
mutual
theorem good_eqv : ∀ (x y : D) (n m : Nat), good x n = true → good y m = true → (PyData.eqv (toPy x) (toPy y) = true ↔ x = y)
  | .non, y, n, m, _, h => by
    cases y <;> first | (unfold good at h; cases h; done) | simp [toPy, PyData.eqv]
  | .int i, y, n, m, _, h => by
    cases y <;> first | (unfold good at h; cases h; done) | simp [toPy, PyData.eqv]
  | .str i, y, n, m, _, h => by
    cases y <;> first | (unfold good at h; cases h; done) | simp [toPy, PyData.eqv]
  | .tup xs, y, n, m, g, h => by
    cases n with
    | zero => unfold good at g; cases g
    | succ n =>
      cases y with
      | tup ys =>
        cases m with
        | zero => unfold good at h; cases h
        | succ m =>
          unfold good at g h
          simp only [toPy, PyData.eqv, D.tup.injEq]
          exact goodL_eqv xs ys n m g h
      | _ => first | (unfold good at h; cases h; done) | simp [toPy, PyData.eqv]
  | .rl xs, y, n, m, g, h => by
    cases n with
    | zero => unfold good at g; cases g
    | succ n =>
      cases y with
      | rl ys =>
        cases m with
        | zero => unfold good at h; cases h
        | succ m =>
          unfold good at g h
          simp only [toPy, PyData.eqv, D.rl.injEq]
          exact goodL_eqv xs ys n m g h
      | _ => first | (unfold good at h; cases h; done) | simp [toPy, PyData.eqv]
  | .bl _, _, _, _, h, _ => by unfold good at h; cases h
  | .ref _, _, _, _, h, _ => by unfold good at h; cases h
  | .ty _, _, _, _, h, _ => by unfold good at h; cases h
theorem goodL_eqv : ∀ (xs ys : List D) (n m : Nat), goodL xs n = true → goodL ys m = true → (PyData.eqvAll (toPyL xs) (toPyL ys) = true ↔ xs = ys)
  | [], ys, n, m, _, h => by cases ys <;> simp [toPyL, PyData.eqvAll]
  | x :: xs, ys, n, m, g, h => by
    cases ys with
    | nil => simp [toPyL, PyData.eqvAll]
    | cons y ys =>
      unfold goodL at g h
      rw [Bool.and_eq_true] at g h
      simp only [toPyL, PyData.eqvAll, Bool.and_eq_true, List.cons.injEq, good_eqv x y n m g.1 h.1, goodL_eqv xs ys n m g.2 h.2]
end
theorem good_ok {d : D} {n : Nat} (h : good d n = true) (hn : n ≤ 64) : okP (toPy d) = true := by
  obtain ⟨_, h2, h3⟩ := good_flat d n h
  unfold okP
  rw [h2, decide_eq_true (Nat.le_trans h3 hn)]
  rfl
theorem goodL_all {xs : List D} {n : Nat} : goodL xs n = true ↔ ∀ x ∈ xs, good x n = true := by
  induction xs with
  | nil => simp [goodL]
  | cons x xs ih => simp [goodL, ih]
theorem toPyL_map (xs : List D) : toPyL xs = xs.map toPy := by
  induction xs with
  | nil => rfl
  | cons x xs ih => rw [toPyL, ih]; rfl
section
variable {x y : D} {xs : List D} {M : Mem} {Q : QE} {n : Nat}
theorem dEqB_good {Qb : Bool → Prop} (hx : good x 64 = true) (hy : good y 64 = true) (h : ∀ b : Bool, (b = true ↔ x = y) → Qb b) : dEqB x y M Qb := by
  unfold dEqB
  cases e : scalD x y with
  | some b =>
    refine h b ?_
    cases x <;> cases y <;> simp only [scalD, Option.some.injEq, reduceCtorEq] at e <;> first | (subst e; simp; done) | (cases e; done) | (unfold good at hx; cases hx; done) | (unfold good at hy; cases hy; done)
  | none =>
    exact ⟨_, _, PD.of x (good_flat x _ hx).1, PD.of y (good_flat y _ hy).1, good_ok hx (Nat.le_refl _), good_ok hy (Nat.le_refl _), h _ (good_eqv x y _ _ hx hy)⟩
theorem dEq_good (hx : good x 64 = true) (hy : good y 64 = true) (h : ∀ b : Bool, (b = true ↔ x = y) → Q (.bl b) M) : dEq x y M Q := dEqB_good hx hy h
theorem dNe_good (hx : good x 64 = true) (hy : good y 64 = true) (h : ∀ b : Bool, (b = true ↔ x ≠ y) → Q (.bl b) M) : dNe x y M Q := dEqB_good hx hy fun b hb => h (!b) (by rw [ne_eq, ← hb]; cases b <;> simp)
theorem inSeq_good {Qb : Bool → Prop} (hx : good x 64 = true) (hy : goodL xs 63 = true) (h : ∀ b : Bool, (b = true ↔ x ∈ xs) → Qb b) : inSeq x xs M Qb := by
  refine .inr ⟨toPy x, toPyL xs, PD.of x (good_flat x _ hx).1, PDL.of xs (goodL_flat xs _ hy).1, good_ok hx (Nat.le_refl _), ?_, h _ ?_⟩
  · have : good (.tup xs) 64 = true := by unfold good; exact hy
    have := good_ok this (Nat.le_refl _)
    simpa [okP, PyData.plain, PyData.depth, toPy] using this
  · rw [toPyL_map, List.any_map, List.any_eq_true]
    constructor
    · rintro ⟨z, hz, e⟩
      have e' : PyData.eqv (toPy z) (toPy x) = true := e
      rw [good_eqv z x _ _ (goodL_all.mp hy z hz) hx] at e'
      exact e' ▸ hz
    · intro hz
      exact ⟨x, hz, (good_eqv x x _ _ hx hx).mpr rfl⟩
theorem dIn_tup {neg : Bool} (hx : good x 64 = true) (hy : goodL xs 63 = true) (h : ∀ b : Bool, (b = true ↔ x ∈ xs) → Q (.bl (if neg then !b else b)) M) : dIn neg x (.tup xs) M Q := inSeq_good hx hy h
end
end DL

/-! Readings at known memory; the hand that draws. -/
namespace DL
open PySem PySem.Spec PyProof.Rows L2
section
variable {M : Mem} {Q : QE} {a : Addr} {xs ys : List D} {k i j : Int} {v x y : D}
theorem dIx_ref (h : M a = some (.lst xs)) : dIx (.ref a) (.int k) M Q ↔ ∃ d, L2.atI xs k = some d ∧ Q d M := by
  constructor
  · rintro (⟨xs', i, d, h1, h2, h3, q⟩ | ⟨_, _, _, h1, _⟩ | ⟨_, _, _, _, h1, _⟩)
    · rw [h] at h1; cases h1; cases h2; exact ⟨d, h3, q⟩
    · rw [h] at h1; cases h1
    · rw [h] at h1; cases h1
  · rintro ⟨d, h1, q⟩
    exact .inl ⟨xs, k, d, h, rfl, h1, q⟩
theorem dIx_tup : dIx (.tup xs) (.int k) M Q ↔ ∃ d, L2.atI xs k = some d ∧ Q d M := Iff.rfl
theorem dIx_rl : dIx (.rl xs) (.int k) M Q ↔ ∃ d, L2.atI xs k = some d ∧ Q d M := Iff.rfl
theorem dIx_str {z : Str} : dIx (.str z) (.int k) M Q ↔ z.length ≤ sizeLine ∧ ∃ c, L2.atI z.cps.toList k = some c ∧ Q (.str ⟨#[c]⟩) M := Iff.rfl
theorem atI_0 {α : Type} {x : α} {r : List α} : L2.atI (x :: r) 0 = some x := by
  unfold L2.atI L2.ixN
  rw [if_pos (Int.le_refl 0), if_pos (by rw [List.length_cons]; omega)]
  rfl
theorem ixN_nat {n k : Nat} (h : k < n) : L2.ixN n (k : Int) = some k := by
  unfold L2.ixN
  rw [if_pos (by omega), if_pos (by omega)]
  rfl
theorem atI_nat {α : Type} {r : List α} {k : Nat} (h : k < r.length) : L2.atI r (k : Int) = some r[k] := by
  unfold L2.atI
  rw [ixN_nat h]
  exact List.getElem?_eq_getElem h
theorem atI_1 {α : Type} {x y : α} {r : List α} : L2.atI (x :: y :: r) 1 = some y := atI_nat (k := 1) (by simp)
theorem atI_2 {α : Type} {x y z : α} {r : List α} : L2.atI (x :: y :: z :: r) 2 = some z := atI_nat (k := 2) (by simp)
theorem dSet_ref (h : M a = some (.lst xs)) {R : Mem → Prop} : dSet (.ref a) (.int k) v M R ↔ ∃ j, L2.ixN xs.length k = some j ∧ R (wr M a (.lst (xs.set j v))) := by
  constructor
  · rintro (⟨xs', i, j, h1, h2, h3, q⟩ | ⟨_, _, h1, _⟩ | ⟨_, _, _, h1, _⟩)
    · rw [h] at h1; cases h1; cases h2; exact ⟨j, h3, q⟩
    · rw [h] at h1; cases h1
    · rw [h] at h1; cases h1
  · rintro ⟨j, h1, q⟩
    exact .inl ⟨xs, k, j, h, rfl, h1, q⟩
theorem set3_0 : ∀ {R : Mem → Prop} {x y z : D}, (∃ j, L2.ixN [x, y, z].length 0 = some j ∧ R (wr M a (.lst ([x, y, z].set j v)))) ↔ R (wr M a (.lst [v, y, z])) := fun {R x y z} =>
  ⟨fun ⟨j, h, q⟩ => by
    have : L2.ixN [x, y, z].length 0 = some 0 := ixN_nat (n := 3) (k := 0) (by omega)
    rw [this] at h; cases h; exact q, fun q => ⟨0, ixN_nat (n := 3) (k := 0) (by omega), q⟩⟩
theorem set3_2 : ∀ {R : Mem → Prop} {x y z : D}, (∃ j, L2.ixN [x, y, z].length 2 = some j ∧ R (wr M a (.lst ([x, y, z].set j v)))) ↔ R (wr M a (.lst [x, y, v])) := fun {R x y z} =>
  ⟨fun ⟨j, h, q⟩ => by
    have : L2.ixN [x, y, z].length 2 = some 2 := ixN_nat (n := 3) (k := 2) (by omega)
    rw [this] at h; cases h; exact q, fun q => ⟨2, ixN_nat (n := 3) (k := 2) (by omega), q⟩⟩
theorem lenD_ref (h : M a = some (.lst xs)) : rLenD [.ref a] M Q ↔ Q (.int xs.length) M := by
  constructor
  · rintro (⟨xs', h1, q⟩ | ⟨_, h1, _⟩)
    · rw [h] at h1; cases h1; exact q
    · rw [h] at h1; cases h1
  · intro q
    exact .inl ⟨xs, h, q⟩
theorem lenD_tup : rLenD [.tup xs] M Q ↔ Q (.int xs.length) M := Iff.rfl
theorem lenD_rl : rLenD [.rl xs] M Q ↔ Q (.int xs.length) M := Iff.rfl
theorem lenD_str {z : Str} : rLenD [.str z] M Q ↔ z.length ≤ sizeLine ∧ Q (.int z.length) M := Iff.rfl
theorem dI_int {C : Int → Int → Prop} {f : Int → Int → D} : dI C f (.int i) (.int j) M Q ↔ C i j ∧ Q (f i j) M := Iff.rfl
theorem ixN3_0 : L2.ixN 3 0 = some 0 := ixN_nat (n := 3) (k := 0) (by omega)
theorem ixN3_1 : L2.ixN 3 1 = some 1 := ixN_nat (n := 3) (k := 1) (by omega)
theorem ixN3_2 : L2.ixN 3 2 = some 2 := ixN_nat (n := 3) (k := 2) (by omega)
theorem dSl_str {z : Str} {lo hi : Option Int} : dSl (.str z) lo hi M Q ↔ z.length ≤ sizeLine ∧ Q (.str (cutS z lo hi)) M := Iff.rfl
theorem dTru_non {R : Bool → Prop} : dTru .non M R ↔ R false := Iff.rfl
theorem dTru_bl {b : Bool} {R : Bool → Prop} : dTru (.bl b) M R ↔ R b := Iff.rfl
theorem dTru_int {R : Bool → Prop} : dTru (.int i) M R ↔ R (i != 0) := Iff.rfl
theorem dTru_str {s : Str} {R : Bool → Prop} : dTru (.str s) M R ↔ s.length ≤ sizeLine ∧ R (!decide (s.length = 0)) := Iff.rfl
theorem dTru_tup {R : Bool → Prop} : dTru (.tup xs) M R ↔ R (!xs.isEmpty) := Iff.rfl
theorem dTru_rl {R : Bool → Prop} : dTru (.rl xs) M R ↔ R (!xs.isEmpty) := Iff.rfl
theorem rAbs_int : rAbs [.int i] M Q ↔ Q (.int (if i < 0 then -i else i)) M := Iff.rfl
theorem rMin_int : rMin2 [.int i, .int j] M Q ↔ Q (.int (if j < i then j else i)) M := Iff.rfl
theorem rMax_int : rMax2 [.int i, .int j] M Q ↔ Q (.int (if j > i then j else i)) M := Iff.rfl
theorem rMin_str {s t : Str} : rMin2 [.str s, .str t] M Q ↔ Q (.str (if ltS t s = true then t else s)) M := Iff.rfl
theorem rMax_str {s t : Str} : rMax2 [.str s, .str t] M Q ↔ Q (.str (if ltS s t = true then t else s)) M := Iff.rfl
theorem dMulA_int : dMulA (.int i) (.int j) M Q ↔ CM i j ∧ Q (.int (i * j)) M := Iff.rfl
theorem dIx_wr : dIx (.ref a) (.int k) (wr M a (.lst xs)) Q ↔ ∃ d, L2.atI xs k = some d ∧ Q d (wr M a (.lst xs)) := dIx_ref wr_same
theorem dSet_wr {R : Mem → Prop} : dSet (.ref a) (.int k) v (wr M a (.lst xs)) R ↔ ∃ j, L2.ixN xs.length k = some j ∧ R (wr (wr M a (.lst xs)) a (.lst (xs.set j v))) := dSet_ref wr_same
theorem lenD_wr : rLenD [.ref a] (wr M a (.lst xs)) Q ↔ Q (.int xs.length) (wr M a (.lst xs)) := lenD_ref wr_same
theorem dAdd_int : dAdd (.int i) (.int j) M Q ↔ Q (.int (i + j)) M := Iff.rfl
theorem dAdd_str {s t : Str} : dAdd (.str s) (.str t) M Q ↔ s.length + t.length ≤ sizeLine ∧ Q (.str (s ++ t)) M := Iff.rfl
theorem dAdd_tup : dAdd (.tup xs) (.tup ys) M Q ↔ xs.length + ys.length ≤ sizeLine ∧ Q (.tup (xs ++ ys)) M := Iff.rfl
theorem dIB_int {f : Int → Int → Bool} : dIB f (.int i) (.int j) M Q ↔ Q (.bl (f i j)) M := Iff.rfl
theorem dLt_int : dLt (.int i) (.int j) M Q ↔ Q (.bl (decide (i < j))) M := Iff.rfl
theorem dLt_str {s t : Str} : dLt (.str s) (.str t) M Q ↔ Q (.bl (ltS s t)) M := Iff.rfl
theorem dEq_int : dEq (.int i) (.int j) M Q ↔ Q (.bl (decide (i = j))) M := Iff.rfl
theorem dEq_str {s t : Str} : dEq (.str s) (.str t) M Q ↔ Q (.bl (decide (s = t))) M := Iff.rfl
theorem dNe_int : dNe (.int i) (.int j) M Q ↔ Q (.bl (!decide (i = j))) M := Iff.rfl
theorem dNe_str {s t : Str} : dNe (.str s) (.str t) M Q ↔ Q (.bl (!decide (s = t))) M := Iff.rfl
theorem cm_left (h : -(2 ^ 64) < i ∧ i < 2 ^ 64) : CM i j := .inl (.inl h)
theorem cm_right (h : -(2 ^ 64) < j ∧ j < 2 ^ 64) : CM i j := .inl (.inr h)
end
mutual
theorem good_mono' : ∀ (d : D) (n m : Nat), good d n = true → n ≤ m → good d m = true
  | .non, n, m, _, _ => rfl
  | .int _, n, m, _, _ => rfl
  | .str _, n, m, _, _ => rfl
  | .tup xs, 0, m, h, _ => by unfold good at h; cases h
  | .tup xs, n + 1, m, h, l => by
    cases m with
    | zero => omega
    | succ m =>
      unfold good at h ⊢
      exact goodL_mono' xs n m h (by omega)
  | .rl xs, 0, m, h, _ => by unfold good at h; cases h
  | .rl xs, n + 1, m, h, l => by
    cases m with
    | zero => omega
    | succ m =>
      unfold good at h ⊢
      exact goodL_mono' xs n m h (by omega)
  | .bl _, n, m, h, _ => by unfold good at h; cases h
  | .ref _, n, m, h, _ => by unfold good at h; cases h
  | .ty _, n, m, h, _ => by unfold good at h; cases h
theorem goodL_mono' : ∀ (ds : List D) (n m : Nat), goodL ds n = true → n ≤ m → goodL ds m = true
  | [], n, m, _, _ => rfl
  | d :: ds, n, m, h, l => by
    unfold goodL at h ⊢
    rw [Bool.and_eq_true] at h ⊢
    exact ⟨good_mono' d n m h.1 l, goodL_mono' ds n m h.2 l⟩
end
theorem good_mono {d : D} {n m : Nat} (h : good d n = true) (l : n ≤ m) : good d m = true := good_mono' d n m h l
def Sof (l : List DSp) : Nat → DSp := fun i => l.getD i (fun _ _ _ _ => False)
theorem signs_get {w : Str} {i : Nat} {d : D} (h : (signs w)[i]? = some d) : ∃ c, w.cps.toList[i]? = some c ∧ d = .str ⟨#[c]⟩ := by
  unfold signs at h
  rw [List.getElem?_map] at h
  cases e : w.cps.toList[i]? with
  | none => rw [e] at h; cases h
  | some c => rw [e] at h; cases h; exact ⟨c, rfl, rfl⟩
theorem signs_len {w : Str} : (signs w).length = w.length := by unfold signs; rw [List.length_map]; rfl
theorem dNe_empty {M : Mem} {p q : Addr} {xs : List D} {Q : QE} (h1 : M p = some (.lst xs)) (h2 : M q = some (.lst [])) (g : goodL xs 60 = true) (hq : Q (.bl (!xs.isEmpty)) M) : dNe (.ref p) (.ref q) M Q := by
  show dEqB (.ref p) (.ref q) M fun b => Q (.bl (!b)) M
  obtain ⟨f1, f2, f3⟩ := goodL_flat xs _ g
  refine ⟨.list (toPyL xs), .list [], .lst h1 (PDL.of xs f1), .lst h2 .nil, ?_, by decide +kernel, ?_⟩
  · have g2 : good (.tup xs) 64 = true := by
      unfold good
      exact goodL_all.mpr fun x hx => good_mono (n := 60) (m := 63) (goodL_all.mp g x hx) (by decide)
    simpa [okP, PyData.plain, PyData.depth, toPy] using good_ok g2 (Nat.le_refl _)
  · have : PyData.eqv (.list (toPyL xs)) (.list []) = xs.isEmpty := by
      cases xs with
      | nil => simp [toPyL, PyData.eqv, PyData.eqvAll]
      | cons => simp [toPyL, PyData.eqv, PyData.eqvAll]
    rw [this]
    exact hq
abbrev sg (c : Nat) : D := .str ⟨#[c]⟩
theorem cut_len {z : Str} {lo hi : Option Int} : (cutS z lo hi).length ≤ z.length := by
  have e : (cutS z lo hi).length = (((z.cps.toList.drop (HT.sIx z.length 0 lo)).take (HT.sIx z.length z.length hi - HT.sIx z.length 0 lo))).length := by
    show ((cutS z lo hi).cps).size = _
    unfold cutS
    simp
  rw [e, List.length_take, List.length_drop]
  have : z.cps.toList.length = z.length := rfl
  omega
theorem cut_mem {z : Str} {lo hi : Option Int} {c : Nat} (h : c ∈ (cutS z lo hi).cps.toList) : c ∈ z.cps.toList := by
  unfold cutS at h
  exact List.mem_of_mem_drop (List.mem_of_mem_take (by simpa using h))
theorem app_list (a b : Str) : (a ++ b).cps.toList = a.cps.toList ++ b.cps.toList := by
  show (a.cps ++ b.cps).toList = _
  simp
theorem app_len (a b : Str) : (a ++ b).length = a.length + b.length := strLen_append a b
theorem joinL_sing : ∀ cs : List Nat, TL.joinL [] (cs.map fun c => [c]) = cs
  | [] => rfl
  | [c] => rfl
  | c :: d :: r => by
    show [c] ++ ([] ++ TL.joinL [] ((d :: r).map fun c => [c])) = _
    rw [joinL_sing (d :: r)]
    rfl
theorem join_sing (cs : List Nat) : Txt.join (Str.ofString "") (cs.map fun c => (⟨#[c]⟩ : Str)) = ⟨cs.toArray⟩ := by
  have e0 : (Str.ofString "") = SX.S [] := by decide +kernel
  have e1 : (cs.map fun c => (⟨#[c]⟩ : Str)) = (cs.map fun c => [c]).map SX.S := by rw [List.map_map]; rfl
  rw [e0, e1, SX.join_S, joinL_sing]
theorem seqIx_nat {n k : Nat} (h : k < n) : seqIndex? (k : Int) n = some k := (L2.ixN_seq (ixN_nat h)).1
/-! ### the hand: three numbers in a list at h; at most T draws from its mixer so far -/
def Hand (M : Mem) (h : Addr) (T : Int) : Prop := ∃ a b t : Int, M h = some (.lst [.int a, .int b, .int t]) ∧ 0 ≤ a ∧ (0 ≤ b ∧ b < 2 ^ 61) ∧ (0 ≤ t ∧ t ≤ T)
/-- all but h stays -/
def Ex (h : Addr) (M M' : Mem) : Prop := ∀ a o, a ≠ h → M a = some o → M' a = some o
theorem Ex.refl {h : Addr} {M : Mem} : Ex h M M := fun _ _ _ e => e
theorem Ex.trans {h : Addr} {M M1 M2 : Mem} (p : Ex h M M1) (q : Ex h M1 M2) : Ex h M M2 := fun a o n e => q a o n (p a o n e)
theorem Ex.wr {h : Addr} {M : Mem} {o : MO} : Ex h M (wr M h o) := fun a u n e => by rw [wr_ne n]; exact e
theorem Ex.new {h p : Addr} {M : Mem} {o : MO} (hp : M p = none) : Ex h M (DL.wr M p o) := fun a u _ e => by
  have : a ≠ p := fun z => by subst z; rw [hp] at e; cases e
  rw [wr_ne this]; exact e
theorem Ex.wr' {h p : Addr} {M M' : Mem} {o : MO} (q : Ex h M M') (hp : M p = none) : Ex h M (DL.wr M' p o) := fun a u n e => by
  have : a ≠ p := fun z => by subst z; rw [hp] at e; cases e
  rw [wr_ne this]; exact q a u n e
theorem Ex.none {h p : Addr} {M M' : Mem} (q : Ex h M M') (hp : M' p = none) (hh : p ≠ h) : M p = none := by
  cases e : M p with
  | none => rfl
  | some o => rw [q p o hh e] at hp; cases hp
theorem Ex.sub {h : Addr} {M M' : Mem} (s : Sub M M') : Ex h M M' := fun a o _ e => s a o e
theorem Hand.mono {M : Mem} {h : Addr} {T T' : Int} (p : Hand M h T) (q : T ≤ T') : Hand M h T' := by
  obtain ⟨a, b, t, h1, h2, h3, h4⟩ := p
  exact ⟨a, b, t, h1, h2, h3, h4.1, Int.le_trans h4.2 q⟩
theorem Hand.new {M : Mem} {h p : Addr} {T : Int} {o : MO} (q : Hand M h T) (hp : M p = none) : Hand (wr M p o) h T := by
  obtain ⟨a, b, t, h1, z⟩ := q
  have : h ≠ p := fun e => by subst e; rw [hp] at h1; cases h1
  exact ⟨a, b, t, by rw [wr_ne this]; exact h1, z⟩
theorem Hand.wr {M : Mem} {h p : Addr} {T : Int} {o : MO} (q : Hand M h T) (hp : p ≠ h) : Hand (wr M p o) h T := by
  obtain ⟨a, b, t, h1, z⟩ := q
  exact ⟨a, b, t, by rw [wr_ne (fun e => hp e.symm)]; exact h1, z⟩
theorem Hand.sub {M M' : Mem} {h : Addr} {T : Int} (q : Hand M h T) (s : Sub M M') : Hand M' h T := by
  obtain ⟨a, b, t, h1, z⟩ := q
  exact ⟨a, b, t, s _ _ h1, z⟩
theorem Hand.ne {M : Mem} {h p : Addr} {T : Int} (q : Hand M h T) (hp : M p = none) : p ≠ h := by
  obtain ⟨a, b, t, h1, z⟩ := q
  exact fun e => by subst e; rw [hp] at h1; cases h1
theorem Hand.at {M : Mem} {h : Addr} {T : Int} (q : Hand M h T) : ∃ xs, M h = some (.lst xs) := by
  obtain ⟨a, b, t, h1, z⟩ := q
  exact ⟨_, h1⟩
end DL

/-! How long a tree's text is. -/
namespace DL
open PySem PySem.Spec PyProof.Rows L2
/-- may be shown, by at most n signs -/
def Shw (d : D) (n : Nat) : Prop := (toPy d).showable = true ∧ (toPy d).shown.length ≤ n
theorem shw_str {w : Str} {k : Nat} (h1 : w.length ≤ k) (h2 : ∀ c ∈ w.cps.toList, c < 200) : Shw (.str w) (10 * k + 2) := by
  refine ⟨by unfold toPy; rw [PyData.showable], ?_⟩
  unfold toPy
  rw [PyData.shown]
  have := PySem.StrLaws.reprText_len w fun c hc => Nat.lt_trans (h2 c hc) (by decide)
  omega
theorem tupleText_le (ts : List Str) : (tupleText ts).length ≤ piled ts + 3 := by
  unfold tupleText
  rw [strLen_append, strLen_append]
  have e1 : ((("(" : String) : Str)).length = 1 := rfl
  have e3 : ((if ts.length == 1 then ",)" else ")" : String) : Str).length ≤ 2 := by split <;> decide +kernel
  have e2 : (Str.join ", " ts).length ≤ piled ts := by
    cases ts with
    | nil => exact Nat.le_refl _
    | cons t r =>
      have := join_length_add (t :: r) (by simp)
      omega
  omega
theorem shw_all {xs : List D} {n : Nat} (h : ∀ x ∈ xs, Shw x n) : PyData.showableAll (toPyL xs) = true ∧ piled (PyData.shownAll (toPyL xs)) ≤ xs.length * (n + 2) := by
  induction xs with
  | nil => exact ⟨by unfold toPyL; rw [PyData.showableAll], by unfold toPyL; rw [PyData.shownAll]; exact Nat.zero_le _⟩
  | cons x xs ih =>
    obtain ⟨h1, h2⟩ := ih fun y hy => h y (List.mem_cons_of_mem _ hy)
    obtain ⟨g1, g2⟩ := h x List.mem_cons_self
    refine ⟨by unfold toPyL; rw [PyData.showableAll, g1, h1]; rfl, ?_⟩
    unfold toPyL
    rw [PyData.shownAll, piled_cons, List.length_cons, Nat.succ_mul]
    omega
theorem shw_tup {xs : List D} {n : Nat} (h : ∀ x ∈ xs, Shw x n) : Shw (.tup xs) (xs.length * (n + 2) + 3) := by
  obtain ⟨h1, h2⟩ := shw_all h
  refine ⟨by unfold toPy; rw [PyData.showable]; exact h1, ?_⟩
  unfold toPy
  rw [PyData.shown]
  have := tupleText_le (PyData.shownAll (toPyL xs))
  omega
theorem Shw.le {d : D} {n m : Nat} (h : Shw d n) (l : n ≤ m) : Shw d m := ⟨h.1, Nat.le_trans h.2 l⟩
/-- the text of a tree -/
def shD (d : D) : Str := (toPy d).shown
theorem rRepr_good {d : D} {n : Nat} {M : Mem} {Q : QE} (g : good d 64 = true) (s : Shw d n) (hn : n ≤ sizeLine) (q : Q (.str (shD d)) M) : rRepr [d] M Q := by
  obtain ⟨f1, f2, f3⟩ := good_flat d _ g
  exact ⟨toPy d, PD.of d f1, plain_nodict _ f2, s.1, Nat.le_trans s.2 hn, f3, q⟩
theorem rRepr_bools {a : Addr} {b c : Bool} {M : Mem} {Q : QE} (h : M a = some (.lst [.bl b, .bl c])) (q : Q (.str (PyData.list [.bool b, .bool c]).shown) M) : rRepr [.ref a] M Q :=
  ⟨.list [.bool b, .bool c], .lst h (.cons (.bl b) (.cons (.bl c) .nil)), by cases b <;> cases c <;> decide +kernel, by cases b <;> cases c <;> decide +kernel, by cases b <;> cases c <;> decide +kernel, by cases b <;> cases c <;> decide +kernel, q⟩
end DL

/-! Defs by their data; tables. -/
namespace DL
open PySem PySem.Spec PyProof.Rows L2
section
variable {P : Program} {w : World} {K : PySem.W.Frag} {mg : Str → Option Value} {base : Heap} {k k' : Nat}
theorem FnG.mono {f : Addr} {fd : FuncData} {ps : List Str} {sp : DSp} (F : FnG P w K mg base k f fd ps sp) (h : k ≤ k') : FnG P w K mg base k' f fd ps sp :=
  ⟨F.len, fun A outer s H args us vs ds M Q E QV XV hr => F.run A outer s H args us vs ds M Q E QV XV (hr.mono h)⟩
theorem FnF.mono {n : Str} {sp : DSp} (F : FnF P w K mg base k n sp) (h : k ≤ k') : FnF P w K mg base k' n sp := by
  obtain ⟨f, fd, ps, dvs, dus, vvs, sp0, G, r⟩ := F
  exact ⟨f, fd, ps, dvs, dus, vvs, sp0, G.mono h, r⟩
def Has (K : PySem.W.Frag) (mg : Str → Option Value) (d : He.DefD) (f : Addr) (fd : FuncData) : Prop := FunD K d.name d.qual d.params d.body d.scope [] [] f fd ∧ mg d.name = some (.ref f)
def BindOk (d : He.DefD) (ps : List Str) : Prop := ∀ (kV doc pm : Value) (an : Option Addr) (cdv ct : Value) (us : List Value), us.length = ps.length → bindArgs (PySem.W.fnOf d.name d.qual d.params d.body d.scope .none kV doc pm an cdv ct) ⟨us, []⟩ = pure (ps.zip us)
theorem mkG {d : He.DefD} {c : Cc} {ir : ISs} {ps : List Str} {S : Nat → DSp} {sp : DSp} {f : Addr} {fd : FuncData} (h : Has K mg d f fd) (hs : d.scope = c.sc) (hsc : scB c ps = true) (hb : c.blk = false) (hk : chkSs ir c d.body = true) (len : ∀ ds M Q E, sp ds M Q E → ds.length = ps.length)
    (T : TabOk P w K mg base c S k) (law : ∀ ds M Q E, sp ds M Q E → wSs S ir { nx := fun _ M' => Q .non M', rt := Q } E (startD c.N.length ds) M) : FnG P w K mg base (k + 1) f fd ps sp := by
  obtain ⟨⟨⟨oc, od, dV, kV, doc, pm, an, cdv, ct, osl, rfl, lk, hcd, _, _⟩, kp⟩, hm⟩ := h
  rw [hs] at lk ⊢
  exact fnG_chk ir lk hcd hsc hb hk len T law
theorem mkF {d : He.DefD} {c : Cc} {ir : ISs} {ps : List Str} {S : Nat → DSp} {sp : DSp} (h : ∃ f fd, Has K mg d f fd) (hs : d.scope = c.sc) (hsc : scB c ps = true) (hb : c.blk = false) (hk : chkSs ir c d.body = true) (hbind : BindOk d ps) (len : ∀ ds M Q E, sp ds M Q E → ds.length = ps.length)
    (T : TabOk P w K mg base c S k) (law : ∀ ds M Q E, sp ds M Q E → wSs S ir { nx := fun _ M' => Q .non M', rt := Q } E (startD c.N.length ds) M) : FnF P w K mg base (k + 1) d.name sp := by
  obtain ⟨f, fd, h⟩ := h
  exact ⟨f, fd, ps, [], [], [], sp, mkG h hs hsc hb hk len T law, h.2, h.1.kp, h.1.bindsN hbind, .nil, fun H => isL_nil.mpr rfl, fun ds M Q E q => by rw [List.append_nil]; exact q⟩
def AllF (P : Program) (w : World) (K : PySem.W.Frag) (mg : Str → Option Value) (base : Heap) (k : Nat) : List (Str × Nat) → List DSp → Prop
  | [], [] => True
  | p :: l, s :: fs => okName p.1 = true ∧ FnF P w K mg base k p.1 s ∧ AllF P w K mg base k l fs
  | _, _ => False
theorem AllF.get : ∀ {l : List (Str × Nat)} {fs : List DSp}, AllF P w K mg base k l fs → ∀ i n ar, l[i]? = some (n, ar) → okName n = true ∧ FnF P w K mg base k n (Sof fs i)
  | [], _, _, i, n, ar, h => by simp at h
  | p :: l, [], H, i, n, ar, h => H.elim
  | p :: l, s :: fs, H, 0, n, ar, h => by
    cases h
    exact ⟨H.1, H.2.1⟩
  | p :: l, s :: fs, H, i + 1, n, ar, h => AllF.get H.2.2 i n ar h
theorem tab_of {c : Cc} {fs : List DSp} (free : ∀ n ∈ freeNames, mg n = none) (hcs : c.cs = []) (h : AllF P w K mg base k c.fns fs) : TabOk P w K mg base c (Sof fs) k :=
  ⟨free, fun n d e => absurd e (by rw [hcs]; intro z; cases z), h.get⟩
theorem has_of {h : Heap} {fa : List He.Fa} {fn : List He.DefD} {d : He.DefD} (X : K.In h) (G : h.Ns mainGlobals mg) (c : He.SaysD fa fn K) (hd : d ∈ fn) (hg : He.Fa.glo d.name ∈ fa) (e : d.at_ = (d.name, none)) (e2 : d.dfl = []) (e3 : d.kwd = []) : ∃ f fd, Has K mg d f fd := by
  obtain ⟨fd, F⟩ := c.defs hd
  refine ⟨_, fd, ?_, He.glo_ok X G (c.facts hg)⟩
  unfold He.DefD.dvs He.DefD.kws at F
  rw [e2, e3, e] at F
  exact F
theorem free_of {h : Heap} {fa : List He.Fa} {fn : List He.DefD} (X : K.In h) (G : h.Ns mainGlobals mg) (c : He.SaysD fa fn K) (hf : ∀ n ∈ freeNames, He.Fa.free n ∈ fa) : ∀ n ∈ freeNames, mg n = none := fun n hn => He.free_ok X G (c.facts (hf n hn))
end
end DL

namespace K19
open PySem PySem.Spec PyProof.Rows L2 DL
def top (i : Nat) : Stmt := PySem.Challenge.pw_putinproofs_k19_names_apart.main.body.getD i (.Pass ⟨0, 0, 0, 0⟩)
/-! in_order -/
def ir_in_order : ISs :=
  (.cons (.ret (.ife (.cmp .Lt (.sl 0) (.sl 1)) (.tup (.cons (.sl 0) (.cons (.sl 1) .nil))) (.tup (.cons (.sl 1) (.cons (.sl 0) .nil)))))
  .nil)
def c_in_order : Cc := ⟨defScope (top 1), ["one", "other"], [], [], false⟩
theorem sc_in_order : scB c_in_order ["one", "other"] = true := by decide +kernel
theorem ck_in_order : chkSs ir_in_order c_in_order (defBody (top 1)) = true := by decide +kernel
def d_in_order : He.DefD := ⟨("in_order", none), "in_order", "in_order", defArgs (top 1), defBody (top 1), defScope (top 1), [], []⟩
/-! are_apart -/
def ir_are_apart : ISs :=
  (.cons (.ret (.tb .all (.lc2 [("x", 3), ("y", 4)] [4] (.nm 3) (.any (.sl 1)) .no (.nm 4) (.any (.sl 2)) .no (.andE (.cmp .NotEq (.sl 3) (.sl 4)) (.one (.cmp .In (.cf 0 (.sl 3) (.cons (.sl 4) .nil)) (.sl 0)))))))
  .nil)
def c_are_apart : Cc := ⟨defScope (top 2), ["apart", "one", "other", "x", "y"], [("in_order", 2)], [], false⟩
theorem sc_are_apart : scB c_are_apart ["apart", "one", "other"] = true := by decide +kernel
theorem ck_are_apart : chkSs ir_are_apart c_are_apart (defBody (top 2)) = true := by decide +kernel
def d_are_apart : He.DefD := ⟨("are_apart", none), "are_apart", "are_apart", defArgs (top 2), defBody (top 2), defScope (top 2), [], []⟩
/-! _law_hand -/
def ir__law_hand : ISs :=
  (.cons (.asg (.nm 2) (.ife (.cmp .Lt (.sl 1) (.cb .len (.sl 0) .nil)) (.ix (.sl 0) (.sl 1)) (.lit (.int 0))))
  (.cons (.asg (.nm 3) (.ife (.cmp .GtE (.cb .abs (.sl 2) .nil) (.bin .Pow (.lit (.int 10)) (.lit (.int 18)))) (.bin .Mod (.cb .abs (.sl 2) .nil) (.bin .Mult (.bin .Mult (.bin .Pow (.lit (.int 10)) (.lit (.int 60))) (.bin .Pow (.lit (.int 10)) (.lit (.int 60)))) (.bin .Pow (.lit (.int 10)) (.lit (.int 60))))) (.lit (.int 0))))
  (.cons (.ret (.lst (.cons (.sl 3) (.cons (.bin .Mod (.bin .Add (.bin .Add (.bin .Mult (.bin .Mod (.sl 2) (.lit (.int 2305843009213693951))) (.lit (.int 1000003))) (.bin .Mult (.lit (.int 7919)) (.sl 1))) (.lit (.int 29))) (.lit (.int 2305843009213693921))) (.cons (.lit (.int 0)) .nil)))))
  .nil)))
def c__law_hand : Cc := ⟨defScope (top 4), ["_law_script", "_law_k", "_law_cell", "_law_great"], [], [], false⟩
theorem sc__law_hand : scB c__law_hand ["_law_script", "_law_k"] = true := by decide +kernel
theorem ck__law_hand : chkSs ir__law_hand c__law_hand (defBody (top 4)) = true := by decide +kernel
def d__law_hand : He.DefD := ⟨("_law_hand", none), "_law_hand", "_law_hand", defArgs (top 4), defBody (top 4), defScope (top 4), [], []⟩
/-! _law_take -/
def ir__law_take : ISs :=
  (.cons (.iff (.cmp .Gt (.ix (.sl 0) (.lit (.int 0))) (.lit (.int 0))) (.cons (.asg (.nm 7) (.bin .Mod (.ix (.sl 0) (.lit (.int 0))) (.sl 1)))
  (.cons (.sto (.sl 0) (.lit (.int 0)) (.bin .FloorDiv (.ix (.sl 0) (.lit (.int 0))) (.sl 1)))
  (.cons (.ret (.sl 7))
  .nil))) .nil)
  (.cons (.asg (.nm 2) (.bin .Add (.ix (.sl 0) (.lit (.int 2))) (.lit (.int 1))))
  (.cons (.sto (.sl 0) (.lit (.int 2)) (.sl 2))
  (.cons (.asg (.nm 3) (.bin .Add (.ix (.sl 0) (.lit (.int 1))) (.bin .Mult (.lit (.int 104729)) (.sl 2))))
  (.cons (.asg (.nm 4) (.bin .Add (.bin .Add (.bin .Mod (.ix (.sl 0) (.lit (.int 1))) (.lit (.int 7919))) (.bin .Mult (.lit (.int 15485863)) (.sl 2))) (.lit (.int 17))))
  (.cons (.asg (.nm 5) (.bin .Mod (.bin .Mult (.sl 3) (.sl 4)) (.lit (.int 2305843009213693951))))
  (.cons (.asg (.nm 6) (.bin .Add (.bin .Add (.bin .Mod (.sl 5) (.lit (.int 1000003))) (.bin .Mult (.lit (.int 6700417)) (.sl 2))) (.lit (.int 5))))
  (.cons (.ret (.bin .Mod (.bin .FloorDiv (.bin .Mod (.bin .Mult (.bin .Add (.sl 5) (.lit (.int 13))) (.sl 6)) (.lit (.int 2305843009213693907))) (.lit (.int 64))) (.sl 1)))
  .nil))))))))
def c__law_take : Cc := ⟨defScope (top 5), ["_law_hand_here", "_law_many", "_law_turn", "_law_one", "_law_two", "_law_mixed", "_law_last", "_law_digit"], [], [], false⟩
theorem sc__law_take : scB c__law_take ["_law_hand_here", "_law_many"] = true := by decide +kernel
theorem ck__law_take : chkSs ir__law_take c__law_take (defBody (top 5)) = true := by decide +kernel
def d__law_take : He.DefD := ⟨("_law_take", none), "_law_take", "_law_take", defArgs (top 5), defBody (top 5), defScope (top 5), [], []⟩
/-! _law_pick -/
def ir__law_pick : ISs :=
  (.cons (.ret (.ix (.sl 1) (.cf 0 (.sl 0) (.cons (.cb .len (.sl 1) .nil) .nil))))
  .nil)
def c__law_pick : Cc := ⟨defScope (top 6), ["_law_hand_here", "_law_some"], [("_law_take", 2)], [], false⟩
theorem sc__law_pick : scB c__law_pick ["_law_hand_here", "_law_some"] = true := by decide +kernel
theorem ck__law_pick : chkSs ir__law_pick c__law_pick (defBody (top 6)) = true := by decide +kernel
def d__law_pick : He.DefD := ⟨("_law_pick", none), "_law_pick", "_law_pick", defArgs (top 6), defBody (top 6), defScope (top 6), [], []⟩
/-! _law_fine -/
def ir__law_fine : ISs :=
  (.cons (.ret (.andE (.cmp .NotEq (.sl 0) (.lit (.str "holds"))) (.one (.cmp .NotEq (.lc [("_law_sign", 1)] (.nm 1) (.any (.sl 0)) (.yes (.cmp .NotIn (.sl 1) (.lit (.str "0123456789")))) (.sl 1)) (.lst .nil)))))
  .nil)
def c__law_fine : Cc := ⟨defScope (top 7), ["_law_word", "_law_sign"], [], [], false⟩
theorem sc__law_fine : scB c__law_fine ["_law_word"] = true := by decide +kernel
theorem ck__law_fine : chkSs ir__law_fine c__law_fine (defBody (top 7)) = true := by decide +kernel
def d__law_fine : He.DefD := ⟨("_law_fine", none), "_law_fine", "_law_fine", defArgs (top 7), defBody (top 7), defScope (top 7), [], []⟩
/-! _law_words -/
def lp__law_words_0 : IS :=
  .fo (.nm 5) (.rg1 (.sl 1)) (.cons (.asg (.nm 8) (.mt .pop (.sl 4) (.cf 0 (.sl 0) (.cons (.cb .len (.sl 4) .nil) .nil)) .nil))
  (.cons (.ex (.mt .append (.sl 7) (.bin .Add (.bin .Add (.sli (.sl 3) .no (.yes (.sl 6))) (.sl 8)) (.sli (.sl 3) (.yes (.sl 6)) .no)) .nil))
  .nil))
def ir__law_words : ISs :=
  (.cons (.asg (.nm 2) (.lit (.str "abcdefghijklmnopqrstuvwxyzABCDEFGHIJKLMNOPQRSTUVWXYZ0123456789+-*=<>&|~^")))
  (.cons (.asg (.nm 3) (.mt .join (.lit (.str "")) (.lc [("_law_k", 5)] (.nm 5) (.rg1 (.cf 0 (.sl 0) (.cons (.lit (.int 5)) .nil))) .no (.cf 2 (.sl 0) (.cons (.sl 2) .nil))) .nil))
  (.cons (.asg (.tp (.cons (.nm 6) (.cons (.nm 7) .nil))) (.tup (.cons (.cf 0 (.sl 0) (.cons (.bin .Add (.cb .len (.sl 3) .nil) (.lit (.int 1))) .nil)) (.cons (.lst .nil) .nil))))
  (.cons (.asg (.nm 4) (.lc [("_law_sign", 8)] (.nm 8) (.any (.sl 2)) (.yes (.cf 1 (.bin .Add (.bin .Add (.sli (.sl 3) .no (.yes (.sl 6))) (.sl 8)) (.sli (.sl 3) (.yes (.sl 6)) .no)) .nil)) (.sl 8)))
  (.cons lp__law_words_0
  (.cons (.ret (.sl 7))
  .nil))))))
def c__law_words : Cc := ⟨defScope (top 8), ["_law_hand_here", "_law_many", "_law_signs", "_law_stem", "_law_free", "_law_k", "_law_at", "_law_found", "_law_sign"], [("_law_take", 2), ("_law_fine", 1), ("_law_pick", 2)], [], false⟩
theorem sc__law_words : scB c__law_words ["_law_hand_here", "_law_many"] = true := by decide +kernel
theorem ck__law_words : chkSs ir__law_words c__law_words (defBody (top 8)) = true := by decide +kernel
def d__law_words : He.DefD := ⟨("_law_words", none), "_law_words", "_law_words", defArgs (top 8), defBody (top 8), defScope (top 8), [], []⟩
/-! _law_due -/
def lp__law_due_0 : IS :=
  .fo (.nm 4) (.any (.sl 2)) (.cons (.iff (.orE (.cmp .Eq (.sl 3) (.sl 4)) (.one (.cmp .NotIn (.tup (.cons (.cb .min (.sl 3) (.cons (.sl 4) .nil)) (.cons (.cb .max (.sl 3) (.cons (.sl 4) .nil)) .nil))) (.sl 0)))) (.cons (.ret (.lit (.bl false)))
  .nil) .nil)
  .nil)
def lp__law_due_1 : IS :=
  .fo (.nm 3) (.any (.sl 1)) (.cons lp__law_due_0
  .nil)
def ir__law_due : ISs :=
  (.cons lp__law_due_1
  (.cons (.ret (.lit (.bl true)))
  .nil))
def c__law_due : Cc := ⟨defScope (top 9), ["_law_pairs", "_law_one", "_law_other", "_law_x", "_law_y"], [], [], false⟩
theorem sc__law_due : scB c__law_due ["_law_pairs", "_law_one", "_law_other"] = true := by decide +kernel
theorem ck__law_due : chkSs ir__law_due c__law_due (defBody (top 9)) = true := by decide +kernel
def d__law_due : He.DefD := ⟨("_law_due", none), "_law_due", "_law_due", defArgs (top 9), defBody (top 9), defScope (top 9), [], []⟩
/-! law -/
def lp_law_0 : IS :=
  .fo (.nm 5) (.rg1 (.lit (.int 12))) (.cons (.asg (.nm 10) (.tt .tuple (.lc [("_law_j", 16)] (.nm 16) (.rg1 (.cf 2 (.sl 2) (.cons (.lit (.int 5)) .nil))) .no (.cf 3 (.sl 2) (.cons (.sl 6) .nil)))))
  (.cons (.asg (.nm 11) (.tt .tuple (.lc [("_law_j", 16)] (.nm 16) (.rg1 (.cf 2 (.sl 2) (.cons (.lit (.int 5)) .nil))) .no (.cf 3 (.sl 2) (.cons (.sl 6) .nil)))))
  (.cons (.iff (.cmp .Eq (.cf 2 (.sl 2) (.cons (.lit (.int 2)) .nil)) (.lit (.int 0))) (.cons (.asg (.nm 11) (.tt .tuple (.lc [("_law_name", 9)] (.nm 9) (.any (.sl 11)) (.yes (.cmp .NotIn (.sl 9) (.sl 10))) (.sl 9))))
  .nil) .nil)
  (.cons (.asg (.nm 12) (.cb .repr (.tup (.cons (.sl 4) (.cons (.sl 10) (.cons (.sl 11) .nil)))) .nil))
  (.cons (.asg (.nm 13) (.lst (.cons (.cf 0 (.sl 4) (.cons (.sl 10) (.cons (.sl 11) .nil))) (.cons (.cf 0 (.sl 4) (.cons (.sl 11) (.cons (.sl 10) .nil))) .nil))))
  (.cons (.asg (.nm 14) (.cf 1 (.sl 4) (.cons (.sl 10) (.cons (.sl 11) .nil))))
  (.cons (.iff (.orE (.cmp .NotEq (.cb .repr (.sl 13) .nil) (.cb .repr (.lst (.cons (.sl 14) (.cons (.sl 14) .nil))) .nil)) (.one (.cmp .IsNot (.cf 0 (.sl 4) (.cons (.tup .nil) (.cons (.sl 11) .nil))) (.lit (.bl true))))) (.cons (.ret (.lit (.bl false)))
  .nil) .nil)
  (.cons (.iff (.orE (.cmp .IsNot (.cf 0 (.sl 4) (.cons (.sl 11) (.cons (.tup .nil) .nil))) (.lit (.bl true))) (.one (.cmp .NotEq (.cb .repr (.tup (.cons (.sl 4) (.cons (.sl 10) (.cons (.sl 11) .nil)))) .nil) (.sl 12)))) (.cons (.ret (.lit (.bl false)))
  .nil) .nil)
  .nil))))))))
def lp_law_1 : IS :=
  .fo (.tp (.cons (.nm 8) (.cons (.nm 9) .nil))) (.en (.sl 6)) (.cons (.ex (.mt .extend (.sl 7) (.lc [("_law_other", 11)] (.nm 11) (.any (.sli (.sl 6) (.yes (.bin .Add (.sl 8) (.lit (.int 1)))) .no)) .no (.tup (.cons (.sl 9) (.cons (.sl 11) .nil)))) .nil))
  .nil)
def lp_law_2 : IS :=
  .fo (.nm 1) (.rg1 (.cb .max (.lit (.int 1)) (.cons (.cb .min (.cb .len (.sl 0) .nil) (.cons (.lit (.int 4)) .nil)) .nil))) (.cons (.asg (.nm 2) (.cf 5 (.sl 0) (.cons (.sl 1) .nil)))
  (.cons (.asg (.tp (.cons (.nm 6) (.cons (.nm 7) .nil))) (.tup (.cons (.cb .sorted (.cf 4 (.sl 2) (.cons (.lit (.int 6)) .nil)) .nil) (.cons (.lst .nil) .nil))))
  (.cons lp_law_1
  (.cons (.asg (.nm 3) (.cf 3 (.sl 2) (.cons (.lst (.cons (.lit (.int 1)) (.cons (.lit (.int 2)) (.cons (.lit (.int 4)) (.cons (.lit (.int 9)) (.cons (.lit (.int 99)) .nil)))))) .nil)))
  (.cons (.asg (.nm 4) (.tt .tuple (.lc [("_law_pair", 15)] (.nm 15) (.any (.sl 7)) (.yes (.orE (.cmp .Gt (.cf 2 (.sl 2) (.cons (.sl 3) .nil)) (.lit (.int 0))) (.one (.cmp .Eq (.sl 3) (.lit (.int 1)))))) (.sl 15))))
  (.cons (.iff (.cmp .Eq (.sl 3) (.lit (.int 99))) (.cons (.asg (.nm 4) (.tup .nil))
  .nil) .nil)
  (.cons lp_law_0
  .nil)))))))
def ir_law : ISs :=
  (.cons lp_law_2
  (.cons (.ret (.lit (.bl true)))
  .nil))
def c_law : Cc := ⟨defScope (top 10), ["_law_script", "_law_k", "_law_hand_here", "_law_skip", "_law_pairs", "_law_turn", "_law_names", "_law_every", "_law_at", "_law_name", "_law_one", "_law_other", "_law_kept", "_law_found", "_law_due_here", "_law_pair", "_law_j"], [("are_apart", 3), ("_law_due", 3), ("_law_take", 2), ("_law_pick", 2), ("_law_words", 2), ("_law_hand", 2)], [], false⟩
theorem sc_law : scB c_law ["_law_script"] = true := by decide +kernel
theorem ck_law : chkSs ir_law c_law (defBody (top 10)) = true := by decide +kernel
def d_law : He.DefD := ⟨("law", none), "law", "law", defArgs (top 10), defBody (top 10), defScope (top 10), [], []⟩
end K19

open PySem PySem.Spec PyProof.Rows L2 DL
local macro_rules | `(tactic| walk_at "dl") => `(tactic| simp only [wSs, wS, DL.wE, DL.wT, DL.wL, wEs, wO, wC, wI, wG, wGs, dSeq, dAsg, dPar, dIf, dDrop, dSlot, dC, CD.d, dBin, boR, coR, dSub, dMod, dFdiv, dTest, dChain, bQ, dNext, dRet, dRetN, dgName, dgSub, dgTup, dgCons, dgNil, dLst, dTup, dCons, dNil, dIfE, dAndT, dOrT, dNotT, dAnd, dOr, dNot, dTruth, dTru_non, dTru_bl, dTru_int, dTru_str, dTru_tup, dTru_rl, dNeg, dSlice, dNoPart, dPart, dCall, dMt, dFnD, isTy, BF.rd, BT.rd, BM.rd, BM.ty, BF.rt, BT.rt, dTmp, startD, getS, setS, wipeS, List.map_cons, List.map_nil, List.replicate, List.length_cons, List.length_nil, List.cons_append, List.nil_append, List.append_nil, dI_int, dAdd_int, dAdd_str, dAdd_tup, dIB_int, dLt_int, dLt_str, dEq_int, dEq_str, dNe_int, dNe_str, lenD_tup, lenD_rl, lenD_str, dMulA_int, dSl_str, ixN3_0, ixN3_1, ixN3_2, List.set_cons_zero, List.set_cons_succ, rAbs_int, rMin_int, rMax_int, rMin_str, rMax_str, dIx_wr, lenD_wr, atI_0, atI_1, atI_2, Option.some.injEq, exists_eq_left', decide_true, decide_false, eq_self, ite_true, ite_false, if_true, if_false, Bool.false_eq_true, Bool.not_true, Bool.not_false, Nat.reduceAdd, Nat.reduceSub])
namespace K19
def spTake : DSp := fun ds M Q E => ∃ (h : Addr) (n T : Int), ds = [.ref h, .int n] ∧ 0 < n ∧ n < 2 ^ 62 ∧ T < 2 ^ 40 ∧ Hand M h T ∧ ∀ (r : Int) M', 0 ≤ r → r < n → Hand M' h (T + 1) → Ex h M M' → Q (.int r) M'
theorem law_take (S : Nat → DSp) (ds : List D) (M : Mem) (Q : QE) (E : EX) (H : spTake ds M Q E) : wSs S ir__law_take { nx := fun _ M' => Q .non M', rt := Q } E (startD 8 ds) M := by
  obtain ⟨h, n, T, rfl, hn, hn2, hT, ⟨a, b, t, hM, ha, hb, ht⟩, HQ⟩ := H
  unfold ir__law_take
  walk_at "dl"
  simp only [dIx_ref hM, atI_0, Option.some.injEq, exists_eq_left', dI_int]
  by_cases h0 : 0 < a
  · repeat first | walk_at "dl" | simp only [dIx_ref hM, dSet_ref hM, h0]
    refine ⟨hn, ⟨hn, by omega⟩, HQ _ _ (Int.emod_nonneg _ (by omega)) (Int.emod_lt_of_pos _ hn) ⟨_, b, t, wr_same, Int.ediv_nonneg ha (by omega), hb, ht.1, by omega⟩ Ex.wr⟩
  · repeat first | walk_at "dl" | simp only [dIx_ref hM, dSet_ref hM, h0]
    have e1 := Int.emod_nonneg b (show (7919 : Int) ≠ 0 by omega)
    have e2 := Int.emod_lt_of_pos b (show (0 : Int) < 7919 by omega)
    refine ⟨cm_left (by omega), by omega, cm_left (by omega), cm_left (by omega), by omega, by omega, cm_left (by omega), ?_⟩
    generalize hm : (b + 104729 * (t + 1)) * (b % 7919 + 15485863 * (t + 1) + 17) % 2305843009213693951 = m
    have m1 : 0 ≤ m := by rw [← hm]; exact Int.emod_nonneg _ (by omega)
    have m2 : m < 2305843009213693951 := by rw [← hm]; exact Int.emod_lt_of_pos _ (by omega)
    exact ⟨cm_left (by omega), by omega, ⟨by omega, by omega⟩, hn, HQ _ _ (Int.emod_nonneg _ (by omega)) (Int.emod_lt_of_pos _ hn) ⟨a, b, t + 1, wr_same, ha, hb, by omega, by omega⟩ Ex.wr⟩
def spHand (n : Nat) : DSp := fun ds M Q E => ∃ (ns : List Int) (k : Int), ds = [.rl (ns.map D.int), .int k] ∧ 0 ≤ k ∧ k < 1000 ∧ ∀ h, M h = none → ∀ M', (∀ a o, M a = some o → M' a = some o) → Hand M' h 0 → Q (.ref h) M'
theorem law_hand (S : Nat → DSp) (ds : List D) (M : Mem) (Q : QE) (E : EX) (H : spHand 0 ds M Q E) : wSs S ir__law_hand { nx := fun _ M' => Q .non M', rt := Q } E (startD 4 ds) M := by
  obtain ⟨ns, k, rfl, hk, hk2, HQ⟩ := H
  unfold ir__law_hand
  walk_at "dl"
  have p18 : CPowG 10 18 := ⟨by decide, by decide +kernel⟩
  have p60 : CPowG 10 60 := ⟨by decide, by decide +kernel⟩
  have c1 : CM (10 ^ Int.toNat 60) (10 ^ Int.toNat 60) := .inr (by unfold CMulW; decide +kernel)
  have c2 : CM (10 ^ Int.toNat 60 * 10 ^ Int.toNat 60) (10 ^ Int.toNat 60) := .inr (by unfold CMulW; decide +kernel)
  have fin : ∀ c g : Int, 0 ≤ g → ∀ p, M p = none → Q (.ref p) (wr M p (.lst [.int g, .int ((c % 2305843009213693951 * 1000003 + 7919 * k + 29) % 2305843009213693921), .int 0])) := fun c g hg p hp =>
    HQ p hp _ (fun a o e => by
      have : a ≠ p := fun z => by subst z; rw [hp] at e; cases e
      rw [wr_ne this]; exact e) ⟨_, _, 0, wr_same, hg, ⟨Int.emod_nonneg _ (by omega), Int.lt_of_lt_of_le (Int.emod_lt_of_pos _ (by omega)) (by decide)⟩, by omega, by omega⟩
  have p0 : (0 : Int) < 10 ^ Int.toNat 60 * 10 ^ Int.toNat 60 * 10 ^ Int.toNat 60 := by decide +kernel
  have go : ∀ c : Int, CPowG 10 18 ∧ (if decide ((10 : Int) ^ Int.toNat 18 ≤ if c < 0 then -c else c) = true then
      CPowG 10 60 ∧ CPowG 10 60 ∧ CM (10 ^ Int.toNat 60) (10 ^ Int.toNat 60) ∧ CPowG 10 60 ∧ CM (10 ^ Int.toNat 60 * 10 ^ Int.toNat 60) (10 ^ Int.toNat 60) ∧ (0 : Int) < 10 ^ Int.toNat 60 * 10 ^ Int.toNat 60 * 10 ^ Int.toNat 60 ∧
        (0 : Int) < 2305843009213693951 ∧ CM (c % 2305843009213693951) 1000003 ∧ CM 7919 k ∧ (0 : Int) < 2305843009213693921 ∧ 3 ≤ sizeLine ∧ ∀ p, M p = none → Q (.ref p) (wr M p (.lst [.int ((if c < 0 then -c else c) % (10 ^ Int.toNat 60 * 10 ^ Int.toNat 60 * 10 ^ Int.toNat 60)), .int ((c % 2305843009213693951 * 1000003 + 7919 * k + 29) % 2305843009213693921), .int 0]))
    else (0 : Int) < 2305843009213693951 ∧ CM (c % 2305843009213693951) 1000003 ∧ CM 7919 k ∧ (0 : Int) < 2305843009213693921 ∧ 3 ≤ sizeLine ∧ ∀ p, M p = none → Q (.ref p) (wr M p (.lst [.int 0, .int ((c % 2305843009213693951 * 1000003 + 7919 * k + 29) % 2305843009213693921), .int 0]))) := fun c => by
    have z3 : 3 ≤ sizeLine := by decide
    refine ⟨p18, ?_⟩
    by_cases hb : decide ((10 : Int) ^ Int.toNat 18 ≤ if c < 0 then -c else c) = true
    · rw [if_pos hb]
      exact ⟨p60, p60, c1, p60, c2, p0, by omega, cm_right (by omega), cm_left (by omega), by omega, z3, fin c _ (Int.emod_nonneg _ (by omega))⟩
    · rw [if_neg hb]
      exact ⟨by omega, cm_right (by omega), cm_left (by omega), by omega, z3, fin c 0 (Int.le_refl 0)⟩
  by_cases hl : k < ((ns.map D.int).length : Int)
  · repeat first | walk_at "dl" | simp only [hl]
    obtain ⟨j, rfl⟩ : ∃ j : Nat, k = (j : Int) := ⟨k.toNat, by omega⟩
    have hj : j < (ns.map D.int).length := by omega
    refine ⟨_, atI_nat hj, ?_⟩
    rw [List.getElem_map]
    generalize ns[j]'(by simpa using hj) = c
    walk_at "dl"
    exact go c
  · repeat first | walk_at "dl" | simp only [hl]
    exact go 0
end K19

open PySem PySem.Spec PyProof.Rows L2 DL
namespace K19
/-- what may be picked from -/
def Pot (M : Mem) (h : Addr) (x : D) (items : List D) : Prop := (∃ z : Str, x = .str z ∧ items = DL.signs z) ∨ (∃ a, x = .ref a ∧ a ≠ h ∧ M a = some (.lst items)) ∨ x = .tup items
def spPick : DSp := fun ds M Q E => ∃ (h : Addr) (x : D) (items : List D) (T : Int), ds = [.ref h, x] ∧ Pot M h x items ∧ 0 < items.length ∧ items.length ≤ sizeLine ∧ T < 2 ^ 40 ∧ Hand M h T ∧ ∀ d M', d ∈ items → Hand M' h (T + 1) → Ex h M M' → Q d M'
theorem law_pick (ds : List D) (M : Mem) (Q : QE) (E : EX) (H : spPick ds M Q E) : wSs (Sof [spTake]) ir__law_pick { nx := fun _ M' => Q .non M', rt := Q } E (startD 2 ds) M := by
  obtain ⟨h, x, items, T, rfl, hp, hl, hz, hT, hH, HQ⟩ := H
  unfold ir__law_pick
  have s24 : sizeLine = 2 ^ 24 := rfl
  have take : ∀ R : D → Mem → Prop, (∀ (j : Nat) (hj : j < items.length) M', Hand M' h (T + 1) → Ex h M M' → R (.int j) M') → Sof [spTake] 0 [.ref h, .int (items.length : Int)] M R E := fun R k => by
    refine ⟨h, _, T, rfl, by omega, by omega, hT, hH, fun r M' h0 h1 h2 h3 => ?_⟩
    obtain ⟨j, rfl⟩ : ∃ j : Nat, r = (j : Int) := ⟨r.toNat, by omega⟩
    exact k j (by omega) M' h2 h3
  rcases hp with ⟨z, rfl, rfl⟩ | ⟨a, rfl, hne, hM⟩ | rfl
  · walk_at "dl"
    rw [signs_len] at hz
    refine ⟨hz, ?_⟩
    rw [← signs_len]
    refine take _ fun j hj M' h1 h2 => ?_
    rw [dIx_str]
    have hj' : j < z.cps.toList.length := by rw [signs_len] at hj; exact hj
    refine ⟨hz, _, atI_nat hj', HQ _ _ ?_ h1 h2⟩
    unfold DL.signs
    exact List.mem_map_of_mem (List.getElem_mem hj')
  · walk_at "dl"
    rw [lenD_ref hM]
    refine take _ fun j hj M' h1 h2 => ?_
    rw [dIx_ref (h2 a _ hne hM)]
    exact ⟨_, atI_nat hj, HQ _ _ (List.getElem_mem hj) h1 h2⟩
  · walk_at "dl"
    refine take _ fun j hj M' h1 h2 => ?_
    rw [dIx_tup]
    exact ⟨_, atI_nat hj, HQ _ _ (List.getElem_mem hj) h1 h2⟩
def digits : Str := "0123456789"
def spFine : DSp := fun ds M Q E => ∃ w : Str, ds = [.str w] ∧ w.length < 1000 ∧ ∀ b M', (b = true ↔ w ≠ ("holds" : Str) ∧ ∃ c ∈ w.cps.toList, c ∉ digits.cps.toList) → Sub M M' → Q (.bl b) M'
theorem law_fine (S : Nat → DSp) (ds : List D) (M : Mem) (Q : QE) (E : EX) (H : spFine ds M Q E) : wSs S ir__law_fine { nx := fun _ M' => Q .non M', rt := Q } E (startD 2 ds) M := by
  obtain ⟨w, rfl, hw, HQ⟩ := H
  unfold ir__law_fine
  walk_at "dl"
  by_cases h0 : w = ("holds" : Str)
  · repeat first | walk_at "dl" | simp only [h0]
    exact HQ _ _ (by simp [h0]) fun _ _ e => e
  · repeat first | walk_at "dl" | simp only [h0]
    show dLc _ _ _ _ _ _ _ _ _
    unfold dLc diAny
    walk_at "dl"
    show walkD (.str w) M _
    unfold walkD
    refine ⟨fun i acc M' => M' = M ∧ acc = ((w.cps.toList.take i).filter fun c => !decide (c ∈ digits.cps.toList)).map fun c => D.str ⟨#[c]⟩, ⟨rfl, rfl⟩, ?_, ?_⟩
    · rintro i d acc M' hd ⟨rfl, rfl⟩
      obtain ⟨c, hc, rfl⟩ := signs_get hd
      refine ⟨trivial, ?_⟩
      have hlt := (List.getElem?_eq_some_iff.mp hc).1
      walk_at "dl"
      refine ⟨c, rfl, ?_⟩
      have e1 : w.cps.toList.take (i + 1) = w.cps.toList.take i ++ [c] := by rw [List.take_add_one, hc]; rfl
      have hz : (((w.cps.toList.take i).filter fun c => !decide (c ∈ digits.cps.toList)).map fun c => D.str ⟨#[c]⟩).length < sizeLine := by
        rw [List.length_map]
        refine Nat.lt_of_le_of_lt (List.length_filter_le _ _) ?_
        rw [List.length_take]
        have : w.cps.toList.length < 1000 := hw
        have : sizeLine = 2 ^ 24 := rfl
        omega
      rw [e1, List.filter_append, List.map_append]
      by_cases hcd : c ∈ digits.cps.toList
      · rw [show decide (c ∈ (Str.ofString "0123456789").cps.toList) = true from decide_eq_true hcd]
        walk_at "dl"
        exact ⟨trivial, by rw [List.filter_cons_of_neg (by simpa using hcd)]; simp⟩
      · rw [show decide (c ∈ (Str.ofString "0123456789").cps.toList) = false from decide_eq_false hcd]
        walk_at "dl"
        exact ⟨hz, trivial, by rw [List.filter_cons_of_pos (by simpa using hcd)]; rfl⟩
    · rintro acc M' ⟨rfl, rfl⟩
      refine ⟨trivial, fun p hp => ?_⟩
      walk_at "dl"
      refine ⟨Nat.zero_le _, fun q hq => ?_⟩
      have hpq : p ≠ q := fun z => by subst z; rw [wr_same] at hq; cases hq
      have hl : w.cps.toList.take (DL.signs w).length = w.cps.toList := by
        rw [signs_len]
        exact List.take_length
      rw [hl]
      refine dNe_empty (by rw [wr_ne hpq, wr_same]) wr_same (goodL_all.mpr fun x hx => ?_) (HQ _ _ ?_ ?_)
      · obtain ⟨c, _, rfl⟩ := List.mem_map.mp hx
        rfl
      · rw [Bool.not_eq_true', List.isEmpty_eq_false_iff, ne_eq, List.map_eq_nil_iff, List.filter_eq_nil_iff]
        simp [h0]
      · intro a o e
        have h1 : a ≠ q := fun z => by subst z; have := wr_ne (M := M') (o := MO.lst (((w.cps.toList).filter fun c => !decide (c ∈ digits.cps.toList)).map fun c => D.str ⟨#[c]⟩)) hpq.symm; rw [hl] at hq; rw [this] at hq; rw [hq] at e; cases e
        have h2 : a ≠ p := fun z => by subst z; rw [hp] at e; cases e
        rw [wr_ne h1, wr_ne h2]
        exact e
end K19

open PySem PySem.Spec PyProof.Rows L2 DL
namespace K19
abbrev pr (p : Str × Str) : D := .tup [.str p.1, .str p.2]
def ord (a b : Str) : Str × Str := if ltS a b = true then (a, b) else (b, a)
def spOrder : DSp := fun ds M Q E => ∃ a b : Str, ds = [.str a, .str b] ∧ Q (pr (ord a b)) M
theorem law_order (S : Nat → DSp) (ds : List D) (M : Mem) (Q : QE) (E : EX) (H : spOrder ds M Q E) : wSs S ir_in_order { nx := fun _ M' => Q .non M', rt := Q } E (startD 2 ds) M := by
  obtain ⟨a, b, rfl, HQ⟩ := H
  unfold ir_in_order
  walk_at "dl"
  unfold ord at HQ
  have z : 2 ≤ sizeLine := by decide
  by_cases h : ltS a b = true
  · rw [if_pos h] at HQ ⊢
    exact ⟨z, HQ⟩
  · rw [if_neg h] at HQ ⊢
    exact ⟨z, HQ⟩
def ApartP (ps : List (Str × Str)) (one other : List Str) : Prop := ∀ x ∈ one, ∀ y ∈ other, x ≠ y ∧ ord x y ∈ ps
def spApart : DSp := fun ds M Q E => ∃ (ps : List (Str × Str)) (one other : List Str), ds = [.tup (ps.map pr), .tup (one.map D.str), .tup (other.map D.str)] ∧ one.length ≤ 1000 ∧ other.length ≤ 1000 ∧
  ∀ b : Bool, (b = true ↔ ApartP ps one other) → Q (.bl b) M
theorem mem_take_succ {α : Type} {l : List α} {i : Nat} {x : α} (h : l[i]? = some x) (P : α → Prop) : (∀ y ∈ l.take (i + 1), P y) ↔ (∀ y ∈ l.take i, P y) ∧ P x := by
  have e : l.take (i + 1) = l.take i ++ [x] := by rw [List.take_add_one, h]; rfl
  rw [e]
  constructor
  · intro H
    exact ⟨fun y hy => H y (List.mem_append_left _ hy), H x (List.mem_append_right _ List.mem_cons_self)⟩
  · rintro ⟨H1, H2⟩ y hy
    rcases List.mem_append.mp hy with hy | hy
    · exact H1 y hy
    · rw [List.mem_singleton] at hy; subst hy; exact H2
theorem map_get {α β : Type} {f : α → β} {l : List α} {i : Nat} {d : β} (h : (l.map f)[i]? = some d) : ∃ x, l[i]? = some x ∧ d = f x := by
  rw [List.getElem?_map] at h
  cases e : l[i]? with
  | none => rw [e] at h; cases h
  | some c => rw [e] at h; cases h; exact ⟨c, rfl, rfl⟩
theorem prs_good (ps : List (Str × Str)) : goodL (ps.map pr) 63 = true := goodL_all.mpr fun x hx => by
  obtain ⟨p, _, rfl⟩ := List.mem_map.mp hx
  rfl
theorem pr_inj {p q : Str × Str} (h : pr p = pr q) : p = q := by
  injection h with h
  injection h with h1 h2
  injection h2 with h2 _
  injection h1 with h1
  injection h2 with h2
  exact Prod.ext h1 h2
theorem pr_mem {p : Str × Str} {ps : List (Str × Str)} : pr p ∈ ps.map pr ↔ p ∈ ps := ⟨fun h => by
  obtain ⟨q, hq, e⟩ := List.mem_map.mp h
  exact pr_inj e ▸ hq, fun h => List.mem_map_of_mem h⟩
theorem law_apart (ds : List D) (M : Mem) (Q : QE) (E : EX) (H : spApart ds M Q E) : wSs (Sof [spOrder]) ir_are_apart { nx := fun _ M' => Q .non M', rt := Q } E (startD 5 ds) M := by
  obtain ⟨ps, one, other, rfl, l1, l2, HQ⟩ := H
  unfold ir_are_apart
  walk_at "dl"
  unfold dLc2 diAny
  walk_at "dl"
  unfold walkD
  have s24 : sizeLine = 2 ^ 24 := rfl
  let I : List Str → Mem → List D → Mem → Nat → Prop := fun _ _ _ _ _ => True
  refine ⟨fun i acc M' => M' = M ∧ ∃ bs : List Bool, acc = bs.map D.bl ∧ bs.length ≤ i * 1000 ∧ (bs.all id = true ↔ ∀ x ∈ one.take i, ∀ y ∈ other, x ≠ y ∧ ord x y ∈ ps), ⟨rfl, [], rfl, Nat.zero_le _, by simp⟩, ?_, ?_⟩
  · rintro i d acc M' hd ⟨rfl, bs, rfl, hb, hbs⟩
    obtain ⟨x, hx, rfl⟩ := map_get hd
    have hi : i < one.length := (List.getElem?_eq_some_iff.mp hx).1
    refine ⟨trivial, ?_⟩
    walk_at "dl"
    unfold dYes
    walk_at "dl"
    refine ⟨fun j acc M'' => M'' = M' ∧ ∃ bs2 : List Bool, acc = bs2.map D.bl ∧ bs2.length ≤ i * 1000 + j ∧ (bs2.all id = true ↔ (∀ x ∈ one.take i, ∀ y ∈ other, x ≠ y ∧ ord x y ∈ ps) ∧ ∀ y ∈ other.take j, x ≠ y ∧ ord x y ∈ ps), ⟨rfl, bs, rfl, by omega, by rw [hbs]; simp⟩, ?_, ?_⟩
    · rintro j d2 acc2 M'' hd2 ⟨rfl, bs2, rfl, hb2, hbs2⟩
      obtain ⟨y, hy, rfl⟩ := map_get hd2
      have hj : j < other.length := (List.getElem?_eq_some_iff.mp hy).1
      refine ⟨trivial, ?_⟩
      walk_at "dl"
      have fin : ∀ b : Bool, (b = true ↔ x ≠ y ∧ ord x y ∈ ps) → ((bs2.map D.bl).length < sizeLine ∧ M'' = M'' ∧ ∃ bs3 : List Bool, bs2.map D.bl ++ [D.bl b] = bs3.map D.bl ∧ bs3.length ≤ i * 1000 + (j + 1) ∧ (bs3.all id = true ↔ (∀ x ∈ one.take i, ∀ y ∈ other, x ≠ y ∧ ord x y ∈ ps) ∧ ∀ y ∈ other.take (j + 1), x ≠ y ∧ ord x y ∈ ps)) := fun b hb' => by
        refine ⟨by rw [List.length_map]; have : i * 1000 < 1000 * 1000 := Nat.mul_lt_mul_of_pos_right (by omega) (by omega); omega, rfl, bs2 ++ [b], by simp, by simp; omega, ?_⟩
        rw [List.all_append, Bool.and_eq_true, hbs2, mem_take_succ hy (fun y => x ≠ y ∧ ord x y ∈ ps)]
        simp only [List.all_cons, List.all_nil, Bool.and_true, id_eq, hb']
        exact and_assoc
      by_cases hxy : x = y
      · subst hxy
        walk_at "dl"
        obtain ⟨f1, _, f2⟩ := fin false (by simp)
        exact ⟨f1, trivial, f2⟩
      · repeat first | walk_at "dl" | simp only [hxy]
        refine ⟨x, y, rfl, dIn_tup (by rfl) (prs_good ps) fun b hb' => ?_⟩
        rw [pr_mem] at hb'
        exact fin b (by rw [hb']; simp [hxy])
    · rintro acc2 M'' ⟨rfl, bs2, rfl, hb2, hbs2⟩
      refine ⟨trivial, rfl, bs2, rfl, by simp at hb2; omega, ?_⟩
      rw [hbs2, mem_take_succ hx (fun x => ∀ y ∈ other, x ≠ y ∧ ord x y ∈ ps), List.length_map, List.take_length]
  · rintro acc M' ⟨rfl, bs, rfl, hb, hbs⟩
    refine ⟨trivial, bs, rfl, HQ _ ?_⟩
    rw [hbs, List.length_map, List.take_length]
    rfl
end K19

open PySem PySem.Spec PyProof.Rows L2 DL
namespace K19
theorem ltS_asymm {a b : Str} (h : ltS a b = true) : ltS b a = false := by
  unfold ltS at *
  rw [decide_eq_true_eq] at h
  rw [decide_eq_false_iff_not]
  exact List.lt_asymm h
theorem ltS_total {a b : Str} (h : ltS a b = false) (h2 : ltS b a = false) : a = b := by
  unfold ltS at *
  rw [decide_eq_false_iff_not] at h h2
  have e : a.cps.toList = b.cps.toList := List.le_antisymm h2 h
  have : a.cps = b.cps := by
    rw [← Array.toArray_toList (xs := a.cps), ← Array.toArray_toList (xs := b.cps), e]
  cases a; cases b
  exact congrArg Str.mk this
theorem ord_mm {x y : Str} (h : x ≠ y) : ((if ltS y x = true then y else x), (if ltS x y = true then y else x)) = ord x y := by
  unfold ord
  cases e : ltS x y with
  | true => rw [ltS_asymm e]; rfl
  | false =>
    cases e2 : ltS y x with
    | true => rfl
    | false => exact absurd (ltS_total e e2) h
theorem ord_comm {x y : Str} (h : x ≠ y) : ord x y = ord y x := by
  unfold ord
  cases e : ltS x y with
  | true => rw [ltS_asymm e]; rfl
  | false =>
    cases e2 : ltS y x with
    | true => rfl
    | false => exact absurd (ltS_total e e2) h
theorem law_due (S : Nat → DSp) (ds : List D) (M : Mem) (Q : QE) (E : EX) (H : spApart ds M Q E) : wSs S ir__law_due { nx := fun _ M' => Q .non M', rt := Q } E (startD 5 ds) M := by
  obtain ⟨ps, one, other, rfl, l1, l2, HQ⟩ := H
  unfold ir__law_due lp__law_due_1
  walk_at "dl"
  unfold dFor diAny
  walk_at "dl"
  unfold walkD
  refine ⟨fun i e M' => M' = M ∧ (∃ u v, e = [some (.tup (ps.map pr)), some (.tup (one.map D.str)), some (.tup (other.map D.str)), u, v]) ∧ ∀ x ∈ one.take i, ∀ y ∈ other, x ≠ y ∧ ord x y ∈ ps, ⟨rfl, ⟨_, _, rfl⟩, by simp⟩, ?_, ?_⟩
  · rintro i d e M' hd ⟨rfl, ⟨u, v, rfl⟩, hW⟩
    obtain ⟨x, hx, rfl⟩ := map_get hd
    refine ⟨trivial, ?_⟩
    unfold lp__law_due_0
    walk_at "dl"
    unfold dFor diAny
    walk_at "dl"
    unfold walkD
    refine ⟨fun j e M'' => M'' = M' ∧ (∃ v, e = [some (.tup (ps.map pr)), some (.tup (one.map D.str)), some (.tup (other.map D.str)), some (.str x), v]) ∧ ∀ y ∈ other.take j, x ≠ y ∧ ord x y ∈ ps, ⟨rfl, ⟨_, rfl⟩, by simp⟩, ?_, ?_⟩
    · rintro j d e M'' hd2 ⟨rfl, ⟨v, rfl⟩, hW2⟩
      obtain ⟨y, hy, rfl⟩ := map_get hd2
      refine ⟨trivial, ?_⟩
      have mx : x ∈ one := List.mem_of_getElem? hx
      have my : y ∈ other := List.mem_of_getElem? hy
      have bad : ¬ (x ≠ y ∧ ord x y ∈ ps) → Q (.bl false) M'' := fun hh => HQ false (by
        constructor
        · intro z; cases z
        · intro z; exact absurd (z x mx y my) hh)
      by_cases hxy : x = y
      · subst hxy
        walk_at "dl"
        exact bad (by simp)
      · repeat first | walk_at "dl" | simp only [hxy]
        refine ⟨by decide, dIn_tup (x := pr ((if ltS y x = true then y else x), (if ltS x y = true then y else x))) (by rfl) (prs_good ps) fun b hb => ?_⟩
        rw [pr_mem, ord_mm hxy] at hb
        cases b with
        | true =>
          walk_at "dl"
          refine ⟨trivial, ⟨_, rfl⟩, (mem_take_succ hy (fun y => x ≠ y ∧ ord x y ∈ ps)).mpr ⟨hW2, hxy, hb.mp rfl⟩⟩
        | false =>
          walk_at "dl"
          refine bad fun z => ?_
          have := hb.mpr z.2
          cases this
    · rintro e M'' ⟨rfl, ⟨v, rfl⟩, hW2⟩
      refine ⟨trivial, rfl, ⟨_, _, rfl⟩, (mem_take_succ hx (fun x => ∀ y ∈ other, x ≠ y ∧ ord x y ∈ ps)).mpr ⟨hW, ?_⟩⟩
      rwa [List.length_map, List.take_length] at hW2
  · rintro e M' ⟨rfl, ⟨u, v, rfl⟩, hW⟩
    refine ⟨trivial, HQ true ?_⟩
    rw [List.length_map, List.take_length] at hW
    exact ⟨fun _ => hW, fun _ => rfl⟩
end K19

open PySem PySem.Spec PyProof.Rows L2 DL
namespace K19
theorem ers {α β : Type} (f : α → β) : ∀ (l : List α) (k : Nat), (l.map f).eraseIdx k = (l.eraseIdx k).map f
  | [], _ => rfl
  | _ :: _, 0 => rfl
  | a :: l, k + 1 => by rw [List.map_cons, List.eraseIdx_cons_succ, List.eraseIdx_cons_succ, List.map_cons, ers f l k]
def wOk (w : Str) : Prop := w.length ≤ 10 ∧ ∀ c ∈ w.cps.toList, c < 200
abbrev SG : Str := "abcdefghijklmnopqrstuvwxyzABCDEFGHIJKLMNOPQRSTUVWXYZ0123456789+-*=<>&|~^"
theorem sg_small : ∀ c ∈ SG.cps.toList, c < 200 := by decide +kernel
theorem sg_len : SG.length = 72 := by decide +kernel
theorem sg_mem {d : D} (h : d ∈ DL.signs SG) : ∃ c ∈ SG.cps.toList, d = sg c := by
  unfold DL.signs at h
  obtain ⟨c, hc, rfl⟩ := List.mem_map.mp h
  exact ⟨c, hc, rfl⟩
def good6 (c : Nat) : Bool := [97, 98, 99, 101, 102, 103].contains c
theorem good6_count : SG.cps.toList.countP good6 = 6 := by decide +kernel
theorem good6_fine {c : Nat} {w : Str} (h : good6 c = true) (hc : c ∈ w.cps.toList) : w ≠ ("holds" : Str) ∧ ∃ c ∈ w.cps.toList, c ∉ digits.cps.toList := by
  have hm : c ∈ [97, 98, 99, 101, 102, 103] := by unfold good6 at h; simpa using h
  constructor
  · rintro rfl
    revert hc
    revert hm
    have : ∀ c ∈ [97, 98, 99, 101, 102, 103], ¬ c ∈ ((Str.ofString "holds").cps.toList) := by decide +kernel
    exact fun a b => this c a b
  · have : ∀ c ∈ [97, 98, 99, 101, 102, 103], ¬ c ∈ digits.cps.toList := by decide +kernel
    exact ⟨c, hc, this c hm⟩
def spWords : DSp := fun ds M Q E => ∃ (h : Addr) (n : Nat) (T : Int), ds = [.ref h, .int n] ∧ n ≤ 6 ∧ T < 2 ^ 39 ∧ Hand M h T ∧
  ∀ p (ws : List Str) M', M' p = some (.lst (ws.map D.str)) → ws.length = n → (∀ w ∈ ws, wOk w) → Hand M' h (T + 20) → Ex h M M' → Q (.ref p) M'
theorem word_ok {stem : Str} {a : Int} {c : Nat} (h1 : stem.length ≤ 4) (h2 : ∀ c ∈ stem.cps.toList, c < 200) (hc : c < 200) : wOk (cutS stem none (some a) ++ ⟨#[c]⟩ ++ cutS stem (some a) none) := by
  have l1 : (cutS stem none (some a)).length ≤ stem.length := cut_len
  have l2 : (cutS stem (some a) none).length ≤ stem.length := cut_len
  have l3 : (⟨#[c]⟩ : Str).length = 1 := rfl
  refine ⟨by rw [app_len, app_len]; omega, fun d hd => ?_⟩
  rw [app_list, app_list, List.mem_append, List.mem_append] at hd
  rcases hd with (hd | hd) | hd
  · exact h2 d (cut_mem hd)
  · have : d = c := by simpa using hd
    omega
  · exact h2 d (cut_mem hd)
theorem word_mem {stem : Str} {a : Int} {c : Nat} : c ∈ (cutS stem none (some a) ++ ⟨#[c]⟩ ++ cutS stem (some a) none).cps.toList := by
  rw [app_list, app_list, List.mem_append, List.mem_append]
  exact .inl (.inr (by simp))
theorem law_words (ds : List D) (M : Mem) (Q : QE) (E : EX) (H : spWords ds M Q E) : wSs (Sof [spTake, spFine, spPick]) ir__law_words { nx := fun _ M' => Q .non M', rt := Q } E (startD 9 ds) M := by
  obtain ⟨h, n, T, rfl, hn, hT, hH, HQ⟩ := H
  have s24 : sizeLine = 2 ^ 24 := rfl
  have take : ∀ (m : Int) (M1 : Mem) (T1 : Int) (R : QE) (E : EX), Hand M1 h T1 → 0 < m → m < 2 ^ 62 → T1 < 2 ^ 40 → (∀ (r : Nat) M', (r : Int) < m → Hand M' h (T1 + 1) → Ex h M1 M' → R (.int r) M') → Sof [spTake, spFine, spPick] 0 [.ref h, .int m] M1 R E := fun m M1 T1 R E a b c d k =>
    ⟨h, m, T1, rfl, b, c, d, a, fun r M' h0 h1 h2 h3 => by
      obtain ⟨j, rfl⟩ : ∃ j : Nat, r = (j : Int) := ⟨r.toNat, by omega⟩
      exact k j M' h1 h2 h3⟩
  unfold ir__law_words
  walk_at "dl"
  unfold dNew dLc diRng1
  walk_at "dl"
  refine ⟨trivial, take 5 M T _ _ hH (by omega) (by omega) (by omega) fun r M1 hr H1 X1 => ⟨by omega, ?_⟩⟩
  refine ⟨fun i acc M' => Hand M' h (T + 1 + i) ∧ Ex h M M' ∧ ∃ cs : List Nat, acc = cs.map sg ∧ cs.length = i ∧ ∀ c ∈ cs, c < 200, ⟨by simpa using H1, X1, [], rfl, rfl, by simp⟩, ?_, ?_⟩
  · rintro i d acc M' hd ⟨HH, HX, cs, rfl, hl, hc⟩
    have hi : i < (rng 0 r).length := (List.getElem?_eq_some_iff.mp hd).1
    have hi' : i < r := by simpa [rng] using hi
    refine ⟨trivial, ?_⟩
    walk_at "dl"
    unfold dYes
    walk_at "dl"
    refine ⟨h, _, DL.signs SG, _, rfl, .inl ⟨SG, rfl, rfl⟩, by rw [signs_len, sg_len]; omega, by rw [signs_len, sg_len]; omega, by omega, HH, fun d M2 hd2 H2 X2 => ?_⟩
    obtain ⟨c, hc1, rfl⟩ := sg_mem hd2
    refine ⟨by rw [List.length_map]; omega, by push_cast; rw [← Int.add_assoc]; exact H2, HX.trans X2, cs ++ [c], by simp, by simp [hl], fun x hx => ?_⟩
    rcases List.mem_append.mp hx with hx | hx
    · exact hc x hx
    · rw [List.mem_singleton] at hx; subst hx; exact sg_small _ hc1
  · rintro acc M2 ⟨HH, HX, cs, rfl, hl, hc⟩
    have hr4 : (rng 0 r).length = r := by simp [rng]
    have hr5 : r ≤ 4 := by omega
    rw [show ((r : Int).toNat) = r from rfl, hr4] at HH hl
    refine ⟨trivial, fun p hp => ?_⟩
    have HH := (HH.new (o := .lst (cs.map sg)) hp).mono (T' := T + 5) (by omega)
    have HX : Ex h M (wr M2 p (.lst (cs.map sg))) := HX.trans (Ex.new hp)
    have e1 : cs.map sg = (cs.map fun c => (⟨#[c]⟩ : Str)).map D.str := by rw [List.map_map]; rfl
    refine ⟨cs.map sg, wr_same, cs.map fun c => ⟨#[c]⟩, e1, ?_, ?_⟩
    · have e2 : ((cs.map fun c => (⟨#[c]⟩ : Str)).map (·.length)).sum = cs.length := by
        rw [List.map_map]
        have : ((fun x : Str => x.length) ∘ fun c : Nat => (⟨#[c]⟩ : Str)) = fun _ => 1 := rfl
        rw [this]
        clear hl hc e1 HX HH
        induction cs with
        | nil => rfl
        | cons c cs ih => rw [List.map_cons, List.sum_cons, ih, List.length_cons]; omega
      rw [e2]
      have : (Str.ofString "").length = 0 := by decide +kernel
      rw [this]
      omega
    rw [join_sing]
    have k1 : (⟨cs.toArray⟩ : Str).length ≤ 4 := by show cs.toArray.size ≤ 4; simp; omega
    have k2 : ∀ c ∈ (⟨cs.toArray⟩ : Str).cps.toList, c < 200 := by simpa using hc
    generalize (⟨cs.toArray⟩ : Str) = stem at k1 k2
    generalize wr M2 p (.lst (cs.map sg)) = M3 at HH HX
    clear e1 hc hl hp
    walk_at "dl"
    refine ⟨by omega, take _ M3 _ _ _ HH (by omega) (by omega) (by omega) fun a M4 ha H4 X4 => ⟨by omega, fun pn hpn => ⟨by omega, trivial, ?_⟩⟩⟩
    have hnn := H4.ne hpn
    have X4 : Ex h M M4 := HX.trans X4
    have nn : M pn = none := X4.none hpn hnn
    have H5 := H4.new (o := .lst []) hpn
    have X5 : Ex h M (wr M4 pn (.lst [])) := X4.trans (Ex.new hpn)
    have w5 : wr M4 pn (.lst []) pn = some (.lst []) := wr_same
    generalize wr M4 pn (.lst []) = M5 at H5 X5 w5
    unfold diAny
    walk_at "dl"
    unfold walkD
    refine ⟨fun i acc M' => Hand M' h (T + 5 + 1) ∧ Ex h M M' ∧ M' pn = some (.lst []) ∧ ∃ fs : List Nat, acc = fs.map sg ∧ fs.length ≤ i ∧ (∀ c ∈ fs, c < 200) ∧ (SG.cps.toList.take i).countP good6 ≤ fs.length, ⟨H5, X5, w5, [], rfl, Nat.le_refl _, by simp, by simp⟩, ?_, ?_⟩
    · rintro i d acc M' hd ⟨HH, HX, hp5, fs, rfl, hl, hc, hg⟩
      obtain ⟨c, hc1, rfl⟩ := signs_get hd
      have hi : i < 72 := by have := (List.getElem?_eq_some_iff.mp hc1).1; have e := sg_len; exact Nat.lt_of_lt_of_eq this e
      have cm : c < 200 := sg_small c (List.mem_of_getElem? hc1)
      refine ⟨trivial, ?_⟩
      walk_at "dl"
      have W := word_ok (a := (a : Int)) k1 k2 cm
      have Z : ∀ z : Str, wOk z → z.length ≤ 10 := fun z h => h.1
      have l1 : (cutS stem none (some (a : Int))).length ≤ stem.length := cut_len
      have l2 : (cutS stem (some (a : Int)) none).length ≤ stem.length := cut_len
      have l3 : (⟨#[c]⟩ : Str).length = 1 := rfl
      refine ⟨by omega, by omega, by omega, by rw [app_len]; omega, _, rfl, Nat.lt_of_le_of_lt W.1 (by omega), fun b M'' hb hs => ?_⟩
      have e1 : SG.cps.toList.take (i + 1) = SG.cps.toList.take i ++ [c] := by rw [List.take_add_one, hc1]; rfl
      have H6 := HH.sub hs
      have X6 : Ex h M M'' := HX.trans (Ex.sub hs)
      cases b with
      | true =>
        walk_at "dl"
        refine ⟨by rw [List.length_map]; omega, H6, X6, hs _ _ hp5, fs ++ [c], by simp, by simp; omega, fun x hx => ?_, ?_⟩
        · rcases List.mem_append.mp hx with hx | hx
          · exact hc x hx
          · rw [List.mem_singleton] at hx; subst hx; exact cm
        · rw [e1, List.countP_append, List.length_append]
          have : [c].countP good6 ≤ [c].length := List.countP_le_length
          omega
      | false =>
        walk_at "dl"
        refine ⟨H6, X6, hs _ _ hp5, fs, rfl, by omega, hc, ?_⟩
        rw [e1, List.countP_append]
        cases hg6 : good6 c with
        | false => simp [hg6]; exact hg
        | true => exact absurd (hb.mpr (good6_fine hg6 word_mem)) (by simp)
    · rintro acc M6 ⟨HH, HX, hp6, fs, rfl, hl, hc, hg⟩
      have hg' : 6 ≤ fs.length := by
        rw [signs_len] at hg
        have : SG.cps.toList.take SG.length = SG.cps.toList := List.take_length
        rw [this, good6_count] at hg
        exact hg
      rw [signs_len, sg_len] at hl
      refine ⟨trivial, fun pf hpf => ?_⟩
      have hfn : pf ≠ pn := fun z => by subst z; rw [hpf] at hp6; cases hp6
      have hfh := HH.ne hpf
      have nf : M pf = none := HX.none hpf hfh
      unfold lp__law_words_0
      walk_at "dl"
      unfold dFor diRng1
      walk_at "dl"
      refine ⟨⟨by omega, by omega⟩, fun i e M' => (∃ u v, e = [some (.ref h), some (.int (n : Int)), some (.str SG), some (.str stem), some (.ref pf), u, some (.int (a : Int)), some (.ref pn), v]) ∧ Hand M' h (T + 6 + i) ∧ Ex h M M' ∧
        (∃ fs : List Nat, M' pf = some (.lst (fs.map sg)) ∧ 6 ≤ fs.length + i ∧ fs.length ≤ 72 ∧ ∀ c ∈ fs, c < 200) ∧ ∃ ws : List Str, M' pn = some (.lst (ws.map D.str)) ∧ ws.length = i ∧ ∀ w ∈ ws, wOk w,
        ⟨⟨_, _, rfl⟩, (HH.new hpf).mono (by omega), HX.trans (Ex.new hpf), ⟨fs, wr_same, by omega, hl, hc⟩, [], by rw [wr_ne (Ne.symm hfn)]; exact hp6, rfl, by simp⟩, ?_, ?_⟩
      · clear HH HX hp6 hl hc hg hg' hpf fs
        rintro i d e M' hd ⟨⟨u, v, rfl⟩, HH, HX, ⟨fs, hf, hfl, hf72, hfc⟩, ws, hw, hwl, hwo⟩
        have hi : i < n := by
          have := (List.getElem?_eq_some_iff.mp hd).1
          simpa [rng] using this
        refine ⟨trivial, ?_⟩
        walk_at "dl"
        refine ⟨.inl ⟨trivial, _, hf⟩, ?_⟩
        rw [lenD_ref hf]
        refine take _ M' _ _ _ HH (by rw [List.length_map]; omega) (by rw [List.length_map]; omega) (by omega) fun r M7 hr H7 X7 => ?_
        have hr' : r < (fs.map sg).length := by omega
        have hf7 := X7 pf _ hfh hf
        have hw7 := X7 pn _ hnn hw
        have hr2 : r < fs.length := by simpa using hr'
        refine ⟨fs.map sg, r, sg fs[r], hf7, by omega, by omega, seqIx_nat hr', by rw [List.getElem?_map, List.getElem?_eq_getElem hr2]; rfl, ?_⟩
        have hw8 : wr M7 pf (.lst ((fs.map sg).eraseIdx r)) pn = some (.lst (ws.map D.str)) := by rw [wr_ne (Ne.symm hfn)]; exact hw7
        have H8 := H7.wr (o := .lst ((fs.map sg).eraseIdx r)) hfh
        have X8 : Ex h M (wr M7 pf (.lst ((fs.map sg).eraseIdx r))) := (HX.trans X7).wr' nf
        have f8 : wr M7 pf (.lst ((fs.map sg).eraseIdx r)) pf = some (.lst ((fs.map sg).eraseIdx r)) := wr_same
        generalize wr M7 pf (.lst ((fs.map sg).eraseIdx r)) = M8 at hw8 H8 X8 f8
        walk_at "dl"
        have l1 : (cutS stem none (some (a : Int))).length ≤ stem.length := cut_len
        have l2 : (cutS stem (some (a : Int)) none).length ≤ stem.length := cut_len
        have l3 : (⟨#[fs[r]]⟩ : Str).length = 1 := rfl
        have cm : fs[r] < 200 := hfc _ (List.getElem_mem hr2)
        refine ⟨.inl ⟨trivial, _, hw8⟩, by omega, by omega, by omega, by rw [app_len]; omega, ws.map D.str, hw8, by rw [List.length_map]; omega, ?_⟩
        refine ⟨⟨_, _, rfl⟩, (H8.wr hnn).mono (by push_cast; omega), X8.wr' nn, ⟨fs.eraseIdx r, by rw [wr_ne hfn, f8, ers], by rw [List.length_eraseIdx_of_lt hr2]; omega, by rw [List.length_eraseIdx_of_lt hr2]; omega, fun c hc => hfc c (List.mem_of_mem_eraseIdx hc)⟩, ws ++ [_], by rw [wr_same, List.map_append]; rfl, by rw [List.length_append, hwl]; rfl, fun w hw' => ?_⟩
        rcases List.mem_append.mp hw' with hw' | hw'
        · exact hwo w hw'
        · rw [List.mem_singleton] at hw'; subst hw'; exact word_ok k1 k2 cm
      · rintro e M' ⟨⟨u, v, rfl⟩, HH, HX, _, ws, hw, hwl, hwo⟩
        have hn' : (rng 0 ((n : Int).toNat)).length = n := by simp [rng]
        rw [hn'] at HH hwl
        refine ⟨trivial, ?_⟩
        walk_at "dl"
        exact HQ pn ws M' hw hwl hwo (HH.mono (by omega)) HX
end K19

open PySem PySem.Spec PyProof.Rows L2 DL
local macro_rules | `(tactic| walk_at "dl") => `(tactic| simp only [wSs, wS, DL.wE, DL.wT, DL.wL, wEs, wO, wC, wI, wG, wGs, dSeq, dAsg, dPar, dIf, dDrop, dSlot, dC, CD.d, dBin, boR, coR, dSub, dMod, dFdiv, dTest, dChain, bQ, dNext, dRet, dRetN, diRng1, diRng2, diAny, diEnum, walkD, dYes, tTuple, dgName, dgSub, dgTup, dgCons, dgNil, dLst, dTup, dCons, dNil, dIfE, dAndT, dOrT, dNotT, dAnd, dOr, dNot, dTruth, dTru_non, dTru_bl, dTru_int, dTru_str, dTru_tup, dTru_rl, dNeg, dSlice, dNoPart, dPart, dCall, dMt, dFnD, isTy, BF.rd, BT.rd, BM.rd, BM.ty, BF.rt, BT.rt, dTmp, startD, getS, setS, wipeS, List.map_cons, List.map_nil, List.replicate, List.length_cons, List.length_nil, List.cons_append, List.nil_append, List.append_nil, dI_int, dAdd_int, dAdd_str, dAdd_tup, dIB_int, dLt_int, dLt_str, dEq_int, dEq_str, dNe_int, dNe_str, lenD_tup, lenD_rl, lenD_str, dMulA_int, dSl_str, ixN3_0, ixN3_1, ixN3_2, List.set_cons_zero, List.set_cons_succ, rAbs_int, rMin_int, rMax_int, rMin_str, rMax_str, dIx_wr, lenD_wr, atI_0, atI_1, atI_2, Option.some.injEq, exists_eq_left', decide_true, decide_false, eq_self, ite_true, ite_false, if_true, if_false, Bool.false_eq_true, Bool.not_true, Bool.not_false, Nat.reduceAdd, Nat.reduceSub])
namespace K19
def spLaw : DSp := fun ds M Q E => ∃ ns : List Int, ds = [.rl (ns.map D.int)] ∧ ns.length ≤ 63 ∧ ∀ M', Q (.bl true) M'
abbrev SL : Nat → DSp := Sof [spApart, spApart, spTake, spPick, spWords, spHand 0]
theorem apart_comm {ps : List (Str × Str)} {a b : List Str} : ApartP ps a b ↔ ApartP ps b a := by
  have go : ∀ a b : List Str, ApartP ps a b → ApartP ps b a := fun a b h x hx y hy => by
    obtain ⟨h1, h2⟩ := h y hy x hx
    exact ⟨Ne.symm h1, by rw [ord_comm (Ne.symm h1)]; exact h2⟩
  exact ⟨go a b, go b a⟩
theorem sl_take (h : Addr) (m : Int) (M1 : Mem) (T1 : Int) (R : QE) (E : EX) (a : Hand M1 h T1) (b : 0 < m) (c : m < 2 ^ 62) (d : T1 < 2 ^ 40) (k : ∀ (r : Nat) M', (r : Int) < m → Hand M' h (T1 + 1) → Ex h M1 M' → R (.int r) M') : SL 2 [.ref h, .int m] M1 R E :=
    ⟨h, m, T1, rfl, b, c, d, a, fun r M' h0 h1 h2 h3 => by
      obtain ⟨j, rfl⟩ : ∃ j : Nat, r = (j : Int) := ⟨r.toNat, by omega⟩
      exact k j M' h1 h2 h3⟩
theorem rng_len {n : Nat} : (rng 0 n).length = n := by simp [rng]
theorem pick_row {h pN : Addr} {T : Int} {names : List Str} {M : Mem} {R : List D → Mem → Prop} {E : EX} {a0 a1 a3 a4 a5 a7 a8 a9 a10 a11 a12 a13 a14 a15 a16 : Option D} (nl : names.length = 6) (no : ∀ w ∈ names, wOk w) (hNh : pN ≠ h) (H : Hand M h T) (hT : T < 2 ^ 30) (hN : M pN = some (.lst (names.map D.str)))
    (k : ∀ (ss : List Str) M', ss.length ≤ 4 → (∀ w ∈ ss, wOk w) → Hand M' h (T + 5) → Ex h M M' → R (ss.map D.str) M') :
    dLc (diRng1 (dCons (dFnD (SL 2) [] (dCons (dSlot 2) (dCons (dC (.int 5)) dNil))) dNil)) (dgName 16) dYes (dFnD (SL 3) [] (dCons (dSlot 2) (dCons (dSlot 6) dNil))) [16] [a0, a1, some (.ref h), a3, a4, a5, some (.ref pN), a7, a8, a9, a10, a11, a12, a13, a14, a15, a16] M R E := by
  have s24 : sizeLine = 2 ^ 24 := rfl
  unfold dLc
  walk_at "dl"
  refine sl_take h 5 M T _ _ H (by omega) (by omega) (by omega) fun r M1 hr H1 X1 => ⟨by omega, ?_⟩
  refine ⟨fun i acc M' => Hand M' h (T + 1 + i) ∧ Ex h M M' ∧ ∃ ss : List Str, acc = ss.map D.str ∧ ss.length = i ∧ ∀ w ∈ ss, wOk w, ⟨by simpa using H1, X1, [], rfl, rfl, by simp⟩, ?_, ?_⟩
  · rintro i d acc M' hd ⟨HH, HX, ss, rfl, hl, hc⟩
    have hi : i < r := by
      have := (List.getElem?_eq_some_iff.mp hd).1
      rwa [show ((r : Int).toNat) = r from rfl, rng_len] at this
    refine ⟨trivial, h, .ref pN, names.map D.str, _, rfl, .inr (.inl ⟨pN, rfl, hNh, HX pN _ hNh hN⟩), by rw [List.length_map]; omega, by rw [List.length_map]; omega, by omega, HH, fun d M2 hd2 H2 X2 => ?_⟩
    obtain ⟨w, hw, rfl⟩ := List.mem_map.mp hd2
    refine ⟨by rw [List.length_map]; omega, H2.mono (by push_cast; omega), HX.trans X2, ss ++ [w], by simp, by simp [hl], fun x hx => ?_⟩
    rcases List.mem_append.mp hx with hx | hx
    · exact hc x hx
    · rw [List.mem_singleton] at hx; subst hx; exact no _ hw
  · rintro acc M2 ⟨HH, HX, ss, rfl, hl, hc⟩
    rw [show ((r : Int).toNat) = r from rfl, rng_len] at HH hl
    exact ⟨trivial, k ss M2 (by omega) hc (HH.mono (by omega)) HX⟩
theorem keep_row {one other : List Str} {M : Mem} {R : List D → Mem → Prop} {E : EX} {a0 a1 a2 a3 a4 a5 a6 a7 a8 a9 a12 a13 a14 a15 a16 : Option D} (h4 : other.length ≤ 4) (no : ∀ w ∈ other, wOk w)
    (k : ∀ (ss : List Str), ss.length ≤ 4 → (∀ w ∈ ss, wOk w) → R (ss.map D.str) M) :
    dLc (diAny (dSlot 11)) (dgName 9) (dTest (dBin (dIn true) (dSlot 9) (dSlot 10))) (dSlot 9) [9] [a0, a1, a2, a3, a4, a5, a6, a7, a8, a9, some (.tup (one.map D.str)), some (.tup (other.map D.str)), a12, a13, a14, a15, a16] M R E := by
  have s24 : sizeLine = 2 ^ 24 := rfl
  unfold dLc
  walk_at "dl"
  refine ⟨fun i acc M' => M' = M ∧ ∃ ss : List Str, acc = ss.map D.str ∧ ss.length ≤ i ∧ ∀ w ∈ ss, wOk w, ⟨rfl, [], rfl, Nat.le_refl _, by simp⟩, ?_, ?_⟩
  · rintro i d acc M' hd ⟨rfl, ss, rfl, hl, hc⟩
    obtain ⟨w, hw, rfl⟩ := map_get hd
    have hi : i < 4 := by have := (List.getElem?_eq_some_iff.mp hw).1; omega
    have hwm := List.mem_of_getElem? hw
    refine ⟨trivial, ?_⟩
    walk_at "dl"
    refine dIn_tup (by rfl) (goodL_all.mpr fun x hx => by obtain ⟨y, _, rfl⟩ := List.mem_map.mp hx; rfl) fun b hb => ?_
    cases b with
    | true =>
      walk_at "dl"
      exact ⟨trivial, ss, rfl, by omega, hc⟩
    | false =>
      walk_at "dl"
      refine ⟨by rw [List.length_map]; omega, trivial, ss ++ [w], by simp, by simp; omega, fun x hx => ?_⟩
      rcases List.mem_append.mp hx with hx | hx
      · exact hc x hx
      · rw [List.mem_singleton] at hx; subst hx; exact no _ hwm
  · rintro acc M2 ⟨rfl, ss, rfl, hl, hc⟩
    rw [List.length_map] at hl
    exact ⟨trivial, k ss (by omega) hc⟩
end K19

open PySem PySem.Spec PyProof.Rows L2 DL
namespace K19
theorem shw_row {ss : List Str} (h : ∀ w ∈ ss, wOk w) (hl : ss.length ≤ 36) : Shw (.tup (ss.map D.str)) 4000 := by
  refine (shw_tup (n := 102) fun x hx => ?_).le (by rw [List.length_map]; omega)
  obtain ⟨w, hw, rfl⟩ := List.mem_map.mp hx
  exact shw_str (h w hw).1 (h w hw).2
theorem shw_prs {ps : List (Str × Str)} (h : ∀ p ∈ ps, wOk p.1 ∧ wOk p.2) (hl : ps.length ≤ 36) : Shw (.tup (ps.map pr)) 10000 := by
  refine (shw_tup (n := 211) fun x hx => ?_).le (by rw [List.length_map]; omega)
  obtain ⟨p, hp, rfl⟩ := List.mem_map.mp hx
  refine (shw_tup (n := 102) fun x hx => ?_).le (by show 2 * 104 + 3 ≤ 211; decide)
  simp only [List.mem_cons, List.not_mem_nil, or_false] at hx
  rcases hx with rfl | rfl
  · exact shw_str (h p hp).1.1 (h p hp).1.2
  · exact shw_str (h p hp).2.1 (h p hp).2.2
theorem row_good (ss : List Str) : goodL (ss.map D.str) 63 = true := goodL_all.mpr fun x hx => by obtain ⟨y, _, rfl⟩ := List.mem_map.mp hx; rfl
abbrev tri (ps : List (Str × Str)) (one other : List Str) : D := .tup [.tup (ps.map pr), .tup (one.map D.str), .tup (other.map D.str)]
theorem tri_good (ps : List (Str × Str)) (one other : List Str) : good (tri ps one other) 64 = true := by
  have h1 : good (.tup (ps.map pr)) 63 = true := by
    unfold good
    exact goodL_all.mpr fun x hx => by
      obtain ⟨p, _, rfl⟩ := List.mem_map.mp hx
      rfl
  have h2 : ∀ ss : List Str, good (.tup (ss.map D.str)) 63 = true := fun ss => by
    unfold good
    exact goodL_all.mpr fun x hx => by
      obtain ⟨p, _, rfl⟩ := List.mem_map.mp hx
      rfl
  show (good _ 63 && (good _ 63 && (good _ 63 && true))) = true
  rw [h1, h2, h2]
  rfl
theorem rRepr_tri {ps : List (Str × Str)} {one other : List Str} {M : Mem} {Q : QE} (h : ∀ p ∈ ps, wOk p.1 ∧ wOk p.2) (hl : ps.length ≤ 36) (h1 : ∀ w ∈ one, wOk w) (l1 : one.length ≤ 4) (h2 : ∀ w ∈ other, wOk w) (l2 : other.length ≤ 4) (q : Q (.str (shD (tri ps one other))) M) : rRepr [tri ps one other] M Q := by
  refine rRepr_good (n := 40000) (tri_good ps one other) ((shw_tup (n := 10000) fun x hx => ?_).le (by show 3 * 10002 + 3 ≤ 40000; decide)) (by decide) q
  simp only [List.mem_cons, List.not_mem_nil, or_false] at hx
  rcases hx with rfl | rfl | rfl
  · exact shw_prs h hl
  · exact (shw_row h1 (by omega)).le (by decide)
  · exact (shw_row h2 (by omega)).le (by decide)
theorem sl_apart (i : Nat) (hi : i = 0 ∨ i = 1) {ps : List (Str × Str)} {one other : List Str} {M : Mem} {Q : QE} {E : EX} (l1 : one.length ≤ 4) (l2 : other.length ≤ 4) (k : ∀ b : Bool, (b = true ↔ ApartP ps one other) → Q (.bl b) M) : SL i [.tup (ps.map pr), .tup (one.map D.str), .tup (other.map D.str)] M Q E := by
  have : spApart [.tup (ps.map pr), .tup (one.map D.str), .tup (other.map D.str)] M Q E := ⟨ps, one, other, rfl, by omega, by omega, k⟩
  rcases hi with rfl | rfl
  · exact this
  · exact this
theorem law_round {DD : DEnds} {E : EX} {M : Mem} {h pN : Addr} {T : Int} {names : List Str} {ps : List (Str × Str)} {a0 a1 a3 a5 a7 a8 a9 a10 a11 a12 a13 a14 a15 a16 : Option D} (nl : names.length = 6) (no : ∀ w ∈ names, wOk w) (hNh : pN ≠ h) (H : Hand M h T) (hT : T < 2 ^ 20) (hN : M pN = some (.lst (names.map D.str)))
    (hp : ∀ p ∈ ps, wOk p.1 ∧ wOk p.2) (hpl : ps.length ≤ 36) (k : ∀ u1 u2 u3 u4 u5 u6 u7 u8 u9 u10 u11 u12 u13 u14 u15 u16 M', DD.nx [a0, u1, u2, u3, u4, u5, u6, u7, u8, u9, u10, u11, u12, u13, u14, u15, u16] M') :
    wS SL lp_law_0 DD E [a0, a1, some (.ref h), a3, some (.tup (ps.map pr)), a5, some (.ref pN), a7, a8, a9, a10, a11, a12, a13, a14, a15, a16] M := by
  have s24 : sizeLine = 2 ^ 24 := rfl
  unfold lp_law_0
  walk_at "dl"
  unfold dFor
  walk_at "dl"
  refine ⟨by omega, fun i e M' => (∃ v5 v10 v11 v12 v13 v14 v15 v16, e = [a0, a1, some (.ref h), a3, some (.tup (ps.map pr)), v5, some (.ref pN), a7, a8, a9, v10, v11, v12, v13, v14, v15, v16]) ∧ Hand M' h (T + 20 * i) ∧ M' pN = some (.lst (names.map D.str)), ⟨⟨_, _, _, _, _, _, _, _, rfl⟩, by simpa using H, hN⟩, ?_, ?_⟩
  · rintro i d e M1 hd ⟨⟨v5, v10, v11, v12, v13, v14, v15, v16, rfl⟩, H1, n1⟩
    have hi : i < 12 := by
      have := (List.getElem?_eq_some_iff.mp hd).1
      rwa [show (Int.toNat 12) = 12 from rfl, rng_len] at this
    refine ⟨trivial, ?_⟩
    walk_at "dl"
    refine pick_row nl no hNh H1 (by omega) n1 fun one M2 l1 o1 H2 X2 => ?_
    have n2 := X2 pN _ hNh n1
    try walk_at "dl"
    refine pick_row nl no hNh H2 (by omega) n2 fun other M3 l2 o2 H3 X3 => ?_
    have n3 := X3 pN _ hNh n2
    try walk_at "dl"
    refine sl_take h 2 M3 _ _ _ H3 (by omega) (by omega) (by omega) fun r M4 hr H4 X4 => ?_
    have n4 := X4 pN _ hNh n3
    clear H1 n1 X2 n2 H2 X3 n3 H3 X4 hd
    have nF : ∀ {p : Addr} {o : MO} {M : Mem}, M pN = some (.lst (names.map D.str)) → M p = none → wr M p o pN = some (.lst (names.map D.str)) := fun {p o M} a b => by
      have : pN ≠ p := fun z => by subst z; rw [a] at b; cases b
      rw [wr_ne this]; exact a
    rw [dEq_int]
    cases hz : decide ((r : Int) = 0)
    all_goals walk_at "dl"
    case' true => refine keep_row l2 o2 fun other l2 o2 => ?_
    all_goals
      try walk_at "dl"
      refine ⟨by omega, rRepr_tri hp hpl o1 l1 o2 l2 ?_⟩
      refine sl_apart 0 (.inl rfl) l1 l2 fun b1 hb1 => ?_
      refine sl_apart 0 (.inl rfl) l2 l1 fun b2 hb2 => ?_
      refine ⟨by omega, fun pF hpF => ?_⟩
      refine sl_apart 1 (.inr rfl) l1 l2 fun b3 hb3 => ?_
      obtain rfl : b1 = b3 := Bool.eq_iff_iff.mpr (hb1.trans hb3.symm)
      obtain rfl : b2 = b1 := Bool.eq_iff_iff.mpr (hb2.trans (apart_comm.trans hb3.symm))
      refine rRepr_bools wr_same ?_
      try walk_at "dl"
      refine ⟨by omega, fun p1 hp1 => ?_⟩
      refine rRepr_bools wr_same ?_
      walk_at "dl"
      refine ⟨by omega, sl_apart (one := []) 0 (.inl rfl) (by decide) l2 fun b4 hb4 => ?_⟩
      obtain rfl : b4 = true := hb4.mpr fun x hx => by cases hx
      simp only [dIs]
      walk_at "dl"
      refine ⟨by omega, sl_apart (other := []) 0 (.inl rfl) l2 (by decide) fun b5 hb5 => ?_⟩
      obtain rfl : b5 = true := hb5.mpr fun x hx y hy => by cases hy
      try simp only [dIs]
      walk_at "dl"
      refine ⟨by omega, rRepr_tri hp hpl o1 l1 o2 l2 ?_⟩
      walk_at "dl"
      exact ⟨⟨_, _, _, _, _, _, _, _, rfl⟩, ((H4.new hpF).new hp1).mono (by push_cast; omega), nF (nF n4 hpF) hp1⟩
  · rintro e M' ⟨⟨v5, v10, v11, v12, v13, v14, v15, v16, rfl⟩, _⟩
    exact ⟨trivial, k _ _ _ _ _ _ _ _ _ _ _ _ _ _ _ _ _⟩
end K19

open PySem PySem.Spec PyProof.Rows L2 DL
namespace K19
theorem enum_get {xs : List D} {i : Nat} {d : D} (h : ((enumD xs).map D.tup)[i]? = some d) : ∃ x, xs[i]? = some x ∧ d = .tup [.int (i : Nat), x] := by
  obtain ⟨t, ht, rfl⟩ := map_get h
  unfold enumD at ht
  obtain ⟨j, hj, rfl⟩ := map_get ht
  rw [List.getElem?_eq_some_iff] at hj
  obtain ⟨hlt, e⟩ := hj
  rw [List.getElem_range] at e
  subst e
  rw [List.length_range] at hlt
  exact ⟨xs[i], List.getElem?_eq_getElem hlt, by simp [List.getD, hlt]⟩
theorem cutG_mem {α : Type} {xs : List α} {lo hi : Option Int} {x : α} (h : x ∈ cutG xs lo hi) : x ∈ xs := List.mem_of_mem_drop (List.mem_of_mem_take h)
theorem cutG_len {α : Type} {xs : List α} {lo hi : Option Int} : (cutG xs lo hi).length ≤ xs.length := by
  unfold cutG
  rw [List.length_take, List.length_drop]
  omega
theorem law_every {DD : DEnds} {E : EX} {M : Mem} {h pN pE : Addr} {names : List Str} {a0 a1 a3 a4 a5 a8 a9 a10 a11 a12 a13 a14 a15 a16 : Option D} (nl : names.length = 6) (no : ∀ w ∈ names, wOk w) (hEh : pE ≠ h) (hNE : pN ≠ pE) (H : Hand M h 20) (hN : M pN = some (.lst (names.map D.str))) (hE : M pE = some (.lst []))
    (k : ∀ (ps : List (Str × Str)) u8 u9 M', ps.length ≤ 36 → (∀ p ∈ ps, wOk p.1 ∧ wOk p.2) → M' pE = some (.lst (ps.map pr)) → M' pN = some (.lst (names.map D.str)) → Hand M' h 20 → DD.nx [a0, a1, some (.ref h), a3, a4, a5, some (.ref pN), some (.ref pE), u8, u9, a10, a11, a12, a13, a14, a15, a16] M') :
    wS SL lp_law_1 DD E [a0, a1, some (.ref h), a3, a4, a5, some (.ref pN), some (.ref pE), a8, a9, a10, a11, a12, a13, a14, a15, a16] M := by
  have s24 : sizeLine = 2 ^ 24 := rfl
  unfold lp_law_1
  walk_at "dl"
  unfold dFor
  walk_at "dl"
  refine ⟨names.map D.str, hN, fun i e M' => (∃ v8 v9, e = [a0, a1, some (.ref h), a3, a4, a5, some (.ref pN), some (.ref pE), v8, v9, a10, a11, a12, a13, a14, a15, a16]) ∧ Hand M' h 20 ∧ M' pN = some (.lst (names.map D.str)) ∧
      ∃ ps : List (Str × Str), M' pE = some (.lst (ps.map pr)) ∧ ps.length ≤ i * 6 ∧ ∀ p ∈ ps, wOk p.1 ∧ wOk p.2, ⟨⟨_, _, rfl⟩, H, hN, [], hE, by simp, by simp⟩, ?_, ?_⟩
  · rintro i d e M1 hd ⟨⟨v8, v9, rfl⟩, H1, n1, ps, e1, pl, po⟩
    obtain ⟨x, hx, rfl⟩ := enum_get hd
    obtain ⟨w, hw, rfl⟩ := map_get hx
    have wm : wOk w := no _ (List.mem_of_getElem? hw)
    have hi : i < 6 := by have := (List.getElem?_eq_some_iff.mp hw).1; omega
    refine ⟨n1, ?_⟩
    walk_at "dl"
    refine ⟨trivial, .inl ⟨trivial, _, e1⟩, ?_⟩
    unfold dNew dLc
    walk_at "dl"
    refine ⟨names.map D.str, n1, fun pS hpS => ?_⟩
    have n2 : wr M1 pS (.lst (cutG (names.map D.str) (some ((i : Int) + 1)) none)) pN = some (.lst (names.map D.str)) := by
      have : pN ≠ pS := fun z => by subst z; rw [hpS] at n1; cases n1
      rw [wr_ne this]; exact n1
    have e2 : wr M1 pS (.lst (cutG (names.map D.str) (some ((i : Int) + 1)) none)) pE = some (.lst (ps.map pr)) := by
      have : pE ≠ pS := fun z => by subst z; rw [hpS] at e1; cases e1
      rw [wr_ne this]; exact e1
    have H2 := H1.new (o := .lst (cutG (names.map D.str) (some ((i : Int) + 1)) none)) hpS
    have s2 : wr M1 pS (.lst (cutG (names.map D.str) (some ((i : Int) + 1)) none)) pS = some (.lst (cutG (names.map D.str) (some ((i : Int) + 1)) none)) := wr_same
    generalize wr M1 pS (.lst (cutG (names.map D.str) (some ((i : Int) + 1)) none)) = M2 at n2 e2 H2 s2
    have cl : (cutG (names.map D.str) (some ((i : Int) + 1)) none).length ≤ 6 := by
      have := cutG_len (xs := names.map D.str) (lo := some ((i : Int) + 1)) (hi := none)
      rw [List.length_map, nl] at this
      exact this
    refine ⟨_, s2, fun q acc M' => M' = M2 ∧ ∃ qs : List (Str × Str), acc = qs.map pr ∧ qs.length ≤ q ∧ ∀ p ∈ qs, wOk p.1 ∧ wOk p.2, ⟨rfl, [], rfl, Nat.le_refl _, by simp⟩, ?_, ?_⟩
    · rintro q d acc M' hd2 ⟨rfl, qs, rfl, ql, qo⟩
      have hq : q < 6 := by have := (List.getElem?_eq_some_iff.mp hd2).1; omega
      obtain ⟨v, hv, rfl⟩ := List.mem_map.mp (cutG_mem (List.mem_of_getElem? hd2))
      refine ⟨s2, ?_⟩
      walk_at "dl"
      refine ⟨by omega, by rw [List.length_map]; omega, trivial, qs ++ [(w, v)], by simp, by simp; omega, fun x hx => ?_⟩
      rcases List.mem_append.mp hx with hx | hx
      · exact qo x hx
      · rw [List.mem_singleton] at hx; subst hx; exact ⟨wm, no v hv⟩
    · rintro acc M' ⟨rfl, qs, rfl, ql, qo⟩
      refine ⟨s2, fun pC hpC => ?_⟩
      have hCE : pE ≠ pC := fun z => by subst z; rw [hpC] at e2; cases e2
      have hCN : pN ≠ pC := fun z => by subst z; rw [hpC] at n2; cases n2
      refine ⟨ps.map pr, qs.map pr, by rw [wr_ne hCE]; exact e2, wr_same, by rw [List.length_map, List.length_map]; omega, ?_⟩
      refine ⟨⟨_, _, rfl⟩, (H2.new hpC).wr hEh, by rw [wr_ne hNE, wr_ne hCN]; exact n2, ps ++ qs, by rw [wr_same, List.map_append], by rw [List.length_append]; omega, fun x hx => ?_⟩
      rcases List.mem_append.mp hx with hx | hx
      · exact po x hx
      · exact qo x hx
  · rintro e M' ⟨⟨v8, v9, rfl⟩, H1, n1, ps, e1, pl, po⟩
    have hl : ((enumD (names.map D.str)).map D.tup).length = 6 := by simp [enumD, nl]
    rw [hl] at pl
    exact ⟨n1, k ps _ _ M' pl po e1 n1 H1⟩
end K19

open PySem PySem.Spec PyProof.Rows L2 DL
namespace K19
theorem rng_get {n i : Nat} {d : D} (h : (rng 0 n)[i]? = some d) : i < n ∧ d = .int (i : Int) := by
  unfold rng at h
  obtain ⟨j, hj, rfl⟩ := map_get h
  rw [List.getElem?_eq_some_iff] at hj
  obtain ⟨hlt, e⟩ := hj
  rw [List.getElem_range] at e
  subst e
  rw [List.length_range] at hlt
  exact ⟨hlt, by simp⟩
theorem law_law (ds : List D) (M : Mem) (Q : QE) (E : EX) (H : spLaw ds M Q E) : wSs SL ir_law { nx := fun _ M' => Q .non M', rt := Q } E (startD 17 ds) M := by
  obtain ⟨ns, rfl, hns, HQ⟩ := H
  have s24 : sizeLine = 2 ^ 24 := rfl
  unfold ir_law lp_law_2
  walk_at "dl"
  unfold dFor
  walk_at "dl"
  refine ⟨by split <;> split <;> omega, fun i e M' => ∃ u1 u2 u3 u4 u5 u6 u7 u8 u9 u10 u11 u12 u13 u14 u15 u16, e = [some (.rl (ns.map D.int)), u1, u2, u3, u4, u5, u6, u7, u8, u9, u10, u11, u12, u13, u14, u15, u16], ⟨_, _, _, _, _, _, _, _, _, _, _, _, _, _, _, _, rfl⟩, ?_, ?_⟩
  · rintro i d e M1 hd ⟨u1, u2, u3, u4, u5, u6, u7, u8, u9, u10, u11, u12, u13, u14, u15, u16, rfl⟩
    refine ⟨trivial, ?_⟩
    obtain ⟨hj, rfl⟩ := rng_get hd
    have hj : i < 1000 := by
      refine Nat.lt_of_lt_of_le hj ?_
      split <;> split <;> omega
    clear hd
    walk_at "dl"
    refine ⟨ns, (i : Int), rfl, by omega, by omega, fun h hh M2 X2 H2 => ?_⟩
    clear X2 hh
    refine ⟨h, 6, 0, rfl, by omega, by omega, H2, fun pw ws M3 hw hwl hwo H3 X3 => ?_⟩
    clear X3 H2
    refine ⟨ws.map D.str, hw, .inl ⟨ws, rfl, by omega, fun names hp hso pN hpN => ?_⟩⟩
    have nl : names.length = 6 := by rw [hp.length_eq, hwl]
    have no : ∀ w ∈ names, wOk w := fun w hw => hwo w (hp.mem_iff.mp hw)
    have hNh := H3.ne hpN
    have H4 := H3.new (o := .lst (names.map D.str)) hpN
    have n4 : wr M3 pN (.lst (names.map D.str)) pN = some (.lst (names.map D.str)) := wr_same
    generalize wr M3 pN (.lst (names.map D.str)) = M4 at H4 n4
    clear hpN H3 hw hwl hwo hp hso
    refine ⟨by omega, fun pE hpE => ?_⟩
    have hEh := H4.ne hpE
    have hNE : pN ≠ pE := fun z => by subst z; rw [hpE] at n4; cases n4
    have H5 := H4.new (o := .lst []) hpE
    have n5 : wr M4 pE (.lst []) pN = some (.lst (names.map D.str)) := by rw [wr_ne hNE]; exact n4
    have e5 : wr M4 pE (.lst []) pE = some (.lst []) := wr_same
    generalize wr M4 pE (.lst []) = M5 at H5 n5 e5
    clear hpE H4 n4
    refine ⟨by omega, trivial, ?_⟩
    refine law_every nl no hEh hNE (H5.mono (by omega)) n5 e5 fun ps u8 u9 M6 pl po e6 n6 H6 => ?_
    clear H5 n5 e5
    try walk_at "dl"
    refine ⟨by omega, fun pL hpL => ?_⟩
    have hLh := H6.ne hpL
    have hLN : pN ≠ pL := fun z => by subst z; rw [hpL] at n6; cases n6
    have hLE : pE ≠ pL := fun z => by subst z; rw [hpL] at e6; cases e6
    have H7 := H6.new (o := .lst [.int 1, .int 2, .int 4, .int 9, .int 99]) hpL
    refine ⟨h, .ref pL, [.int 1, .int 2, .int 4, .int 9, .int 99], 20, rfl, .inr (.inl ⟨pL, rfl, hLh, wr_same⟩), by decide, by decide, by decide, H7, fun sk M7 hsk H8 X8 => ?_⟩
    have n7 := X8 pN _ hNh (by rw [wr_ne hLN]; exact n6)
    have e7 := X8 pE _ hEh (by rw [wr_ne hLE]; exact e6)
    clear H7 X8 H6 n6 e6 hpL
    obtain ⟨s, rfl, hs, hs2⟩ : ∃ s : Int, sk = .int s ∧ 0 < s ∧ s < 100 := by
      simp only [List.mem_cons, List.not_mem_nil, or_false] at hsk
      rcases hsk with rfl | rfl | rfl | rfl | rfl
      · exact ⟨1, rfl, by omega, by omega⟩
      · exact ⟨2, rfl, by omega, by omega⟩
      · exact ⟨4, rfl, by omega, by omega⟩
      · exact ⟨9, rfl, by omega, by omega⟩
      · exact ⟨99, rfl, by omega, by omega⟩
    unfold dLc
    walk_at "dl"
    refine ⟨_, e7, fun q acc M' => Hand M' h (21 + q) ∧ M' pN = some (.lst (names.map D.str)) ∧ M' pE = some (.lst (ps.map pr)) ∧ ∃ qs : List (Str × Str), acc = qs.map pr ∧ qs.length ≤ q ∧ ∀ p ∈ qs, wOk p.1 ∧ wOk p.2, ⟨by simpa using H8, n7, e7, [], rfl, Nat.le_refl _, by simp⟩, ?_, ?_⟩
    · rintro q d acc M8 hd ⟨H9, n9, e9, qs, rfl, ql, qo⟩
      obtain ⟨p, hp, rfl⟩ := map_get hd
      have hq : q < ps.length := (List.getElem?_eq_some_iff.mp hp).1
      have pok := po _ (List.mem_of_getElem? hp)
      refine ⟨e9, ?_⟩
      walk_at "dl"
      refine sl_take h s M8 _ _ _ H9 hs (by omega) (by omega) fun r M9 hr HA XA => ?_
      have nA := XA pN _ hNh n9
      have eA := XA pE _ hEh e9
      have yes : ((qs.map pr).length < sizeLine ∧ Hand M9 h (21 + ((q + 1 : Nat) : Int)) ∧ M9 pN = some (.lst (names.map D.str)) ∧ M9 pE = some (.lst (ps.map pr)) ∧ ∃ qs2 : List (Str × Str), qs.map pr ++ [pr p] = qs2.map pr ∧ qs2.length ≤ q + 1 ∧ ∀ p ∈ qs2, wOk p.1 ∧ wOk p.2) := by
        refine ⟨by rw [List.length_map]; omega, HA.mono (by push_cast; omega), nA, eA, qs ++ [p], by simp, by simp; omega, fun x hx => ?_⟩
        rcases List.mem_append.mp hx with hx | hx
        · exact qo x hx
        · rw [List.mem_singleton] at hx; subst hx; exact pok
      have no' : (Hand M9 h (21 + ((q + 1 : Nat) : Int)) ∧ M9 pN = some (.lst (names.map D.str)) ∧ M9 pE = some (.lst (ps.map pr)) ∧ ∃ qs2 : List (Str × Str), qs.map pr = qs2.map pr ∧ qs2.length ≤ q + 1 ∧ ∀ p ∈ qs2, wOk p.1 ∧ wOk p.2) :=
        ⟨HA.mono (by push_cast; omega), nA, eA, qs, rfl, by omega, qo⟩
      rw [dIB_int]
      cases decide ((0 : Int) < (r : Int)) with
      | true =>
        walk_at "dl"
        exact yes
      | false =>
        walk_at "dl"
        cases decide (s = 1) with
        | true =>
          walk_at "dl"
          exact yes
        | false =>
          walk_at "dl"
          exact no'
    · rintro acc M8 ⟨H9, n9, e9, qs, rfl, ql, qo⟩
      rw [List.length_map] at ql H9
      refine ⟨e9, ?_⟩
      have fin : ∀ (qs : List (Str × Str)) (a1 a3 a5 a7 a8 a9 a10 a11 a12 a13 a14 a15 a16 : Option D), qs.length ≤ 36 → (∀ p ∈ qs, wOk p.1 ∧ wOk p.2) →
          wS SL lp_law_0 { nx := fun e M' => ∃ u1 u2 u3 u4 u5 u6 u7 u8 u9 u10 u11 u12 u13 u14 u15 u16, e = [some (.rl (ns.map D.int)), u1, u2, u3, u4, u5, u6, u7, u8, u9, u10, u11, u12, u13, u14, u15, u16], rt := Q, bk := fun e M' => Q (.bl true) M', ct := fun e M' => ∃ u1 u2 u3 u4 u5 u6 u7 u8 u9 u10 u11 u12 u13 u14 u15 u16, e = [some (.rl (ns.map D.int)), u1, u2, u3, u4, u5, u6, u7, u8, u9, u10, u11, u12, u13, u14, u15, u16] } E
            [some (.rl (ns.map D.int)), a1, some (.ref h), a3, some (.tup (qs.map pr)), a5, some (.ref pN), a7, a8, a9, a10, a11, a12, a13, a14, a15, a16] M8 := fun qs a1 a3 a5 a7 a8 a9 a10 a11 a12 a13 a14 a15 a16 hq1 hq2 =>
        law_round nl no hNh H9 (by omega) n9 hq2 hq1 fun u1 u2 u3 u4 u5 u6 u7 u8 u9 u10 u11 u12 u13 u14 u15 u16 M' => ⟨_, _, _, _, _, _, _, _, _, _, _, _, _, _, _, _, rfl⟩
      try walk_at "dl"
      cases decide (s = 99) with
      | true =>
        walk_at "dl"
        refine ⟨by omega, ?_⟩
        exact fin [] _ _ _ _ _ _ _ _ _ _ _ _ _ (by decide) (by simp)
      | false =>
        walk_at "dl"
        exact fin qs _ _ _ _ _ _ _ _ _ _ _ _ _ (by omega) qo
  · rintro e M1 ⟨u1, u2, u3, u4, u5, u6, u7, u8, u9, u10, u11, u12, u13, u14, u15, u16, rfl⟩
    exact ⟨trivial, HQ _⟩
end K19

open PySem PySem.Spec PyProof.Rows L2 DL
namespace K19
section
variable {P : Program} {w : World} {K : PySem.W.Frag} {mg : Str → Option Value} {base : Heap}
theorem F_order (free : ∀ n ∈ freeNames, mg n = none) (h : ∃ f fd, Has K mg d_in_order f fd) : FnF P w K mg base 1 "in_order" spOrder :=
  mkF (c := c_in_order) (ir := ir_in_order) (ps := ["one", "other"]) (S := Sof []) h rfl sc_in_order rfl ck_in_order (fun _ _ _ _ _ _ us hl => match us, hl with | [_, _], _ => rfl) (fun ds M Q E ⟨a, b, e, _⟩ => by rw [e]; rfl) (tab_of free rfl trivial) (law_order _)
theorem F_apart (free : ∀ n ∈ freeNames, mg n = none) (h : ∃ f fd, Has K mg d_are_apart f fd) (h1 : ∃ f fd, Has K mg d_in_order f fd) : FnF P w K mg base 2 "are_apart" spApart :=
  mkF (c := c_are_apart) (ir := ir_are_apart) (ps := ["apart", "one", "other"]) (S := Sof [spOrder]) h rfl sc_are_apart rfl ck_are_apart (fun _ _ _ _ _ _ us hl => match us, hl with | [_, _, _], _ => rfl) (fun ds M Q E ⟨a, b, c, e, _⟩ => by rw [e]; rfl) (tab_of free rfl ⟨by decide +kernel, F_order free h1, trivial⟩) law_apart
theorem F_take (free : ∀ n ∈ freeNames, mg n = none) (h : ∃ f fd, Has K mg d__law_take f fd) : FnF P w K mg base 1 "_law_take" spTake :=
  mkF (c := c__law_take) (ir := ir__law_take) (ps := ["_law_hand_here", "_law_many"]) (S := Sof []) h rfl sc__law_take rfl ck__law_take (fun _ _ _ _ _ _ us hl => match us, hl with | [_, _], _ => rfl) (fun ds M Q E ⟨a, b, c, e, _⟩ => by rw [e]; rfl) (tab_of free rfl trivial) (law_take _)
theorem F_hand (free : ∀ n ∈ freeNames, mg n = none) (h : ∃ f fd, Has K mg d__law_hand f fd) : FnF P w K mg base 1 "_law_hand" (spHand 0) :=
  mkF (c := c__law_hand) (ir := ir__law_hand) (ps := ["_law_script", "_law_k"]) (S := Sof []) h rfl sc__law_hand rfl ck__law_hand (fun _ _ _ _ _ _ us hl => match us, hl with | [_, _], _ => rfl) (fun ds M Q E ⟨a, b, e, _⟩ => by rw [e]; rfl) (tab_of free rfl trivial) (law_hand _)
theorem F_pick (free : ∀ n ∈ freeNames, mg n = none) (h : ∃ f fd, Has K mg d__law_pick f fd) (h1 : ∃ f fd, Has K mg d__law_take f fd) : FnF P w K mg base 2 "_law_pick" spPick :=
  mkF (c := c__law_pick) (ir := ir__law_pick) (ps := ["_law_hand_here", "_law_some"]) (S := Sof [spTake]) h rfl sc__law_pick rfl ck__law_pick (fun _ _ _ _ _ _ us hl => match us, hl with | [_, _], _ => rfl) (fun ds M Q E ⟨a, b, c, d, e, _⟩ => by rw [e]; rfl) (tab_of free rfl ⟨by decide +kernel, F_take free h1, trivial⟩) law_pick
theorem F_fine (free : ∀ n ∈ freeNames, mg n = none) (h : ∃ f fd, Has K mg d__law_fine f fd) : FnF P w K mg base 1 "_law_fine" spFine :=
  mkF (c := c__law_fine) (ir := ir__law_fine) (ps := ["_law_word"]) (S := Sof []) h rfl sc__law_fine rfl ck__law_fine (fun _ _ _ _ _ _ us hl => match us, hl with | [_], _ => rfl) (fun ds M Q E ⟨a, e, _⟩ => by rw [e]; rfl) (tab_of free rfl trivial) (law_fine _)
theorem F_words (free : ∀ n ∈ freeNames, mg n = none) (h : ∃ f fd, Has K mg d__law_words f fd) (h1 : ∃ f fd, Has K mg d__law_take f fd) (h2 : ∃ f fd, Has K mg d__law_fine f fd) (h3 : ∃ f fd, Has K mg d__law_pick f fd) : FnF P w K mg base 3 "_law_words" spWords :=
  mkF (c := c__law_words) (ir := ir__law_words) (ps := ["_law_hand_here", "_law_many"]) (S := Sof [spTake, spFine, spPick]) h rfl sc__law_words rfl ck__law_words (fun _ _ _ _ _ _ us hl => match us, hl with | [_, _], _ => rfl) (fun ds M Q E ⟨a, b, c, e, _⟩ => by rw [e]; rfl)
    (tab_of free rfl ⟨by decide +kernel, (F_take free h1).mono (by decide), by decide +kernel, (F_fine free h2).mono (by decide), by decide +kernel, F_pick free h3 h1, trivial⟩) law_words
theorem F_due (free : ∀ n ∈ freeNames, mg n = none) (h : ∃ f fd, Has K mg d__law_due f fd) : FnF P w K mg base 1 "_law_due" spApart :=
  mkF (c := c__law_due) (ir := ir__law_due) (ps := ["_law_pairs", "_law_one", "_law_other"]) (S := Sof []) h rfl sc__law_due rfl ck__law_due (fun _ _ _ _ _ _ us hl => match us, hl with | [_, _, _], _ => rfl) (fun ds M Q E ⟨a, b, c, e, _⟩ => by rw [e]; rfl) (tab_of free rfl trivial) (law_due _)
end
def fn : List He.DefD := [d_in_order, d_are_apart, d__law_hand, d__law_take, d__law_pick, d__law_fine, d__law_words, d__law_due, d_law]
def fa : List He.Fa := (fn.map fun d => He.Fa.glo d.name) ++ freeNames.map He.Fa.free
abbrev R : PySem.W.OpenRow := PySem.W.OpenLaw.row PySem.Challenge.rw_putinproofs_k19_names_apart
abbrev hk : PySem.W.Hook := He.hookD 4 fa fn
def ob (s : PySem.W.SharedT) : He.AlD := He.obsDG 4 fa fn (HandSHeadRun.getT s)
theorem ob_eq (s : PySem.W.SharedT) : ob s = hk.obs s.abs := He.obsDG_eq (HandSHeadRun.getT_eq s)
theorem run (w : World) : HandSHeadRun.RunEq R (PySem.W.view R.prog [10]) hk ob 400 ["in_order", "are_apart", "_law_hand", "_law_take", "_law_pick", "_law_fine", "_law_words", "_law_due"] w := by
  intro os
  kernel_rfl
theorem bindL : BindOk d_law ["_law_script"] := fun _ _ _ _ _ _ us hl => match us, hl with | [_], _ => rfl
theorem facts {P : Program} {w : World} {K : PySem.W.Frag} {h : Heap} {mg : Str → Option Value} {f : Addr} (X : K.In h) (G : h.Ns mainGlobals mg) (hfa : mg ("law" : Str) = some (.ref f)) (c : He.SaysD fa fn K) :
    ∃ fd : FuncData, (∀ (s : Shared) (v : Value), BindsTo s fd ⟨[v], []⟩ [("_law_script", v)]) ∧ ∀ base : Heap, K.In base → base.Ns mainGlobals mg → FnG P w K mg base 4 f fd ["_law_script"] spLaw := by
  have free := free_of X G c (by intro n hn; exact List.mem_append_right _ (List.mem_map_of_mem hn))
  have has : ∀ d ∈ fn, d.at_ = (d.name, none) → d.dfl = [] → d.kwd = [] → ∃ f fd, Has K mg d f fd := fun d hd e1 e2 e3 => has_of X G c hd (List.mem_append_left _ (List.mem_map_of_mem (f := fun d : He.DefD => He.Fa.glo d.name) hd)) e1 e2 e3
  have m : ∀ i (hi : i < fn.length), fn[i] ∈ fn := fun i hi => List.getElem_mem hi
  have h0 := has _ (m 0 (by decide)) rfl rfl rfl
  have h1 := has _ (m 1 (by decide)) rfl rfl rfl
  have h2 := has _ (m 2 (by decide)) rfl rfl rfl
  have h3 := has _ (m 3 (by decide)) rfl rfl rfl
  have h4 := has _ (m 4 (by decide)) rfl rfl rfl
  have h5 := has _ (m 5 (by decide)) rfl rfl rfl
  have h6 := has _ (m 6 (by decide)) rfl rfl rfl
  have h7 := has _ (m 7 (by decide)) rfl rfl rfl
  obtain ⟨f', fd, h8⟩ := has d_law (m 8 (by decide)) rfl rfl rfl
  have e : some (Value.ref f') = some (Value.ref f) := h8.2.symm.trans hfa
  cases e
  refine ⟨fd, fun s v => FunD.bindsA (ps := ["_law_script"]) h8.1 bindL s [v] rfl, fun base _ _ => ?_⟩
  exact mkG (c := c_law) (ir := ir_law) (S := SL) h8 rfl sc_law rfl ck_law (fun ds M Q E ⟨a, e, _⟩ => by rw [e]; rfl)
    (tab_of free rfl ⟨by decide +kernel, (F_apart free h1 h0).mono (by decide), by decide +kernel, (F_due free h7).mono (by decide), by decide +kernel, (F_take free h3).mono (by decide), by decide +kernel, (F_pick free h4 h3).mono (by decide), by decide +kernel, F_words free h6 h3 h5 h4, by decide +kernel, (F_hand free h2).mono (by decide), trivial⟩) law_law
end K19
open PySem PySem.W PySem.Calls PyProof.Rows
theorem PySem.Challenge.cw_putinproofs_k19_names_apart_holds : PySem.Challenge.rw_putinproofs_k19_names_apart.Holds := by
  w_on; o_law
  refine HandSHeadRun.head_any (r := OpenLaw.row PySem.Challenge.rw_putinproofs_k19_names_apart) (q := view (OpenLaw.row PySem.Challenge.rw_putinproofs_k19_names_apart).prog [10]) (H := K19.hk) (ob := K19.ob) (M := 400) (loose := ["in_order", "are_apart", "_law_hand", "_law_take", "_law_pick", "_law_fine", "_law_words", "_law_due"]) (d := HandSHeadRun.topDef (OpenLaw.row PySem.Challenge.rw_putinproofs_k19_names_apart).prog 10) (kwd := []) K19.ob_eq
    (by kernel_rfl) (fun s => by kernel_rfl) K19.run (by kernel_rfl) (by kernel_rfl) (by kernel_rfl) (by rfl) (by first | assumption | decide +kernel) (by decide +kernel) ⟨rfl, rfl, rfl, rfl, rfl, by decide +kernel⟩ ?hw ?hc
  case hw => w_witness2
  case hc =>
    refine DL.walkG (l := PySem.Challenge.rw_putinproofs_k19_names_apart) (n := 63) (k := 4) (x := "_law_script") rfl (by decide) (by kernel_rfl) ⟨rfl, by decide, by decide⟩ ?F
    intro w mg fa h Y G hmg0
    obtain ⟨K, KX, c⟩ := Y
    have hmg : mg ("law" : PySem.Str) = some (.ref fa) := by
      have e : (HandSHeadRun.topDef (OpenLaw.row PySem.Challenge.rw_putinproofs_k19_names_apart).prog 10).name = ("law" : PySem.Str) := by kernel_rfl
      rw [← e]
      exact hmg0
    obtain ⟨fd, hb, hF⟩ := K19.facts (P := (PySem.Challenge.rw_putinproofs_k19_names_apart).prog) (w := w) KX G hmg c
    exact ⟨K, fd, K19.spLaw, KX, hb, fun ns hl => ⟨ns, rfl, hl, fun _ => rfl⟩, hF⟩

