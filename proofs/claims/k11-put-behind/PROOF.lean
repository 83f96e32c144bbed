import PyProof.Rows.All
import Wide.All
import OpenK.AllK
import Wide.FinOn
import HandS.ForMost
import HandS.Exc
import PyProof.AutoSeq1
import PyProof.ListOps
import KE.DataEq
import HandS.Wide
import HandS.TupAny
import HandS.TupLe
import HandS.IsInst
import PyProof.ReprRoads
import HandS.Flow
import HandS.HeadEnd
import HandS.HeadHook2
import HandS.HeadHook4
import HandS.Head2
import HandS.Conv
import PyProof.Rows.ListStrD
import HandS.Style
import HandS.CallRecv
import KE.KRevSl
import HandS.SetKeys
import PyProof.Rows.SetObj
import KE.KDictPairs
import HandS.DictComp
import PyProof.CollectIter
import HandS.Zip
import HandS.ListItems
import HandS.SetBool
import KE.Datum
import PyProof.StrLawsRepr
import HandS.Codes
import HandS.Defaults
import HandS.MakeKwOnly
import PySem.Challenge.RW_putinproofs_k11_put_behind
set_option Elab.async false
set_option linter.all false
set_option maxRecDepth 100000
set_option maxHeartbeats 4000000
/-! The tree layer: values are trees, only mutable objects have a place. -/
namespace DL
open PySem PySem.Spec PyProof.Rows L2

/-- a value: tuples are trees, rl is a list that nobody writes, ref a mutable object (or a class, a def) -/
inductive D where
  | non | bl (b : Bool) | int (i : Int) | str (s : Str) | tup (xs : List D) | rl (xs : List D) | tx (xs : List D) | ref (a : Addr) | ty (n : String)
instance : Inhabited D := ⟨.non⟩

/-- a list that is only read: frozen, or of the written part -/
def RdL (K : PySem.W.Frag) (H : Hp) (a : Addr) (xs : List V) : Prop :=
  (∃ o, H a = some (.frz o (.lst xs))) ∨
    ∃ (o : Obj) (its : Array Value) (n : Nat), K.lookup a = some o ∧ o.cls = .type "list" ∧ o.dict = none ∧ o.data = .seq its n ∧ its.size ≤ sizeLine ∧ Vals xs its.toList
theorem RdL.sq {K : PySem.W.Frag} {H : Hp} {a : Addr} {xs : List V} (h : RdL K H a xs) : SqL K H a xs := by
  rcases h with h | h
  · exact .inl (.inr h)
  · exact .inr h

/-- a tuple whose very object is known, without a dict of its own -/
def TxA (H : Hp) (a : Addr) (xs : List V) : Prop := ∃ o : Obj, H a = some (.frz o (.tup xs)) ∧ o.dict = none
mutual
def Is (K : PySem.W.Frag) (H : Hp) : D → V → Prop
  | .non, v => v = .non
  | .bl b, v => v = .bl b
  | .int i, v => v = .int i
  | .str s, v => v = .str s
  | .tup ds, v => ∃ a vs, v = .ref a ∧ H a = some (.tup vs) ∧ IsL K H ds vs
  | .rl ds, v => ∃ a vs, v = .ref a ∧ RdL K H a vs ∧ IsL K H ds vs
  | .tx ds, v => ∃ a vs, v = .ref a ∧ TxA H a vs ∧ IsL K H ds vs
  | .ref a, v => v = .ref a
  | .ty n, v => v = .ty n
def IsL (K : PySem.W.Frag) (H : Hp) : List D → List V → Prop
  | [], vs => vs = []
  | d :: ds, vs => ∃ v r, vs = v :: r ∧ Is K H d v ∧ IsL K H ds r
end

/-- a mutable object -/
inductive MO where
  | lst (xs : List D)
  | dK (kvs : List (Key × D))
  | dT (kvs : List (List Key × D))
  | ins (C : Addr) (fs : List (Str × D))
abbrev Mem := Addr → Option MO
def wr (M : Mem) (a : Addr) (o : MO) : Mem := fun b => if b = a then some o else M b
def mdel (M : Mem) (a : Addr) : Mem := fun b => if b = a then none else M b
theorem wr_same {M : Mem} {a : Addr} {o : MO} : wr M a o a = some o := by unfold wr; rw [if_pos rfl]
theorem wr_ne {M : Mem} {a b : Addr} {o : MO} (h : b ≠ a) : wr M a o b = M b := by unfold wr; rw [if_neg h]

def MOk (K : PySem.W.Frag) (H : Hp) (a : Addr) : MO → Prop
  | .lst ds => ∃ vs, H a = some (.lst vs) ∧ IsL K H ds vs
  | .dK kvs => ∃ ws : List (Key × V), H a = some (.dK ws) ∧ ws.map (·.1) = kvs.map (·.1) ∧ IsL K H (kvs.map (·.2)) (ws.map (·.2))
  | .dT kvs => ∃ ws : List (List Key × V), H a = some (.dT ws) ∧ ws.map (·.1) = kvs.map (·.1) ∧ IsL K H (kvs.map (·.2)) (ws.map (·.2))
  | .ins C fs => ∃ (dx : Addr) (ws : List (Str × V)), H a = some (.ins C dx ws) ∧ ws.map (·.1) = fs.map (·.1) ∧ IsL K H (fs.map (·.2)) (ws.map (·.2))
def MRel (K : PySem.W.Frag) (M : Mem) (H : Hp) : Prop := ∀ a o, M a = some o → MOk K H a o
/-- what is not in the memory is not touched; nothing goes -/
structure Fr (M : Mem) (H : Hp) (M' : Mem) (H' : Hp) : Prop where
  keep : ∀ b o, H b = some o → M b = none → H' b = some o ∧ M' b = none
  there : ∀ b, H' b = none → H b = none
theorem Fr.refl {M : Mem} {H : Hp} : Fr M H M H := ⟨fun _ _ h n => ⟨h, n⟩, fun _ h => h⟩
theorem Fr.trans {M M1 M2 : Mem} {H H1 H2 : Hp} (a : Fr M H M1 H1) (b : Fr M1 H1 M2 H2) : Fr M H M2 H2 := ⟨fun c o h n =>
  let ⟨h1, n1⟩ := a.keep c o h n
  b.keep c o h1 n1, fun c h => a.there c (b.there c h)⟩
theorem upd_none {H : Hp} {a b : Addr} {o : HO} (h : upd H a o b = none) : H b = none := by
  by_cases e : b = a
  · subst e; rw [upd_same] at h; cases h
  · rw [upd_ne e] at h; exact h

section
variable {K : PySem.W.Frag} {M M' : Mem} {H H' : Hp}
theorem MRel.tup (r : MRel K M H) {a : Addr} {xs : List V} (h : H a = some (.tup xs)) : M a = none := by
  cases e : M a with
  | none => rfl
  | some o =>
    have q := r a o e
    cases o with
    | lst _ => obtain ⟨_, z, _⟩ := q; rw [h] at z; cases z
    | dK _ => obtain ⟨_, z, _⟩ := q; rw [h] at z; cases z
    | dT _ => obtain ⟨_, z, _⟩ := q; rw [h] at z; cases z
    | ins _ _ => obtain ⟨_, _, z, _⟩ := q; rw [h] at z; cases z
theorem MRel.frz (r : MRel K M H) {a : Addr} {o : Obj} {u : HO} (h : H a = some (.frz o u)) : M a = none := by
  cases e : M a with
  | none => rfl
  | some o =>
    have q := r a o e
    cases o with
    | lst _ => obtain ⟨_, z, _⟩ := q; rw [h] at z; cases z
    | dK _ => obtain ⟨_, z, _⟩ := q; rw [h] at z; cases z
    | dT _ => obtain ⟨_, z, _⟩ := q; rw [h] at z; cases z
    | ins _ _ => obtain ⟨_, _, z, _⟩ := q; rw [h] at z; cases z
/-- where the trees' own objects stay -/
def Ext (K : PySem.W.Frag) (H H' : Hp) : Prop := (∀ a xs, H a = some (.tup xs) → H' a = some (.tup xs)) ∧ (∀ a xs, RdL K H a xs → RdL K H' a xs) ∧ ∀ a xs, TxA H a xs → TxA H' a xs
theorem Fr.ext (f : Fr M H M' H') (r : MRel K M H) : Ext K H H' := by
  refine ⟨fun a xs h => ?_, fun a xs h => ?_, fun a xs ⟨o, h, hd⟩ => ⟨o, (f.keep a _ h (r.frz h)).1, hd⟩⟩
  · exact (f.keep a _ h (r.tup h)).1
  · rcases h with ⟨o, h⟩ | h
    · exact .inl ⟨o, (f.keep a _ h (r.frz h)).1⟩
    · exact .inr h
theorem Ext.trans {H2 : Hp} (a : Ext K H H') (b : Ext K H' H2) : Ext K H H2 := ⟨fun p xs h => b.1 p xs (a.1 p xs h), fun p xs h => b.2.1 p xs (a.2.1 p xs h), fun p xs h => b.2.2 p xs (a.2.2 p xs h)⟩
theorem Ext.refl : Ext K H H := ⟨fun _ _ h => h, fun _ _ h => h, fun _ _ h => h⟩
mutual
theorem Is.ext (e : Ext K H H') : ∀ (d : D) (v : V), Is K H d v → Is K H' d v
  | .non, _, h => h
  | .bl _, _, h => h
  | .int _, _, h => h
  | .str _, _, h => h
  | .ref _, _, h => h
  | .ty _, _, h => h
  | .tup ds, v, h => by
    unfold Is at h ⊢
    obtain ⟨a, vs, e1, s, l⟩ := h
    exact ⟨a, vs, e1, e.1 a vs s, IsL.ext e ds vs l⟩
  | .rl ds, v, h => by
    unfold Is at h ⊢
    obtain ⟨a, vs, e1, s, l⟩ := h
    exact ⟨a, vs, e1, e.2.1 a vs s, IsL.ext e ds vs l⟩
  | .tx ds, v, h => by
    unfold Is at h ⊢
    obtain ⟨a, vs, e1, s, l⟩ := h
    exact ⟨a, vs, e1, e.2.2 a vs s, IsL.ext e ds vs l⟩
theorem IsL.ext (e : Ext K H H') : ∀ (ds : List D) (vs : List V), IsL K H ds vs → IsL K H' ds vs
  | [], _, h => h
  | d :: ds, vs, h => by
    unfold IsL at h ⊢
    obtain ⟨v, r, e1, i, l⟩ := h
    exact ⟨v, r, e1, Is.ext e d v i, IsL.ext e ds r l⟩
end
theorem isL_nil {vs : List V} : IsL K H [] vs ↔ vs = [] := by unfold IsL; exact Iff.rfl
theorem isL_cons {d : D} {ds : List D} {vs : List V} : IsL K H (d :: ds) vs ↔ ∃ v r, vs = v :: r ∧ Is K H d v ∧ IsL K H ds r := by
  conv => lhs; unfold IsL
theorem is_tup {ds : List D} {v : V} : Is K H (.tup ds) v ↔ ∃ a vs, v = .ref a ∧ H a = some (.tup vs) ∧ IsL K H ds vs := by
  conv => lhs; unfold Is
theorem is_rl {ds : List D} {v : V} : Is K H (.rl ds) v ↔ ∃ a vs, v = .ref a ∧ RdL K H a vs ∧ IsL K H ds vs := by
  conv => lhs; unfold Is
theorem is_tx {ds : List D} {v : V} : Is K H (.tx ds) v ↔ ∃ a vs, v = .ref a ∧ TxA H a vs ∧ IsL K H ds vs := by
  conv => lhs; unfold Is
theorem TxA.sq {K : PySem.W.Frag} {H : Hp} {a : Addr} {xs : List V} (h : TxA H a xs) : SqT K H a xs := let ⟨o, e, _⟩ := h; .inl (.inr ⟨o, e⟩)
theorem IsL.mk {d : D} {ds : List D} {v : V} {vs : List V} (h : Is K H d v) (t : IsL K H ds vs) : IsL K H (d :: ds) (v :: vs) := isL_cons.mpr ⟨v, vs, rfl, h, t⟩
theorem IsL.length : ∀ {ds : List D} {vs : List V}, IsL K H ds vs → vs.length = ds.length
  | [], vs, h => by rw [isL_nil] at h; subst h; rfl
  | d :: ds, vs, h => by
    rw [isL_cons] at h
    obtain ⟨v, r, rfl, _, t⟩ := h
    simp only [List.length_cons, IsL.length t]
theorem IsL.get : ∀ {ds : List D} {vs : List V} {i : Nat} {d : D}, IsL K H ds vs → ds[i]? = some d → ∃ v, vs[i]? = some v ∧ Is K H d v
  | [], _, _, _, _, e => by simp at e
  | x :: ds, vs, i, d, h, e => by
    rw [isL_cons] at h
    obtain ⟨v, r, rfl, hi, t⟩ := h
    cases i with
    | zero =>
      simp only [List.getElem?_cons_zero, Option.some.injEq] at e ⊢
      subst e
      exact ⟨v, rfl, hi⟩
    | succ i =>
      simp only [List.getElem?_cons_succ] at e ⊢
      exact IsL.get t e
theorem IsL.append : ∀ {ds es : List D} {vs ws : List V}, IsL K H ds vs → IsL K H es ws → IsL K H (ds ++ es) (vs ++ ws)
  | [], es, vs, ws, h, g => by rw [isL_nil] at h; subst h; exact g
  | d :: ds, es, vs, ws, h, g => by
    rw [isL_cons] at h
    obtain ⟨v, r, rfl, hi, t⟩ := h
    exact IsL.mk hi (IsL.append t g)
theorem IsL.take : ∀ {ds : List D} {vs : List V} (n : Nat), IsL K H ds vs → IsL K H (ds.take n) (vs.take n)
  | _, _, 0, _ => by simp [isL_nil]
  | [], vs, n + 1, h => by rw [isL_nil] at h; subst h; simp [isL_nil]
  | d :: ds, vs, n + 1, h => by
    rw [isL_cons] at h
    obtain ⟨v, r, rfl, hi, t⟩ := h
    exact IsL.mk hi (IsL.take n t)
theorem IsL.drop : ∀ {ds : List D} {vs : List V} (n : Nat), IsL K H ds vs → IsL K H (ds.drop n) (vs.drop n)
  | _, _, 0, h => h
  | [], vs, n + 1, h => by rw [isL_nil] at h; subst h; simp [isL_nil]
  | d :: ds, vs, n + 1, h => by
    rw [isL_cons] at h
    obtain ⟨v, r, rfl, hi, t⟩ := h
    exact IsL.drop n t
theorem IsL.set {d : D} {v : V} (q : Is K H d v) : ∀ {ds : List D} {vs : List V} (n : Nat), IsL K H ds vs → IsL K H (ds.set n d) (vs.set n v)
  | [], vs, n, h => by rw [isL_nil] at h; subst h; simp [isL_nil]
  | x :: ds, vs, 0, h => by
    rw [isL_cons] at h
    obtain ⟨w, r, rfl, hi, t⟩ := h
    exact IsL.mk q t
  | x :: ds, vs, n + 1, h => by
    rw [isL_cons] at h
    obtain ⟨w, r, rfl, hi, t⟩ := h
    exact IsL.mk hi (IsL.set q n t)
theorem IsL.eraseIdx : ∀ {ds : List D} {vs : List V} (n : Nat), IsL K H ds vs → IsL K H (ds.eraseIdx n) (vs.eraseIdx n)
  | [], vs, n, h => by rw [isL_nil] at h; subst h; simp [isL_nil]
  | x :: ds, vs, 0, h => by
    rw [isL_cons] at h
    obtain ⟨w, r, rfl, hi, t⟩ := h
    exact t
  | x :: ds, vs, n + 1, h => by
    rw [isL_cons] at h
    obtain ⟨w, r, rfl, hi, t⟩ := h
    exact IsL.mk hi (IsL.eraseIdx n t)
theorem IsL.dropLast {ds : List D} {vs : List V} (h : IsL K H ds vs) : IsL K H ds.dropLast vs.dropLast := by
  rw [List.dropLast_eq_take, List.dropLast_eq_take, h.length]
  exact h.take _
theorem IsL.reverse : ∀ {ds : List D} {vs : List V}, IsL K H ds vs → IsL K H ds.reverse vs.reverse
  | [], vs, h => by rw [isL_nil] at h; subst h; simp [isL_nil]
  | d :: ds, vs, h => by
    rw [isL_cons] at h
    obtain ⟨v, r, rfl, hi, t⟩ := h
    rw [List.reverse_cons, List.reverse_cons]
    exact (IsL.reverse t).append (IsL.mk hi (isL_nil.mpr rfl))
theorem IsL.inv : ∀ {ds : List D} {vs : List V} {i : Nat} {v : V}, IsL K H ds vs → vs[i]? = some v → ∃ d, ds[i]? = some d ∧ Is K H d v
  | ds, vs, i, v, h, e => by
    have hl := h.length
    obtain ⟨hi, _⟩ := List.getElem?_eq_some_iff.mp e
    have hi' : i < ds.length := by omega
    obtain ⟨w, e2, q⟩ := h.get (List.getElem?_eq_getElem hi')
    rw [e] at e2
    cases e2
    exact ⟨_, List.getElem?_eq_getElem hi', q⟩
end

/-! ### slots -/
abbrev Sl := List (Option D)
def getS : Sl → Nat → Option D
  | [], _ => none
  | o :: _, 0 => o
  | _ :: r, i + 1 => getS r i
def setS : Sl → Nat → Option D → Sl
  | [], _, _ => []
  | _ :: r, 0, o => o :: r
  | x :: r, i + 1, o => x :: setS r i o
def SRel (K : PySem.W.Frag) (H : Hp) : Sl → L2.St → Prop
  | [], σ => σ = []
  | o :: r, σ => ∃ w τ, σ = w :: τ ∧ (∀ d, o = some d → ∃ v, w = some v ∧ Is K H d v) ∧ SRel K H r τ
section
variable {K : PySem.W.Frag} {M M' : Mem} {H H' : Hp}
theorem SRel.ext (e : Ext K H H') : ∀ {r : Sl} {σ : L2.St}, SRel K H r σ → SRel K H' r σ
  | [], _, h => h
  | o :: r, σ, h => by
    obtain ⟨w, τ, e1, q, t⟩ := h
    refine ⟨w, τ, e1, fun d hd => ?_, SRel.ext e t⟩
    obtain ⟨v, e2, i⟩ := q d hd
    exact ⟨v, e2, Is.ext e d v i⟩
theorem SRel.get : ∀ {r : Sl} {σ : L2.St} {i : Nat} {d : D}, SRel K H r σ → getS r i = some d → ∃ v, σ[i]? = some (some v) ∧ Is K H d v
  | [], _, _, _, _, e => by cases e
  | o :: r, σ, 0, d, h, e => by
    obtain ⟨w, τ, rfl, q, t⟩ := h
    obtain ⟨v, rfl, i⟩ := q d e
    exact ⟨v, rfl, i⟩
  | o :: r, σ, i + 1, d, h, e => by
    obtain ⟨w, τ, rfl, q, t⟩ := h
    obtain ⟨v, h1, h2⟩ := SRel.get (r := r) (σ := τ) (i := i) (d := d) t e
    exact ⟨v, by rw [List.getElem?_cons_succ]; exact h1, h2⟩
theorem SRel.set {d : D} {v : V} (q : Is K H d v) : ∀ {r : Sl} {σ : L2.St} (i : Nat), SRel K H r σ → SRel K H (setS r i (some d)) (σ.set i (some v))
  | [], σ, i, h => by
    have h : σ = [] := h
    subst h
    show SRel K H [] (List.set [] i _)
    simp [SRel]
  | o :: r, σ, 0, h => by
    obtain ⟨w, τ, rfl, q', t⟩ := h
    exact ⟨_, _, rfl, fun d' e => by cases e; exact ⟨v, rfl, q⟩, t⟩
  | o :: r, σ, i + 1, h => by
    obtain ⟨w, τ, rfl, q', t⟩ := h
    exact ⟨_, _, rfl, q', SRel.set q i t⟩
theorem SRel.unset : ∀ {r : Sl} {σ : L2.St} (i : Nat) (w : Option V), SRel K H r σ → SRel K H (setS r i none) (σ.set i w)
  | [], σ, i, w, h => by
    have h : σ = [] := h
    subst h
    show SRel K H [] (List.set [] i _)
    simp [SRel]
  | o :: r, σ, 0, w, h => by
    obtain ⟨w', τ, rfl, q', t⟩ := h
    exact ⟨w, τ, rfl, (fun d' e => nomatch e), t⟩
  | o :: r, σ, i + 1, w, h => by
    obtain ⟨w', τ, rfl, q', t⟩ := h
    exact ⟨_, _, rfl, q', SRel.unset i w t⟩
def wipeS (e : Sl) : List Nat → Sl
  | [] => e
  | v :: vs => setS (wipeS e vs) v none
theorem SRel.wipe {r : Sl} {σ : L2.St} (h : SRel K H r σ) : ∀ vs : List Nat, SRel K H (wipeS r vs) (L2.wipe σ vs)
  | [] => h
  | v :: vs => by
    show SRel K H (setS (wipeS r vs) v none) ((L2.wipe σ vs).set v none)
    exact SRel.unset v none (SRel.wipe h vs)
end

/-! ### readings -/
abbrev QE := D → Mem → Prop
abbrev EX := Value → List (Str × D) → Mem → Prop
abbrev EF : EX := fun _ _ _ => False
abbrev DTE := Sl → Mem → QE → EX → Prop
abbrev DTT := Sl → Mem → (Bool → Mem → Prop) → EX → Prop
abbrev DTA := Sl → Mem → (List D → Mem → Prop) → EX → Prop
structure DEnds where
  nx : Sl → Mem → Prop
  rt : QE
  bk : Sl → Mem → Prop := fun _ _ => False
  ct : Sl → Mem → Prop := fun _ _ => False
abbrev DTS := DEnds → EX → Sl → Mem → Prop
/-- where a body stands: the context, where the memory began, what is wished of exceptions -/
structure Gd where
  X : Cx
  M0 : Mem
  H0 : Hp
  E : EX
/-- an exception's own dict -/
def XOk (K : PySem.W.Frag) (H : Hp) (d : Option Addr) (fs : List (Str × D)) : Prop :=
  match d with
  | none => fs = []
  | some a => ∃ ws : List (Str × V), H a = some (.xd ws) ∧ ∀ f, match fs.lookup f with
    | some x => ∃ v, ws.lookup f = some v ∧ Is K H x v
    | none => ws.lookup f = none
/-- the wish as the layer below has it -/
def wxOf (K : PySem.W.Frag) (M0 : Mem) (H0 : Hp) (E : EX) : Value → Option Addr → Hp → Prop := fun c d H => ∃ M fs, Fr M0 H0 M H ∧ MRel K M H ∧ XOk K H d fs ∧ E c fs M
structure SI (g : Gd) (pins : List (Addr × Obj)) (σ : L2.St) (H : Hp) (s : Shared) (e : Sl) (M : Mem) : Prop where
  inv : Inv g.X pins σ H s
  sl : SRel g.X.K H e σ
  mr : MRel g.X.K M H
  fr : Fr g.M0 g.H0 M H
theorem SI.next {g : Gd} {pins : List (Addr × Obj)} {σ : L2.St} {H H' : Hp} {s s' : Shared} {e : Sl} {M M' : Mem} (I : SI g pins σ H s e M) (J : Inv g.X pins σ H' s') (m : MRel g.X.K M' H') (f : Fr M H M' H') : SI g pins σ H' s' e M' :=
  ⟨J, I.sl.ext (f.ext I.mr), m, I.fr.trans f⟩

/-- behind an expression -/
def DEP (g : Gd) (pins : List (Addr × Obj)) (σ : L2.St) (e : Sl) (M : Mem) (H : Hp) (Q : QE) (u : Value) (s' : Shared) : Prop :=
  ∃ v d H' M', RelV v u ∧ Is g.X.K H' d v ∧ SI g pins σ H' s' e M' ∧ Fr M H M' H' ∧ Q d M'
def DTP (g : Gd) (pins : List (Addr × Obj)) (σ : L2.St) (e : Sl) (M : Mem) (H : Hp) (Q : Bool → Mem → Prop) (b : Bool) (s' : Shared) : Prop :=
  ∃ H' M', SI g pins σ H' s' e M' ∧ Fr M H M' H' ∧ Q b M'
structure DE (g : Gd) (x : Expr) (t : DTE) : Prop where
  run : ∀ (pins : List (Addr × Obj)) (s : Shared) (σ : L2.St) (H : Hp) (e : Sl) (M : Mem) (Q : QE), SI g pins σ H s e M → t e M Q g.E →
    wpAny (model g.X.prog g.X.w) g.X.A (eval x g.X.env) (DEP g pins σ e M H Q) g.X.xe s
structure DT (g : Gd) (x : Expr) (t : DTT) : Prop where
  run : ∀ (pins : List (Addr × Obj)) (s : Shared) (σ : L2.St) (H : Hp) (e : Sl) (M : Mem) (Q : Bool → Mem → Prop), SI g pins σ H s e M → t e M Q g.E →
    wpAny (model g.X.prog g.X.w) g.X.A (isTrue x g.X.env (eval x g.X.env)) (DTP g pins σ e M H Q) g.X.xe s

/-! the two ways between the layers. lowE: a tree reading as a reading below -/
def lowQ (K : PySem.W.Frag) (M : Mem) (H : Hp) (R : QE) : VK := fun v H' => ∃ d M', Is K H' d v ∧ MRel K M' H' ∧ Fr M H M' H' ∧ R d M'
def lowK (K : PySem.W.Frag) (M0 : Mem) (H0 : Hp) (E : EX) (t : DTE) : TE := fun σ H Q => ∃ (e : Sl) (M : Mem) (R : QE), SRel K H e σ ∧ MRel K M H ∧ Fr M0 H0 M H ∧ t e M R E ∧ ∀ v H', lowQ K M H R v H' → Q v H'
abbrev lowE (g : Gd) (t : DTE) : TE := lowK g.X.K g.M0 g.H0 g.E t
def lowQT (K : PySem.W.Frag) (M : Mem) (H : Hp) (R : Bool → Mem → Prop) : Bool → Hp → Prop := fun b H' => ∃ M', MRel K M' H' ∧ Fr M H M' H' ∧ R b M'
def lowTK (K : PySem.W.Frag) (M0 : Mem) (H0 : Hp) (E : EX) (t : DTT) : TT := fun σ H Q => ∃ (e : Sl) (M : Mem) (R : Bool → Mem → Prop), SRel K H e σ ∧ MRel K M H ∧ Fr M0 H0 M H ∧ t e M R E ∧ ∀ b H', lowQT K M H R b H' → Q b H'
abbrev lowT (g : Gd) (t : DTT) : TT := lowTK g.X.K g.M0 g.H0 g.E t
theorem DE.pe {g : Gd} {x : Expr} {t : DTE} (h : DE g x t) : PE g.X x (lowE g t) := by
  refine ⟨fun pins s σ H Q I q => ?_⟩
  obtain ⟨e, M, R, sl, mr, fr, ht, k⟩ := q
  refine thn (h.run pins s σ H e M R ⟨I, sl, mr, fr⟩ ht) fun u s' z => ?_
  obtain ⟨v, d, H', M', r, i, J, f, q⟩ := z
  exact ⟨v, H', J.inv, r, k v H' ⟨d, M', i, J.mr, f, q⟩⟩
theorem DT.pt {g : Gd} {x : Expr} {t : DTT} (h : DT g x t) : PT g.X x (lowT g t) := by
  refine ⟨fun pins s σ H Q I q => ?_⟩
  obtain ⟨e, M, R, sl, mr, fr, ht, k⟩ := q
  refine thn (h.run pins s σ H e M R ⟨I, sl, mr, fr⟩ ht) fun b s' z => ?_
  obtain ⟨H', M', J, f, q⟩ := z
  exact ⟨H', J.inv, k b H' ⟨M', J.mr, f, q⟩⟩
theorem DE.of {g : Gd} {x : Expr} {t : DTE} {t' : TE} (h : PE g.X x t')
    (k : ∀ σ H e M Q, SRel g.X.K H e σ → MRel g.X.K M H → Fr g.M0 g.H0 M H → t e M Q g.E → t' σ H (lowQ g.X.K M H Q)) : DE g x t := by
  refine ⟨fun pins s σ H e M Q I q => ?_⟩
  refine thn (h.run pins s σ H _ I.inv (k σ H e M Q I.sl I.mr I.fr q)) fun u s' z => ?_
  obtain ⟨v, H', J, r, d, M', i, mr, f, q⟩ := z
  exact ⟨v, d, H', M', r, i, I.next J mr f, f, q⟩
theorem DT.of {g : Gd} {x : Expr} {t : DTT} {t' : TT} (h : PT g.X x t')
    (k : ∀ σ H e M Q, SRel g.X.K H e σ → MRel g.X.K M H → Fr g.M0 g.H0 M H → t e M Q g.E → t' σ H (lowQT g.X.K M H Q)) : DT g x t := by
  refine ⟨fun pins s σ H e M Q I q => ?_⟩
  refine thn (h.run pins s σ H _ I.inv (k σ H e M Q I.sl I.mr I.fr q)) fun b s' z => ?_
  obtain ⟨H', J, M', mr, f, q⟩ := z
  exact ⟨H', M', I.next J mr f, f, q⟩
/-- a reading below, begun at a tree state -/
theorem low_start {g : Gd} {t : DTE} {σ : L2.St} {H : Hp} {e : Sl} {M : Mem} {R : QE} {Q : VK} (sl : SRel g.X.K H e σ) (mr : MRel g.X.K M H) (fr : Fr g.M0 g.H0 M H) (h : t e M R g.E)
    (k : ∀ v d M' H', Is g.X.K H' d v → MRel g.X.K M' H' → Fr M H M' H' → R d M' → Q v H') : lowE g t σ H Q :=
  ⟨e, M, R, sl, mr, fr, h, fun v H' ⟨d, M', i, m, f, q⟩ => k v d M' H' i m f q⟩
theorem low_startT {g : Gd} {t : DTT} {σ : L2.St} {H : Hp} {e : Sl} {M : Mem} {R : Bool → Mem → Prop} {Q : Bool → Hp → Prop} (sl : SRel g.X.K H e σ) (mr : MRel g.X.K M H) (fr : Fr g.M0 g.H0 M H) (h : t e M R g.E)
    (k : ∀ b M' H', MRel g.X.K M' H' → Fr M H M' H' → R b M' → Q b H') : lowT g t σ H Q :=
  ⟨e, M, R, sl, mr, fr, h, fun b H' ⟨M', m, f, q⟩ => k b M' H' m f q⟩

/-! memory: a new object, an object written -/
section
variable {K : PySem.W.Frag} {M : Mem} {H : Hp}
theorem MOk.ext {H' : Hp} {a : Addr} {o : MO} (e : Ext K H H') (h : H' a = H a) (q : MOk K H a o) : MOk K H' a o := by
  cases o with
  | lst ds => obtain ⟨vs, z, l⟩ := q; exact ⟨vs, h.trans z, IsL.ext e _ _ l⟩
  | dK ds => obtain ⟨vs, z, k, l⟩ := q; exact ⟨vs, h.trans z, k, IsL.ext e _ _ l⟩
  | dT ds => obtain ⟨vs, z, k, l⟩ := q; exact ⟨vs, h.trans z, k, IsL.ext e _ _ l⟩
  | ins C ds => obtain ⟨dx, vs, z, k, l⟩ := q; exact ⟨dx, vs, h.trans z, k, IsL.ext e _ _ l⟩
theorem MRel.none_of (r : MRel K M H) {p : Addr} (h : H p = none) : M p = none := by
  cases e : M p with
  | none => rfl
  | some o =>
    have q := r p o e
    cases o with
    | lst _ => obtain ⟨_, z, _⟩ := q; rw [h] at z; cases z
    | dK _ => obtain ⟨_, z, _⟩ := q; rw [h] at z; cases z
    | dT _ => obtain ⟨_, z, _⟩ := q; rw [h] at z; cases z
    | ins _ _ => obtain ⟨_, _, z, _⟩ := q; rw [h] at z; cases z
/-- a new place, whatever is laid there, is outside the memory -/
theorem fr_new (r : MRel K M H) {p : Addr} {o : HO} (h : H p = none) : Fr M H M (upd H p o) := ⟨fun b u hb n => by
  have e : b ≠ p := ne_of_none hb h
  exact ⟨by rw [upd_ne e]; exact hb, n⟩, fun _ => upd_none⟩
theorem mr_new (r : MRel K M H) {p : Addr} {o : HO} (h : H p = none) : MRel K M (upd H p o) := fun a x e => by
  have q := r a x e
  have ne : a ≠ p := fun z => by subst z; rw [r.none_of h] at e; cases e
  exact q.ext ((fr_new r h).ext r) (upd_ne ne)
/-- a new object is laid in the memory -/
theorem fr_alloc (r : MRel K M H) {p : Addr} {o : HO} {u : MO} (h : H p = none) : Fr M H (wr M p u) (upd H p o) := ⟨fun b x hb n => by
  have e : b ≠ p := ne_of_none hb h
  exact ⟨by rw [upd_ne e]; exact hb, by rw [wr_ne e]; exact n⟩, fun _ => upd_none⟩
theorem mr_alloc (r : MRel K M H) {p : Addr} {o : HO} {u : MO} (h : H p = none) (q : MOk K (upd H p o) p u) : MRel K (wr M p u) (upd H p o) := fun a x e => by
  by_cases z : a = p
  · subst z; rw [wr_same] at e; cases e; exact q
  · rw [wr_ne z] at e
    exact mr_new r h a x e
/-- an object of the memory is written -/
theorem fr_write (r : MRel K M H) {a : Addr} {o : HO} {u v : MO} (h : M a = some v) : Fr M H (wr M a u) (upd H a o) := ⟨fun b x hb n => by
  have e : b ≠ a := fun z => by subst z; rw [h] at n; cases n
  exact ⟨by rw [upd_ne e]; exact hb, by rw [wr_ne e]; exact n⟩, fun _ => upd_none⟩
theorem mr_write (r : MRel K M H) {a : Addr} {o : HO} {u v : MO} (h : M a = some v) (q : MOk K (upd H a o) a u) : MRel K (wr M a u) (upd H a o) := fun b x e => by
  by_cases z : b = a
  · subst z; rw [wr_same] at e; cases e; exact q
  · rw [wr_ne z] at e
    exact (r b x e).ext ((fr_write (o := o) (u := u) r h).ext r) (upd_ne z)
/-- forgetting -/
def Sub (M' M : Mem) : Prop := ∀ a o, M' a = some o → M a = some o
theorem Sub.refl {M : Mem} : Sub M M := fun _ _ h => h
theorem MRel.sub (r : MRel K M H) {M' : Mem} (s : Sub M' M) : MRel K M' H := fun a o e => r a o (s a o e)
theorem Sub.none {M M' : Mem} (s : Sub M' M) {a : Addr} (h : M a = Option.none) : M' a = Option.none := by
  cases e : M' a with
  | none => rfl
  | some o => rw [s a o e] at h; cases h
theorem Fr.sub {M M1 M2 : Mem} {H H1 : Hp} (f : Fr M H M1 H1) (s : Sub M2 M1) : Fr M H M2 H1 := ⟨fun b o h n =>
  let ⟨h1, n1⟩ := f.keep b o h n
  ⟨h1, s.none n1⟩, f.there⟩
end
end DL

/-! list + list, where one or both are not to be written. -/
namespace DL
open PySem PySem.Spec PyProof.Rows L2 PySem.MeetsSeq
theorem add_lst (l : Addr) (items : Array Value) (n : Nat) (sl : Array (Option Value)) (b : Addr) (items2 : Array Value) (n2 : Nat) (sl2 : Array (Option Value)) (hs : items.size + items2.size ≤ sizeLine) :
    Meets (Builtin.«list.__add__» ⟨[.ref l, .ref b], []⟩) (fun _ R s => s.heap.get? l = some { cls := .type "list", dict := none, data := .seq items n, slots := sl } ∧ s.heap.get? b = some { cls := .type "list", dict := none, data := .seq items2 n2, slots := sl2 } ∧ R (.ok (.ret (Value.ref s.heap.objs.size))) { s with heap := s.heap.push { cls := .type "list", data := .seq (items ++ items2) }, toks := s.toks }) :=
  .of_wp fun prog w A R s h => by
    obtain ⟨hp, g, d, tk, os⟩ := s
    obtain ⟨hl, hb, h⟩ := h
    have f1 := AutoSeq1.idx_int
    have f2 := AutoSeq1.sub_tuple_tuple
    have f3 := AutoSeq1.sub_list_list
    have f4 := AutoSeq1.sub_tuple_list
    have f5 := AutoSeq1.sub_list_tuple
    wp_walk using AutoSeq1.wpAny_loadPart' hl, AutoSeq1.wpAny_loadPart' hb
    exact ⟨_, rfl, h⟩
section
variable {X : Cx}
def rCatL (K : PySem.W.Frag) : R2 := fun x y H Q => ∃ l b xs zs, x = .ref l ∧ y = .ref b ∧ SqL K H l xs ∧ SqL K H b zs ∧ xs.length + zs.length ≤ sizeLine ∧ ∀ p, H p = none → Q (.ref p) (upd H p (.lst (xs ++ zs)))
theorem op_catL : OpR X (binaryOp .Add) (rCatL X.K) := by
  intro pins s σ H x y v u Q I rx ry h
  obtain ⟨l, b, xs, zs, rfl, rfl, hH, hB, hz, q⟩ := h
  cases rx
  cases ry
  obtain ⟨its, r, ⟨⟨c1, d1, s1, l1⟩, n, e, hc, hn, hd⟩, z1⟩ := I.list hH
  obtain ⟨its2, r2, ⟨⟨c2, d2, s2, l2⟩, n2, e2, hc2, hn2, hd2⟩, z2⟩ := I.list hB
  simp only at hc hn hd hc2 hn2 hd2
  subst hc hn hd hc2 hn2 hd2
  have k1 := r.length
  have k2 := r2.length
  refine concat_meets ⟨_, e, rfl⟩ ⟨_, e2, rfl⟩ noFill_list_add seq_list_add F.slot_list_add F.entry_list_add (F.args_list_add_2 _ _) (add_lst l its.toArray n l1 b its2.toArray n2 l2 (by rw [List.size_toArray, List.size_toArray]; omega)) ⟨e, e2, ?_⟩
  have ea : its.toArray ++ its2.toArray = (its ++ its2).toArray := by simp
  rw [ea]
  exact ⟨.ref _, _, I.lnew (t' := s.toks) (r.append r2) (by rw [List.length_append]; omega), rfl, q _ I.fresh⟩
end
end DL

/-! Operators by trees. -/
namespace DL
open PySem PySem.Spec PyProof.Rows L2

theorem lowQ.mk {K : PySem.W.Frag} {Mo M' : Mem} {Ho H' : Hp} {Q : QE} {d : D} {v : V} (i : Is K H' d v) (m : MRel K M' H') (f : Fr Mo Ho M' H') (q : Q d M') : lowQ K Mo Ho Q v H' := ⟨d, M', i, m, f, q⟩

/-! data of any depth, as the library has it -/
mutual
inductive PD (M : Mem) : D → PyData → Prop
  | non : PD M .non .none
  | bl (b : Bool) : PD M (.bl b) (.bool b)
  | int (i : Int) : PD M (.int i) (.int i)
  | str (s : Str) : PD M (.str s) (.str s)
  | tup {ds : List D} {ps : List PyData} : PDL M ds ps → PD M (.tup ds) (.tuple ps)
  | rl {ds : List D} {ps : List PyData} : PDL M ds ps → PD M (.rl ds) (.list ps)
  | tx {ds : List D} {ps : List PyData} : PDL M ds ps → PD M (.tx ds) (.tuple ps)
  | lst {a : Addr} {ds : List D} {ps : List PyData} : M a = some (.lst ds) → PDL M ds ps → PD M (.ref a) (.list ps)
  | dK {a : Addr} {kvs : List (Key × D)} {ps : List PyData} : M a = some (.dK kvs) → PDL M (kvs.map (·.2)) ps → PD M (.ref a) (.dict ((kvs.map fun p => match p.1 with | .inl i => PyData.int i | .inr s => PyData.str s).zip ps))
inductive PDL (M : Mem) : List D → List PyData → Prop
  | nil : PDL M [] []
  | cons {d : D} {ds : List D} {p : PyData} {ps : List PyData} : PD M d p → PDL M ds ps → PDL M (d :: ds) (p :: ps)
end
mutual
def toPy : D → PyData
  | .non => .none
  | .bl b => .bool b
  | .int i => .int i
  | .str s => .str s
  | .tup xs => .tuple (toPyL xs)
  | .rl xs => .list (toPyL xs)
  | .tx xs => .tuple (toPyL xs)
  | .ref _ => .none
  | .ty _ => .none
def toPyL : List D → List PyData
  | [] => []
  | d :: ds => toPy d :: toPyL ds
end
mutual
def flatD : D → Bool
  | .ref _ => false
  | .ty _ => false
  | .tup xs => flatDL xs
  | .rl xs => flatDL xs
  | .tx xs => flatDL xs
  | _ => true
def flatDL : List D → Bool
  | [] => true
  | d :: ds => flatD d && flatDL ds
end
mutual
theorem PD.of {M : Mem} : ∀ (d : D), flatD d = true → PD M d (toPy d)
  | .non, _ => by unfold toPy; exact .non
  | .bl b, _ => by unfold toPy; exact .bl b
  | .int i, _ => by unfold toPy; exact .int i
  | .str s, _ => by unfold toPy; exact .str s
  | .tup xs, h => by unfold toPy; unfold flatD at h; exact .tup (PDL.of xs h)
  | .rl xs, h => by unfold toPy; unfold flatD at h; exact .rl (PDL.of xs h)
  | .tx xs, h => by unfold toPy; unfold flatD at h; exact .tx (PDL.of xs h)
  | .ref _, h => by unfold flatD at h; cases h
  | .ty _, h => by unfold flatD at h; cases h
theorem PDL.of {M : Mem} : ∀ (ds : List D), flatDL ds = true → PDL M ds (toPyL ds)
  | [], _ => by unfold toPyL; exact .nil
  | d :: ds, h => by
    unfold flatDL at h
    unfold toPyL
    rw [Bool.and_eq_true] at h
    exact .cons (PD.of d h.1) (PDL.of ds h.2)
end

section
variable {X : Cx} {pins : List (Addr × Obj)} {σ : L2.St} {H : Hp} {s : Shared} {M : Mem}
theorem keyReads {h : Heap} : ∀ {kvs : List (Key × V)} {vs : List (Key × Value)} {es : List DictEntry} {w : World} {P : Program}, KV kvs vs → es = es → True := fun _ _ => trivial

mutual
/-- a tree's data is read off the heap -/
theorem PD.reads (I : Inv X pins σ H s) (m : MRel X.K M H) : ∀ (p : PyData) (d : D) (v : V) (u : Value), PD M d p → Is X.K H d v → RelV v u → (p.hasDict = false) → ∃ as, Reads s.heap u p as
  | .none, _, _, _, h, i, r, _ => by
    cases h with
    | non =>
      unfold Is at i; subst i; cases r
      exact ⟨_, Reads.none⟩
  | .bool b, _, _, _, h, i, r, _ => by
    cases h with
    | bl =>
      unfold Is at i; subst i; cases r
      exact ⟨_, Reads.bool b⟩
  | .int k, _, _, _, h, i, r, _ => by
    cases h with
    | int =>
      unfold Is at i; subst i; obtain ⟨t, rfl⟩ := r
      exact ⟨_, Reads.int k t⟩
  | .str x, _, _, _, h, i, r, _ => by
    cases h with
    | str =>
      unfold Is at i; subst i; obtain ⟨t, rfl⟩ := r
      exact ⟨_, Reads.str x t⟩
  | .tuple ps, _, _, _, h, i, r, nd => by
    cases h with
    | tup hl =>
      rw [is_tup] at i
      obtain ⟨a, vs, rfl, hs, il⟩ := i
      cases r
      obtain ⟨its, rv, ⟨o, ho, hc, n, hd⟩, _⟩ := I.tuple (SqT.of (K := X.K) hs)
      obtain ⟨as, hr⟩ := PD.readsAll I m ps _ _ its hl il rv (by simpa [PyData.hasDict] using nd)
      exact ⟨_, Reads.tuple ho hc hd hr⟩
    | tx hl =>
      rw [is_tx] at i
      obtain ⟨a, vs, rfl, hs, il⟩ := i
      cases r
      obtain ⟨its, rv, ⟨o, ho, hc, n, hd⟩, _⟩ := I.tuple (hs.sq (K := X.K))
      obtain ⟨as, hr⟩ := PD.readsAll I m ps _ _ its hl il rv (by simpa [PyData.hasDict] using nd)
      exact ⟨_, Reads.tuple ho hc hd hr⟩
  | .list ps, _, _, _, h, i, r, nd => by
    cases h with
    | rl hl =>
      rw [is_rl] at i
      obtain ⟨a, vs, rfl, hs, il⟩ := i
      cases r
      obtain ⟨its, rv, ⟨o, n, ho, hc, _, hd⟩, _⟩ := I.list hs.sq
      obtain ⟨as, hr⟩ := PD.readsAll I m ps _ _ its hl il rv (by simpa [PyData.hasDict] using nd)
      exact ⟨_, Reads.list ho hc hd hr⟩
    | @lst a ds _ hM hl =>
      unfold Is at i; subst i; cases r
      obtain ⟨vs, hs, il⟩ := m a _ hM
      obtain ⟨its, rv, ⟨o, n, ho, hc, _, hd⟩, _⟩ := I.list (SqL.of (K := X.K) hs)
      obtain ⟨as, hr⟩ := PD.readsAll I m ps _ _ its hl il rv (by simpa [PyData.hasDict] using nd)
      exact ⟨_, Reads.list ho hc hd hr⟩
  | .dict _, _, _, _, _, _, _, nd => by simp [PyData.hasDict] at nd
theorem PD.readsAll (I : Inv X pins σ H s) (m : MRel X.K M H) : ∀ (ps : List PyData) (ds : List D) (vs : List V) (us : List Value), PDL M ds ps → IsL X.K H ds vs → Vals vs us → (PyData.hasDictAll ps = false) → ∃ as, ReadsAll s.heap us ps as
  | [], _, _, _, h, i, r, _ => by
    cases h
    rw [isL_nil] at i; subst i; cases r
    exact ⟨_, ReadsAll.nil⟩
  | p :: ps, _, _, _, h, i, r, nd => by
    cases h with
    | cons h1 h2 =>
      rw [isL_cons] at i
      obtain ⟨v, rr, rfl, i1, i2⟩ := i
      cases r with
      | cons r1 r2 =>
        have nd' : p.hasDict = false ∧ PyData.hasDictAll ps = false := by simpa [PyData.hasDictAll] using nd
        obtain ⟨as, q1⟩ := PD.reads I m p _ _ _ h1 i1 r1 nd'.1
        obtain ⟨bs, q2⟩ := PD.readsAll I m ps _ _ _ h2 i2 r2 nd'.2
        exact ⟨_, ReadsAll.cons q1 q2⟩
end
end

/-! ### what a tree's value is -/
section
variable {K : PySem.W.Frag} {H : Hp} {v : V}
theorem is_non : Is K H .non v ↔ v = .non := by conv => lhs; unfold Is
theorem is_bl {b : Bool} : Is K H (.bl b) v ↔ v = .bl b := by conv => lhs; unfold Is
theorem is_int {i : Int} : Is K H (.int i) v ↔ v = .int i := by conv => lhs; unfold Is
theorem is_str {x : Str} : Is K H (.str x) v ↔ v = .str x := by conv => lhs; unfold Is
theorem is_ref {a : Addr} : Is K H (.ref a) v ↔ v = .ref a := by conv => lhs; unfold Is
theorem is_ty {n : String} : Is K H (.ty n) v ↔ v = .ty n := by conv => lhs; unfold Is
theorem ii_non : Is K H .non .non := is_non.mpr rfl
theorem ii_bl {b : Bool} : Is K H (.bl b) (.bl b) := is_bl.mpr rfl
theorem ii_int {i : Int} : Is K H (.int i) (.int i) := is_int.mpr rfl
theorem ii_str {x : Str} : Is K H (.str x) (.str x) := is_str.mpr rfl
theorem ii_ref {a : Addr} : Is K H (.ref a) (.ref a) := is_ref.mpr rfl
theorem ii_ty {n : String} : Is K H (.ty n) (.ty n) := is_ty.mpr rfl
theorem ii_tup {a : Addr} {ds : List D} {vs : List V} (h : H a = some (.tup vs)) (l : IsL K H ds vs) : Is K H (.tup ds) (.ref a) := is_tup.mpr ⟨a, vs, rfl, h, l⟩
end
/-! ### binary operators -/
abbrev R2D := D → D → Mem → QE → Prop
/-- QV holds wherever the tree wish holds -/
abbrev Fin (K : PySem.W.Frag) (Mo : Mem) (Ho : Hp) (Q : QE) (QV : VK) : Prop := ∀ v d M' H', Is K H' d v → MRel K M' H' → Fr Mo Ho M' H' → Q d M' → QV v H'
theorem fin_low {K : PySem.W.Frag} {Mo : Mem} {Ho : Hp} {Q : QE} : Fin K Mo Ho Q (lowQ K Mo Ho Q) := fun _ _ _ _ i m f q => lowQ.mk i m f q
section
variable {K : PySem.W.Frag} {M Mo : Mem} {H Ho : Hp} {Q : QE} {QV : VK}
theorem Fin.newL (fin : Fin K Mo Ho Q QV) (m : MRel K M H) (f : Fr Mo Ho M H) {ds : List D} {vs : List V} (l : IsL K H ds vs) (q : ∀ p, M p = none → Q (.ref p) (wr M p (.lst ds))) :
    ∀ p, H p = none → QV (.ref p) (upd H p (.lst vs)) := fun p hp => by
  have hm : M p = none := m.none_of hp
  have q' : MOk K (upd H p (.lst vs)) p (.lst ds) := ⟨vs, upd_same, IsL.ext ((fr_new (o := HO.lst vs) m hp).ext m) _ _ l⟩
  exact fin _ _ _ _ ii_ref (mr_alloc m hp q') (f.trans (fr_alloc m hp)) (q p hm)
theorem Fin.newT (fin : Fin K Mo Ho Q QV) (m : MRel K M H) (f : Fr Mo Ho M H) {ds : List D} {vs : List V} (l : IsL K H ds vs) (q : Q (.tup ds) M) :
    ∀ p, H p = none → QV (.ref p) (upd H p (.tup vs)) := fun p hp => by
  exact fin _ _ _ _ (ii_tup upd_same (IsL.ext ((fr_new (o := HO.tup vs) m hp).ext m) _ _ l)) (mr_new m hp) (f.trans (fr_new m hp)) q
theorem Fin.setL (fin : Fin K Mo Ho Q QV) (m : MRel K M H) (f : Fr Mo Ho M H) {a : Addr} {u : MO} (h : M a = some u) {ds : List D} {vs : List V} (l : IsL K H ds vs) {d : D} {v : V} (i : Is K H d v) (q : Q d (wr M a (.lst ds))) :
    QV v (upd H a (.lst vs)) := by
  have e : Ext K H (upd H a (.lst vs)) := (fr_write (o := HO.lst vs) (u := .lst ds) m h).ext m
  have q' : MOk K (upd H a (.lst vs)) a (.lst ds) := ⟨vs, upd_same, IsL.ext e _ _ l⟩
  exact fin _ _ _ _ (Is.ext e _ _ i) (mr_write m h q') (f.trans (fr_write m h)) q
end
def OpK (K : PySem.W.Frag) (r : R2D) (r' : R2) : Prop := ∀ (M : Mem) (H : Hp) (Mo : Mem) (Ho : Hp) (x y : V) (a b : D) (Q : QE) (QV : VK), MRel K M H → Fr Mo Ho M H → Is K H a x → Is K H b y → Fin K Mo Ho Q QV → r a b M Q → r' x y H QV
/-- the operator f has the tree reading r in X -/
def OpD (X : Cx) (f : Value → Value → Sem Value) (r : R2D) : Prop := ∃ r' : R2, OpR X f r' ∧ OpK X.K r r'
def dBin (r : R2D) (ta tb : DTE) : DTE := fun e M Q E => ta e M (fun x M1 => tb e M1 (fun y M2 => r x y M2 Q) E) E
section
variable {g : Gd} {a b c : Expr} {ta tb tc : DTE} {pos : Pos}
theorem low_bin {r : R2D} {r' : R2} (k : OpK g.X.K r r') {σ : L2.St} {H : Hp} {e : Sl} {M : Mem} {Q : QE} {QV : VK} (sl : SRel g.X.K H e σ) (mr : MRel g.X.K M H) (fr : Fr g.M0 g.H0 M H) (h : dBin r ta tb e M Q g.E) (fin : Fin g.X.K M H Q QV) :
    tOp r' (lowE g ta) (lowE g tb) σ H QV := by
  refine low_start sl mr fr h fun v d M1 H1 i m f q => ?_
  refine low_start (sl.ext (f.ext mr)) m (fr.trans f) q fun v2 d2 M2 H2 i2 m2 f2 q2 => ?_
  exact k M2 H2 M H v v2 d d2 Q _ m2 (f.trans f2) (Is.ext (f2.ext m) _ _ i) i2 fin q2
theorem de_bin {op : Operator} {r : R2D} (ho : OpD g.X (binaryOp op) r) (ha : DE g a ta) (hb : DE g b tb) : DE g (.BinOp a op b pos) (dBin r ta tb) := by
  obtain ⟨r', h, k⟩ := ho
  exact DE.of (pe_op h ha.pe hb.pe) fun σ H e M Q sl mr fr q => low_bin k sl mr fr q fin_low
theorem de_cmp {op : CmpOp} {r : R2D} (ho : OpD g.X (compareOp op) r) (ha : DE g a ta) (hb : DE g b tb) (hm : behindInMarks op b = false) : DE g (.Compare a [op] [b] pos) (dBin r ta tb) := by
  obtain ⟨r', h, k⟩ := ho
  exact DE.of (pe_cmpR h ha.pe hb.pe hm) fun σ H e M Q sl mr fr q => low_bin k sl mr fr q fin_low
/-- a wish of a truth, on trees -/
def bQ (Q : Bool → Mem → Prop) : QE := fun x M => match x with | .bl b => Q b M | _ => False
def dTest (t : DTE) : DTT := fun e M Q E => t e M (bQ Q) E
theorem bQ_out {K : PySem.W.Frag} {Mo : Mem} {Ho : Hp} {Q : Bool → Mem → Prop} {QV : Bool → Hp → Prop} (k : ∀ b M' H', MRel K M' H' → Fr Mo Ho M' H' → Q b M' → QV b H') :
    Fin K Mo Ho (bQ Q) (fun x H' => ∃ c, x = .bl c ∧ QV c H') := fun v d M' H' i m f q => by
  cases d with
  | bl b => rw [is_bl] at i; exact ⟨b, i, k b M' H' m f q⟩
  | _ => exact q.elim
theorem dt_cmp {op : CmpOp} {r : R2D} (ho : OpD g.X (compareOp op) r) (ha : DE g a ta) (hb : DE g b tb) (hm : behindInMarks op b = false) : DT g (.Compare a [op] [b] pos) (dTest (dBin r ta tb)) := by
  obtain ⟨r', h, k⟩ := ho
  exact DT.of (pt_cmpR h ha.pe hb.pe hm) fun σ H e M Q sl mr fr q => low_bin k sl mr fr q (bQ_out fun b M' H' m f q => ⟨M', m, f, q⟩)
/-- a op b op' c: the second way is looked at where the first holds -/
def dChain (r r' : R2D) (ta tb tc : DTE) : DTE := fun e M Q E => ta e M (fun x M1 => tb e M1 (fun y M2 => r x y M2 (bQ fun c M3 => if c = true then tc e M3 (fun z M4 => r' y z M4 Q) E else Q (.bl false) M3)) E) E
end
section
variable {K : PySem.W.Frag}
/-- the union of two readings, by the trees -/
theorem OpD.or {X : Cx} {f : Value → Value → Sem Value} {r r' : R2D} (h : OpD X f r) (h' : OpD X f r') : OpD X f (fun x y M Q => r x y M Q ∨ r' x y M Q) := by
  obtain ⟨s, h1, k1⟩ := h
  obtain ⟨s', h2, k2⟩ := h'
  refine ⟨_, h1.or h2, fun M H Mo Ho x y a b Q QV m f i j fin q => ?_⟩
  rcases q with q | q
  · exact .inl (k1 M H Mo Ho x y a b Q QV m f i j fin q)
  · exact .inr (k2 M H Mo Ho x y a b Q QV m f i j fin q)
theorem OpD.imp {X : Cx} {f : Value → Value → Sem Value} {r r' : R2D} (h : OpD X f r) (k : ∀ x y M Q, r' x y M Q → r x y M Q) : OpD X f r' := by
  obtain ⟨s, h1, k1⟩ := h
  exact ⟨s, h1, fun M H Mo Ho x y a b Q QV m f i j fin q => k1 M H Mo Ho x y a b Q QV m f i j fin (k _ _ _ _ q)⟩
end
def dI (C : Int → Int → Prop) (f : Int → Int → D) : R2D := fun x y M Q => match x, y with | .int i, .int j => C i j ∧ Q (f i j) M | _, _ => False
theorem opd_int {X : Cx} {f : Value → Value → Sem Value} {C : Int → Int → Prop} {h : Int → Int → Int} (o : OpR X f (rI C fun i j => .int (h i j))) : OpD X f (dI C fun i j => .int (h i j)) := by
  refine ⟨_, o, fun M H Mo Ho x y a b Q QV m f i j fin q => ?_⟩
  cases a with
  | int k =>
    cases b with
    | int l =>
      rw [is_int] at i j
      exact ⟨k, l, i, j, q.1, fin _ _ _ _ ii_int m f q.2⟩
    | _ => exact q.elim
  | _ => exact q.elim
theorem opd_int0 {X : Cx} {f : Value → Value → Sem Value} {h : Int → Int → Int} (o : OpR X f (rI0 fun i j => .int (h i j))) : OpD X f (dI (fun _ _ => True) fun i j => .int (h i j)) := by
  refine ⟨_, o, fun M H Mo Ho x y a b Q QV m f i j fin q => ?_⟩
  cases a with
  | int k =>
    cases b with
    | int l =>
      rw [is_int] at i j
      exact ⟨k, l, i, j, fin _ _ _ _ ii_int m f q.2⟩
    | _ => exact q.elim
  | _ => exact q.elim
theorem opd_intB {X : Cx} {f : Value → Value → Sem Value} {h : Int → Int → Bool} (o : OpR X f (rI0 fun i j => .bl (h i j))) : OpD X f (dI (fun _ _ => True) fun i j => .bl (h i j)) := by
  refine ⟨_, o, fun M H Mo Ho x y a b Q QV m f i j fin q => ?_⟩
  cases a with
  | int k =>
    cases b with
    | int l =>
      rw [is_int] at i j
      exact ⟨k, l, i, j, fin _ _ _ _ ii_bl m f q.2⟩
    | _ => exact q.elim
  | _ => exact q.elim
/-! a + b -/
def dAddS : R2D := fun x y M Q => match x, y with | .str a, .str b => a.length + b.length ≤ sizeLine ∧ Q (.str (a ++ b)) M | _, _ => False
def dAddT : R2D := fun x y M Q => match x, y with | .tup a, .tup b => a.length + b.length ≤ sizeLine ∧ Q (.tup (a ++ b)) M | _, _ => False
def dAddL : R2D := fun x y M Q => match x, y with
  | .ref a, .ref b => ∃ xs ys, M a = some (.lst xs) ∧ M b = some (.lst ys) ∧ xs.length + ys.length ≤ sizeLine ∧ ∀ p, M p = none → Q (.ref p) (wr M p (.lst (xs ++ ys)))
  | _, _ => False
section
variable {X : Cx}
theorem opd_addS : OpD X (binaryOp .Add) dAddS := by
  refine ⟨_, op_add_str, fun M H Mo Ho x y a b Q QV m f i j fin q => ?_⟩
  cases a with
  | str k =>
    cases b with
    | str l =>
      rw [is_str] at i j
      exact ⟨k, l, i, j, q.1, fin _ _ _ _ ii_str m f q.2⟩
    | _ => exact q.elim
  | _ => exact q.elim
theorem opd_addL : OpD X (binaryOp .Add) dAddL := by
  refine ⟨_, op_cat, fun M H Mo Ho x y a b Q QV m f i j fin q => ?_⟩
  cases a with
  | ref k =>
    cases b with
    | ref l =>
      rw [is_ref] at i j
      obtain ⟨xs, ys, h1, h2, hl, q⟩ := q
      obtain ⟨vs, e1, l1⟩ := m k _ h1
      obtain ⟨ws, e2, l2⟩ := m l _ h2
      exact ⟨k, l, vs, ws, i, j, e1, e2, by rw [l1.length, l2.length]; exact hl, fin.newL m f (l1.append l2) q⟩
    | _ => exact q.elim
  | _ => exact q.elim
theorem opd_addT : OpD X (binaryOp .Add) dAddT := by
  refine ⟨_, op_catA, fun M H Mo Ho x y a b Q QV m f i j fin q => ?_⟩
  cases a with
  | tup k =>
    cases b with
    | tup l =>
      have i0 := i
      have j0 := j
      rw [is_tup] at i j
      obtain ⟨p1, vs, rfl, h1, l1⟩ := i
      obtain ⟨p2, ws, rfl, h2, l2⟩ := j
      refine ⟨p1, p2, vs, ws, rfl, rfl, SqT.of h1, SqT.of h2, by rw [l1.length, l2.length]; exact q.1, fun e => ?_, fun _ e => ?_, fun _ _ => fin.newT m f (l1.append l2) q.2⟩
      · have ek : k = [] := by
          have := l1.length
          rw [e] at this
          exact List.length_eq_zero_iff.mp this.symm
        subst ek
        exact fin _ _ _ _ j0 m f q.2
      · have el : l = [] := by
          have := l2.length
          rw [e] at this
          exact List.length_eq_zero_iff.mp this.symm
        subst el
        have q2 : Q (.tup k) M := by simpa using q.2
        exact fin _ _ _ _ i0 m f q2
    | _ => exact q.elim
  | _ => exact q.elim
/-- the things of a list that stands, or that nobody writes -/
def lsD (M : Mem) (d : D) (R : List D → Prop) : Prop := match d with
  | .ref a => ∃ xs, M a = some (.lst xs) ∧ R xs
  | .rl xs => R xs
  | _ => False
theorem lsD_sq {X : Cx} {M : Mem} {H : Hp} {d : D} {v : V} {R : List D → Prop} (m : MRel X.K M H) (i : Is X.K H d v) (h : lsD M d R) : ∃ a vs ds, v = .ref a ∧ SqL X.K H a vs ∧ IsL X.K H ds vs ∧ R ds := by
  cases d with
  | ref a =>
    rw [is_ref] at i
    obtain ⟨xs, h1, r⟩ := h
    obtain ⟨vs, e1, l1⟩ := m a _ h1
    exact ⟨a, vs, xs, i, .inl (.inl e1), l1, r⟩
  | rl xs =>
    rw [is_rl] at i
    obtain ⟨a, vs, rfl, e, l⟩ := i
    exact ⟨a, vs, xs, rfl, e.sq, l, h⟩
  | _ => exact h.elim
def dAddQ : R2D := fun x y M Q => lsD M x fun xs => lsD M y fun ys => xs.length + ys.length ≤ sizeLine ∧ ∀ p, M p = none → Q (.ref p) (wr M p (.lst (xs ++ ys)))
theorem opd_addQ : OpD X (binaryOp .Add) dAddQ := by
  refine ⟨_, op_catL, fun M H Mo Ho x y a b Q QV m f i j fin q => ?_⟩
  obtain ⟨k, vs, xs, rfl, s1, l1, q⟩ := lsD_sq m i q
  obtain ⟨l, ws, ys, rfl, s2, l2, hl, q⟩ := lsD_sq m j q
  exact ⟨k, l, vs, ws, rfl, rfl, s1, s2, by rw [l1.length, l2.length]; exact hl, fin.newL m f (l1.append l2) q⟩
/-- the reading of +, by what stands on both sides -/
def dAdd : R2D := fun x y M Q => match x with
  | .int i => (match y with | .int j => Q (.int (i + j)) M | _ => False)
  | .str a => (match y with | .str b => a.length + b.length ≤ sizeLine ∧ Q (.str (a ++ b)) M | _ => False)
  | .tup a => (match y with | .tup b => a.length + b.length ≤ sizeLine ∧ Q (.tup (a ++ b)) M | _ => False)
  | .ref a => (match y with | .ref b => ∃ xs ys, M a = some (.lst xs) ∧ M b = some (.lst ys) ∧ xs.length + ys.length ≤ sizeLine ∧ ∀ p, M p = none → Q (.ref p) (wr M p (.lst (xs ++ ys))) | .rl ys => ∃ xs, M a = some (.lst xs) ∧ xs.length + ys.length ≤ sizeLine ∧ ∀ p, M p = none → Q (.ref p) (wr M p (.lst (xs ++ ys))) | _ => False)
  | .rl xs => (match y with | .ref b => ∃ ys, M b = some (.lst ys) ∧ xs.length + ys.length ≤ sizeLine ∧ ∀ p, M p = none → Q (.ref p) (wr M p (.lst (xs ++ ys))) | .rl ys => xs.length + ys.length ≤ sizeLine ∧ ∀ p, M p = none → Q (.ref p) (wr M p (.lst (xs ++ ys))) | _ => False)
  | _ => False
theorem opd_add : OpD X (binaryOp .Add) dAdd := by
  refine OpD.imp ((opd_int0 op_add).or (opd_addS.or (opd_addT.or opd_addQ))) fun x y M Q q => ?_
  cases x with
  | int i => cases y with
    | int j => exact .inl ⟨trivial, q⟩
    | _ => exact q.elim
  | str i => cases y with
    | str j => exact .inr (.inl q)
    | _ => exact q.elim
  | tup i => cases y with
    | tup j => exact .inr (.inr (.inl q))
    | _ => exact q.elim
  | ref i => cases y with
    | ref j => obtain ⟨xs, ys, h1, h2, q⟩ := q; exact .inr (.inr (.inr ⟨xs, h1, ys, h2, q⟩))
    | rl j => obtain ⟨xs, h1, q⟩ := q; exact .inr (.inr (.inr ⟨xs, h1, q⟩))
    | _ => exact q.elim
  | rl i => cases y with
    | ref j => obtain ⟨ys, h2, q⟩ := q; exact .inr (.inr (.inr ⟨ys, h2, q⟩))
    | rl j => exact .inr (.inr (.inr q))
    | _ => exact q.elim
  | _ => exact q.elim
def dSub : R2D := dI (fun _ _ => True) fun i j => .int (i - j)
theorem opd_sub : OpD X (binaryOp .Sub) dSub := opd_int0 op_sub
/-- one factor below 2 ^ 64, or both together of less than a million bits -/
def CM (i j : Int) : Prop := CMul i j ∨ CMulW i j
theorem op_mulM : OpR X (binaryOp .Mult) (rI CM fun i j => .int (i * j)) := opI fun _ _ _ _ _ _ _ hc q => mul_int q (hc.elim CMul.ok CMulW.ok)
def dMulI : R2D := dI CM fun i j => .int (i * j)
def dMulL : R2D := fun x y M Q => match x, y with
  | .ref a, .int k => ∃ xs, M a = some (.lst xs) ∧ -(2 ^ 63) ≤ k ∧ k < 2 ^ 63 ∧ xs.length * k.toNat ≤ sizeLine ∧ ∀ p, M p = none → Q (.ref p) (wr M p (.lst (List.replicate k.toNat xs).flatten))
  | _, _ => False
theorem opd_mulL : OpD X (binaryOp .Mult) dMulL := by
  refine ⟨_, op_rep, fun M H Mo Ho x y a b Q QV m f i j fin q => ?_⟩
  cases a with
  | ref k =>
    cases b with
    | int l =>
      rw [is_ref] at i
      rw [is_int] at j
      obtain ⟨xs, h1, b1, b2, b3, q⟩ := q
      obtain ⟨vs, e1, l1⟩ := m k _ h1
      refine ⟨k, l, vs, i, j, e1, b1, b2, by rw [l1.length]; exact b3, fin.newL m f ?_ q⟩
      have : ∀ n : Nat, IsL X.K H (List.replicate n xs).flatten (List.replicate n vs).flatten := fun n => by
        induction n with
        | zero => simp [isL_nil]
        | succ n ih =>
          rw [List.replicate_succ, List.replicate_succ, List.flatten_cons, List.flatten_cons]
          exact l1.append ih
      exact this _
    | _ => exact q.elim
  | _ => exact q.elim
def CD' (i j : Int) : Prop := 0 < j ∧ j < 2 ^ 64
theorem op_fdivD : OpR X (binaryOp .FloorDiv) (rI CD' fun i j => .int (i / j)) := opI fun i j _ _ _ _ _ hc q => by
  have h1 : (0 : Int) < j := hc.1
  refine floordiv_int (by omega) (by rw [Int.fdiv_eq_ediv_of_nonneg i (by omega)]; exact q) (.inl (PyProof.noPylong_of_log2 ?_))
  have h2 : j.natAbs < 2 ^ 64 := by
    have := hc.2
    omega
  exact Nat.lt_of_lt_of_le (PySem.Flt.log2_lt_of (by decide) h2) (by decide)
def dFdiv : R2D := dI CD' fun i j => .int (i / j)
theorem opd_fdiv : OpD X (binaryOp .FloorDiv) dFdiv := opd_int op_fdivD
def dMod : R2D := dI (fun _ j => 0 < j) fun i j => .int (i % j)
theorem opd_mod : OpD X (binaryOp .Mod) dMod := opd_int op_mod
end
section
variable {X : Cx}
/-! == and != : numbers and texts at once, data of any depth by PD -/
/-- what == looks through -/
def okP (p : PyData) : Bool := p.plain && decide (p.depth ≤ 64)
theorem okP.pl {p : PyData} (h : okP p = true) : p.plain = true := (Bool.and_eq_true_iff.mp h).1
theorem okP.dp {p : PyData} (h : okP p = true) : p.depth ≤ 64 := of_decide_eq_true (Bool.and_eq_true_iff.mp h).2
mutual
theorem plain_nodict : ∀ p : PyData, p.plain = true → p.hasDict = false
  | .none, _ => by simp [PyData.hasDict]
  | .bool _, _ => by simp [PyData.hasDict]
  | .int _, _ => by simp [PyData.hasDict]
  | .str _, _ => by simp [PyData.hasDict]
  | .list xs, h => by
    rw [PyData.plain] at h
    simpa [PyData.hasDict] using plain_nodictL xs h
  | .tuple xs, h => by
    rw [PyData.plain] at h
    simpa [PyData.hasDict] using plain_nodictL xs h
  | .dict _, h => by rw [PyData.plain] at h; cases h
theorem plain_nodictL : ∀ ps : List PyData, PyData.plainAll ps = true → PyData.hasDictAll ps = false
  | [], _ => by simp [PyData.hasDictAll]
  | p :: ps, h => by
    rw [PyData.plainAll, Bool.and_eq_true] at h
    simp [PyData.hasDictAll, plain_nodict p h.1, plain_nodictL ps h.2]
end
def rEqP (K : PySem.W.Frag) (neg : Bool) : R2 := fun x y H Q => ∃ M a b p q, MRel K M H ∧ Is K H a x ∧ Is K H b y ∧ PD M a p ∧ PD M b q ∧ okP p = true ∧ okP q = true ∧ Q (.bl (if neg then !PyData.eqv p q else PyData.eqv p q)) H
theorem nodict_of {p : PyData} (h : okP p = true) : p.hasDict = false := plain_nodict p (okP.pl h)
theorem op_eqP (hu : X.A.units + 64 < cLine) : OpR X (compareOp .Eq) (rEqP X.K false) := by
  intro pins s σ H x y v u Q I rx ry h
  obtain ⟨M, a, b, p, q, m, i, j, h1, h2, s1, s2, hq⟩ := h
  obtain ⟨as, r1⟩ := PD.reads I m p a x v h1 i rx (nodict_of s1)
  obtain ⟨bs, r2⟩ := PD.reads I m q b y u h2 j ry (nodict_of s2)
  exact SeqAt.eq_plain r1 r2 (okP.pl s1) (okP.pl s2) (by have := okP.dp s1; have : min p.depth q.depth ≤ p.depth := Nat.min_le_left _ _; omega) ⟨.bl _, H, I, rfl, hq⟩
theorem op_neP (hu : X.A.units + 64 < cLine) : OpR X (compareOp .NotEq) (rEqP X.K true) := by
  intro pins s σ H x y v u Q I rx ry h
  obtain ⟨M, a, b, p, q, m, i, j, h1, h2, s1, s2, hq⟩ := h
  obtain ⟨as, r1⟩ := PD.reads I m p a x v h1 i rx (nodict_of s1)
  obtain ⟨bs, r2⟩ := PD.reads I m q b y u h2 j ry (nodict_of s2)
  exact SeqAt.ne_plain r1 r2 (okP.pl s1) (okP.pl s2) (by have := okP.dp s1; have : min p.depth q.depth ≤ p.depth := Nat.min_le_left _ _; omega) ⟨.bl _, H, I, rfl, hq⟩
/-- the scalars that == tells apart at once -/
def scalD : D → D → Option Bool
  | .int i, .int j => some (decide (i = j))
  | .str i, .str j => some (decide (i = j))
  | .bl i, .bl j => some (decide (i = j))
  | .non, .non => some true
  | .non, .int _ => some false
  | .int _, .non => some false
  | .non, .bl _ => some false
  | .bl _, .non => some false
  | .non, .str _ => some false
  | .str _, .non => some false
  | .int _, .str _ => some false
  | .str _, .int _ => some false
  | .bl _, .str _ => some false
  | .str _, .bl _ => some false
  | _, _ => none
def dEqB (x y : D) (M : Mem) (Q : Bool → Prop) : Prop := match scalD x y with
  | some b => Q b
  | none => ∃ p q, PD M x p ∧ PD M y q ∧ okP p = true ∧ okP q = true ∧ Q (PyData.eqv p q)
def dEq : R2D := fun x y M Q => dEqB x y M fun b => Q (.bl b) M
def dNe : R2D := fun x y M Q => dEqB x y M fun b => Q (.bl (!b)) M
theorem scalD_ok {K : PySem.W.Frag} {H : Hp} {x y : D} {v u : V} {b : Bool} (h : scalD x y = some b) (i : Is K H x v) (j : Is K H y u) : scal v u = true ∧ decide (v = u) = b := by
  cases x with
  | int i' => rw [is_int] at i; subst i; cases y with
    | int j' => rw [is_int] at j; subst j; cases h; exact ⟨rfl, by simp⟩
    | str j' => rw [is_str] at j; subst j; cases h; exact ⟨rfl, by simp⟩
    | non => rw [is_non] at j; subst j; cases h; exact ⟨rfl, by simp⟩
    | _ => cases h
  | str i' => rw [is_str] at i; subst i; cases y with
    | int j' => rw [is_int] at j; subst j; cases h; exact ⟨rfl, by simp⟩
    | str j' => rw [is_str] at j; subst j; cases h; exact ⟨rfl, by simp⟩
    | bl j' => rw [is_bl] at j; subst j; cases h; exact ⟨rfl, by simp⟩
    | non => rw [is_non] at j; subst j; cases h; exact ⟨rfl, by simp⟩
    | _ => cases h
  | bl i' => rw [is_bl] at i; subst i; cases y with
    | bl j' => rw [is_bl] at j; subst j; cases h; exact ⟨rfl, by simp⟩
    | str j' => rw [is_str] at j; subst j; cases h; exact ⟨rfl, by simp⟩
    | non => rw [is_non] at j; subst j; cases h; exact ⟨rfl, by simp⟩
    | _ => cases h
  | non => rw [is_non] at i; subst i; cases y with
    | int j' => rw [is_int] at j; subst j; cases h; exact ⟨rfl, by simp⟩
    | str j' => rw [is_str] at j; subst j; cases h; exact ⟨rfl, by simp⟩
    | bl j' => rw [is_bl] at j; subst j; cases h; exact ⟨rfl, by simp⟩
    | non => rw [is_non] at j; subst j; cases h; exact ⟨rfl, by simp⟩
    | _ => cases h
  | _ => cases h
theorem opd_eq (hu : X.A.units + 64 < cLine) : OpD X (compareOp .Eq) dEq := by
  refine ⟨_, op_eq.or (op_eqP hu), fun M H Mo Ho x y a b Q QV m f i j fin q => ?_⟩
  have q' : dEqB a b M fun c => Q (.bl c) M := q
  unfold dEqB at q'
  cases e : scalD a b with
  | some c =>
    rw [e] at q'
    obtain ⟨z1, z2⟩ := scalD_ok e i j
    exact .inl ⟨z1, by rw [z2]; exact fin _ _ _ _ ii_bl m f q'⟩
  | none =>
    rw [e] at q'
    obtain ⟨p, p', h1, h2, s1, s2, q'⟩ := q'
    exact .inr ⟨M, a, b, p, p', m, i, j, h1, h2, s1, s2, fin _ _ _ _ ii_bl m f q'⟩
theorem opd_ne (hu : X.A.units + 64 < cLine) : OpD X (compareOp .NotEq) dNe := by
  refine ⟨_, op_ne.or (op_neP hu), fun M H Mo Ho x y a b Q QV m f i j fin q => ?_⟩
  have q' : dEqB a b M fun c => Q (.bl (!c)) M := q
  unfold dEqB at q'
  cases e : scalD a b with
  | some c =>
    rw [e] at q'
    obtain ⟨z1, z2⟩ := scalD_ok e i j
    exact .inl ⟨z1, by rw [z2]; exact fin _ _ _ _ ii_bl m f q'⟩
  | none =>
    rw [e] at q'
    obtain ⟨p, p', h1, h2, s1, s2, q'⟩ := q'
    exact .inr ⟨M, a, b, p, p', m, i, j, h1, h2, s1, s2, fin _ _ _ _ ii_bl m f q'⟩
/-! <, <=, >, >= : numbers, texts -/
def ltS (a b : Str) : Bool := decide (a.cps.toList < b.cps.toList)
def dLtS : R2D := fun x y M Q => match x, y with | .str a, .str b => Q (.bl (ltS a b)) M | _, _ => False
theorem opd_ltS : OpD X (compareOp .Lt) dLtS := by
  refine ⟨_, op_lt_str, fun M H Mo Ho x y a b Q QV m f i j fin q => ?_⟩
  cases a with
  | str k => cases b with
    | str l =>
      rw [is_str] at i j
      exact ⟨k, l, i, j, fin _ _ _ _ ii_bl m f q⟩
    | _ => exact q.elim
  | _ => exact q.elim
def dLt : R2D := fun x y M Q => match x with
  | .int i => (match y with | .int j => Q (.bl (decide (i < j))) M | _ => False)
  | .str a => (match y with | .str b => Q (.bl (ltS a b)) M | _ => False)
  | _ => False
theorem opd_lt : OpD X (compareOp .Lt) dLt := by
  refine OpD.imp ((opd_intB op_lt).or opd_ltS) fun x y M Q q => ?_
  cases x with
  | int i => cases y with
    | int j => exact .inl ⟨trivial, q⟩
    | _ => exact q.elim
  | str i => cases y with
    | str j => exact .inr q
    | _ => exact q.elim
  | _ => exact q.elim
def dIB (f : Int → Int → Bool) : R2D := fun x y M Q => match x with
  | .int i => (match y with | .int j => Q (.bl (f i j)) M | _ => False)
  | _ => False
theorem opd_IB {fn : Value → Value → Sem Value} {h : Int → Int → Bool} (o : OpR X fn (rI0 fun i j => .bl (h i j))) : OpD X fn (dIB h) := by
  refine OpD.imp (opd_intB o) fun x y M Q q => ?_
  cases x with
  | int i => cases y with
    | int j => exact ⟨trivial, q⟩
    | _ => exact q.elim
  | _ => exact q.elim
theorem opd_le : OpD X (compareOp .LtE) (dIB fun i j => decide (i ≤ j)) := opd_IB op_le
theorem opd_gt : OpD X (compareOp .Gt) (dIB fun i j => decide (j < i)) := opd_IB op_gt
theorem opd_ge : OpD X (compareOp .GtE) (dIB fun i j => decide (j ≤ i)) := opd_IB op_ge
/-! is, is not: None, truths -/
def isNon : D → Bool
  | .non => true
  | _ => false
def dIs (neg : Bool) : R2D := fun x y M Q => match y with
  | .non => Q (.bl (if neg then !isNon x else isNon x)) M
  | .bl b => (match x with | .bl a => Q (.bl (if neg then !decide (a = b) else decide (a = b))) M | _ => False)
  | _ => False
theorem isNon_iff {K : PySem.W.Frag} {H : Hp} {x : D} {v : V} (i : Is K H x v) : decide (v = V.non) = isNon x := by
  cases x with
  | non => rw [is_non] at i; subst i; rfl
  | bl _ => rw [is_bl] at i; subst i; rfl
  | int _ => rw [is_int] at i; subst i; rfl
  | str _ => rw [is_str] at i; subst i; rfl
  | ref _ => rw [is_ref] at i; subst i; rfl
  | ty _ => rw [is_ty] at i; subst i; rfl
  | tup _ => rw [is_tup] at i; obtain ⟨a, _, rfl, _⟩ := i; rfl
  | rl _ => rw [is_rl] at i; obtain ⟨a, _, rfl, _⟩ := i; rfl
  | tx _ => rw [is_tx] at i; obtain ⟨a, _, rfl, _⟩ := i; rfl
theorem opd_is : OpD X (compareOp .Is) (dIs false) := by
  refine ⟨_, op_isN.or op_is_bl, fun M H Mo Ho x y a b Q QV m f i j fin q => ?_⟩
  cases b with
  | non =>
    rw [is_non] at j
    exact .inl ⟨j, by rw [isNon_iff i]; exact fin _ _ _ _ ii_bl m f q⟩
  | bl c => cases a with
    | bl d =>
      rw [is_bl] at i j
      exact .inr ⟨d, c, i, j, fin _ _ _ _ ii_bl m f q⟩
    | _ => exact q.elim
  | _ => exact q.elim
theorem opd_isNot : OpD X (compareOp .IsNot) (dIs true) := by
  refine ⟨_, op_notN.or op_isnot_bl, fun M H Mo Ho x y a b Q QV m f i j fin q => ?_⟩
  cases b with
  | non =>
    rw [is_non] at j
    exact .inl ⟨j, by rw [isNon_iff i]; exact fin _ _ _ _ ii_bl m f q⟩
  | bl c => cases a with
    | bl d =>
      rw [is_bl] at i j
      exact .inr ⟨d, c, i, j, fin _ _ _ _ ii_bl m f q⟩
    | _ => exact q.elim
  | _ => exact q.elim
end
end DL

/-! in, subscripts, slices, built-in functions and methods by trees. -/
namespace DL
open PySem PySem.Spec PyProof.Rows L2

/-! ### dicts by trees -/
section
variable {κ : Type} [DecidableEq κ]
def valG {α : Type} (kvs : List (κ × α)) (k : κ) : Option α := (kvs.find? fun kv => decide (kv.1 = k)).map (·.2)
def putG {α : Type} (kvs : List (κ × α)) (k : κ) (v : α) : List (κ × α) := if (kvs.any fun kv => decide (kv.1 = k)) = true then kvs.map (fun kv => if kv.1 = k then (kv.1, v) else kv) else kvs ++ [(k, v)]
theorem valG_cons {α : Type} (p : κ × α) (r : List (κ × α)) (k : κ) : valG (p :: r) k = if p.1 = k then some p.2 else valG r k := by
  unfold valG
  by_cases h : p.1 = k <;> simp [List.find?_cons, h]
/-- two lists of pairs with like keys, the values alike -/
def KRel (K : PySem.W.Frag) (H : Hp) (kvs : List (κ × D)) (ws : List (κ × V)) : Prop := ws.map (·.1) = kvs.map (·.1) ∧ IsL K H (kvs.map (·.2)) (ws.map (·.2))
theorem KRel.nil {K : PySem.W.Frag} {H : Hp} : KRel K H ([] : List (κ × D)) [] := ⟨rfl, isL_nil.mpr rfl⟩
theorem KRel.inv {K : PySem.W.Frag} {H : Hp} {k : κ} {d : D} {kvs : List (κ × D)} {ws : List (κ × V)} (h : KRel K H ((k, d) :: kvs) ws) : ∃ v r, ws = (k, v) :: r ∧ Is K H d v ∧ KRel K H kvs r := by
  obtain ⟨h1, h2⟩ := h
  cases ws with
  | nil => simp at h1
  | cons p r =>
    obtain ⟨k', v⟩ := p
    simp only [List.map_cons, List.cons.injEq] at h1 h2
    rw [isL_cons] at h2
    obtain ⟨v', r', e, i, l⟩ := h2
    injection e with e1 e2
    subst e1 e2
    obtain ⟨rfl, h1⟩ := h1
    exact ⟨v, r, rfl, i, h1, l⟩
theorem KRel.mk {K : PySem.W.Frag} {H : Hp} {k : κ} {d : D} {v : V} {kvs : List (κ × D)} {ws : List (κ × V)} (i : Is K H d v) (h : KRel K H kvs ws) : KRel K H ((k, d) :: kvs) ((k, v) :: ws) :=
  ⟨by simp [h.1], IsL.mk i h.2⟩
theorem KRel.nil_of {K : PySem.W.Frag} {H : Hp} {ws : List (κ × V)} (h : KRel K H ([] : List (κ × D)) ws) : ws = [] := by
  have := h.1
  simpa using this
theorem KRel.length {K : PySem.W.Frag} {H : Hp} {kvs : List (κ × D)} {ws : List (κ × V)} (h : KRel K H kvs ws) : ws.length = kvs.length := by
  have := congrArg List.length h.1
  simpa using this
theorem KRel.some {K : PySem.W.Frag} {H : Hp} {k : κ} {d : D} : ∀ {kvs : List (κ × D)} {ws : List (κ × V)}, KRel K H kvs ws → valG kvs k = some d → ∃ v, valV ws k = some v ∧ Is K H d v
  | [], _, _, e => by simp [valG] at e
  | (k', d') :: kvs, ws, h, e => by
    obtain ⟨v, r, rfl, i, t⟩ := h.inv
    rw [valG_cons] at e
    by_cases hk : k' = k
    · rw [if_pos hk] at e
      cases e
      exact ⟨v, valV_pos hk, i⟩
    · rw [if_neg hk] at e
      obtain ⟨u, e1, e2⟩ := KRel.some t e
      exact ⟨u, by rw [valV_neg hk]; exact e1, e2⟩
theorem KRel.none {K : PySem.W.Frag} {H : Hp} {k : κ} : ∀ {kvs : List (κ × D)} {ws : List (κ × V)}, KRel K H kvs ws → valG kvs k = Option.none → valV ws k = Option.none
  | [], _, h, e => by rw [h.nil_of]; rfl
  | (k', d') :: kvs, ws, h, e => by
    obtain ⟨v, r, rfl, i, t⟩ := h.inv
    rw [valG_cons] at e
    by_cases hk : k' = k
    · rw [if_pos hk] at e; cases e
    · rw [if_neg hk] at e
      rw [valV_neg hk]
      exact KRel.none t e
theorem KRel.append {K : PySem.W.Frag} {H : Hp} {kvs k2 : List (κ × D)} {ws w2 : List (κ × V)} (h : KRel K H kvs ws) (h' : KRel K H k2 w2) : KRel K H (kvs ++ k2) (ws ++ w2) := by
  refine ⟨by rw [List.map_append, List.map_append, h.1, h'.1], ?_⟩
  rw [List.map_append, List.map_append]
  exact h.2.append h'.2
theorem KRel.put {K : PySem.W.Frag} {H : Hp} {k : κ} {d : D} {v : V} (i : Is K H d v) {kvs : List (κ × D)} {ws : List (κ × V)} (h : KRel K H kvs ws) : KRel K H (putG kvs k d) (putK ws k v) := by
  have key : ∀ {kvs : List (κ × D)} {ws : List (κ × V)}, KRel K H kvs ws → (kvs.any fun kv => decide (kv.1 = k)) = (ws.any fun kv => decide (kv.1 = k)) := by
    intro kvs
    induction kvs with
    | nil => intro ws h; rw [h.nil_of]; rfl
    | cons p r ih =>
      intro ws h
      obtain ⟨k', d'⟩ := p
      obtain ⟨v, r', rfl, i, t⟩ := h.inv
      simp only [List.any_cons, ih t]
  have rep : ∀ {kvs : List (κ × D)} {ws : List (κ × V)}, KRel K H kvs ws → KRel K H (kvs.map fun kv => if kv.1 = k then (kv.1, d) else kv) (ws.map fun kv => if kv.1 = k then (kv.1, v) else kv) := by
    intro kvs
    induction kvs with
    | nil => intro ws h; rw [h.nil_of]; exact KRel.nil
    | cons p r ih =>
      intro ws h
      obtain ⟨k', d'⟩ := p
      obtain ⟨v', r', rfl, i', t⟩ := h.inv
      simp only [List.map_cons]
      by_cases hk : k' = k
      · rw [if_pos hk, if_pos hk]
        exact KRel.mk i (ih t)
      · rw [if_neg hk, if_neg hk]
        exact KRel.mk i' (ih t)
  unfold putG putK
  rw [key h]
  split
  · exact rep h
  · exact h.append (KRel.mk i KRel.nil)
end
/-- a dict's key -/
def keyD : D → Option Key
  | .int i => some (.inl i)
  | .str s => some (.inr s)
  | _ => none
theorem keyD_is {K : PySem.W.Frag} {H : Hp} {d : D} {v : V} {k : Key} (i : Is K H d v) (e : keyD d = some k) : v = kV k := by
  cases d with
  | int j => cases e; rw [is_int] at i; exact i
  | str j => cases e; rw [is_str] at i; exact i
  | _ => cases e
def keysD : List D → Option (List Key)
  | [] => some []
  | d :: ds => match keyD d, keysD ds with
    | some k, some ks => some (k :: ks)
    | _, _ => none
theorem keysD_is {K : PySem.W.Frag} {H : Hp} : ∀ {ds : List D} {vs : List V} {ks : List Key}, IsL K H ds vs → keysD ds = some ks → vs = ks.map kV
  | [], vs, ks, h, e => by rw [isL_nil] at h; subst h; cases e; rfl
  | d :: ds, vs, ks, h, e => by
    rw [isL_cons] at h
    obtain ⟨v, r, rfl, i, t⟩ := h
    unfold keysD at e
    split at e
    · rename_i k ks' h1 h2
      cases e
      rw [List.map_cons, keyD_is i h1, keysD_is t h2]
    · cases e

/-! ### in, not in -/
/-- the scalars -/
def flatS : D → Bool
  | .non => true
  | .bl _ => true
  | .int _ => true
  | .str _ => true
  | _ => false
def toV : D → V
  | .non => .non
  | .bl b => .bl b
  | .int i => .int i
  | .str s => .str s
  | _ => .non
section
variable {K : PySem.W.Frag} {H : Hp}
theorem flatS_is {d : D} {v : V} (f : flatS d = true) (i : Is K H d v) : v = toV d ∧ flatV v = true := by
  cases d with
  | non => rw [is_non] at i; exact ⟨i, by rw [i]; rfl⟩
  | bl b => rw [is_bl] at i; exact ⟨i, by rw [i]; rfl⟩
  | int b => rw [is_int] at i; exact ⟨i, by rw [i]; rfl⟩
  | str b => rw [is_str] at i; exact ⟨i, by rw [i]; rfl⟩
  | _ => cases f
theorem flatS_all : ∀ {ds : List D} {vs : List V}, ds.all flatS = true → IsL K H ds vs → vs = ds.map toV ∧ vs.all flatV = true
  | [], vs, _, h => by rw [isL_nil] at h; subst h; exact ⟨rfl, rfl⟩
  | d :: ds, vs, f, h => by
    rw [isL_cons] at h
    obtain ⟨v, r, rfl, i, t⟩ := h
    rw [List.all_cons, Bool.and_eq_true] at f
    obtain ⟨e1, f1⟩ := flatS_is f.1 i
    obtain ⟨e2, f2⟩ := flatS_all f.2 t
    exact ⟨by rw [List.map_cons, ← e1, ← e2], by rw [List.all_cons, f1, f2]; rfl⟩
end
/-- x in a row of things, as a truth -/
def inSeq (x : D) (xs : List D) (M : Mem) (Q : Bool → Prop) : Prop :=
  (flatS x = true ∧ xs.all flatS = true ∧ Q (inV (toV x) (xs.map toV))) ∨ ∃ p ps, PD M x p ∧ PDL M xs ps ∧ okP p = true ∧ okP (.list ps) = true ∧ Q (ps.any fun z => PyData.eqv z p)
def dInB (x y : D) (M : Mem) (Q : Bool → Prop) : Prop := match y with
  | .str z => ∃ c, x = .str ⟨#[c]⟩ ∧ Q (decide (c ∈ z.cps.toList))
  | .tup xs => inSeq x xs M Q
  | .rl xs => inSeq x xs M Q
  | .tx xs => inSeq x xs M Q
  | .ref a => (∃ xs, M a = some (.lst xs) ∧ inSeq x xs M Q) ∨ (∃ kvs k, M a = some (.dK kvs) ∧ keyD x = some k ∧ Q (valG kvs k).isSome) ∨ ∃ kvs k ks, M a = some (.dT kvs) ∧ x = .tup k ∧ keysD k = some ks ∧ Q (valG kvs ks).isSome
  | _ => False
def dIn (neg : Bool) : R2D := fun x y M Q => dInB x y M fun b => Q (.bl (if neg then !b else b)) M
def rInP (K : PySem.W.Frag) (neg : Bool) : R2 := fun x y H Q => ∃ M d c p ps, MRel K M H ∧ Is K H d x ∧ Is K H c y ∧ PD M d p ∧ (PD M c (.list ps) ∨ PD M c (.tuple ps)) ∧ okP p = true ∧ okP (.list ps) = true ∧ Q (.bl (if neg then !(ps.any fun z => PyData.eqv z p) else ps.any fun z => PyData.eqv z p)) H
theorem shaped_list {ps : List PyData} (h : okP (.list ps) = true) : PyData.plainAll ps = true ∧ PyData.hasDictAll ps = false := by
  have h1 : PyData.plainAll ps = true := by
    have := okP.pl h
    rwa [PyData.plain] at this
  exact ⟨h1, plain_nodictL ps h1⟩
section
variable {X : Cx}
theorem op_inP (hu : X.A.units + 70 < cLine) : OpR X (compareOp .In) (rInP X.K false) := by
  intro pins s σ H x y v u Q I rx ry h
  obtain ⟨M, d, c, p, ps, m, i, j, h1, h2, s1, s2, hq⟩ := h
  obtain ⟨c1, c2⟩ := shaped_list s2
  have hd := okP.dp s1
  obtain ⟨as, r1⟩ := PD.reads I m p d x v h1 i rx (nodict_of s1)
  have hu' : X.A.units + 1 + min (PyData.depthAll ps) p.depth < cLine := by
    have : min (PyData.depthAll ps) p.depth ≤ p.depth := Nat.min_le_right _ _
    omega
  rcases h2 with h2 | h2
  · obtain ⟨bs, r2⟩ := PD.reads I m (.list ps) c y u h2 j ry (by simpa [PyData.hasDict] using c2)
    exact SeqAt.in_list_data r2 r1 c1 (okP.pl s1) hu' ⟨.bl _, H, I, rfl, hq⟩
  · obtain ⟨bs, r2⟩ := PD.reads I m (.tuple ps) c y u h2 j ry (by simpa [PyData.hasDict] using c2)
    exact SeqAt.in_tuple_data r2 r1 c1 (okP.pl s1) hu' ⟨.bl _, H, I, rfl, hq⟩
theorem op_notInP (hu : X.A.units + 70 < cLine) : OpR X (compareOp .NotIn) (rInP X.K true) := by
  intro pins s σ H x y v u Q I rx ry h
  obtain ⟨M, d, c, p, ps, m, i, j, h1, h2, s1, s2, hq⟩ := h
  obtain ⟨c1, c2⟩ := shaped_list s2
  have hd := okP.dp s1
  obtain ⟨as, r1⟩ := PD.reads I m p d x v h1 i rx (nodict_of s1)
  have hu' : X.A.units + 1 + min (PyData.depthAll ps) p.depth < cLine := by
    have : min (PyData.depthAll ps) p.depth ≤ p.depth := Nat.min_le_right _ _
    omega
  rcases h2 with h2 | h2
  · obtain ⟨bs, r2⟩ := PD.reads I m (.list ps) c y u h2 j ry (by simpa [PyData.hasDict] using c2)
    exact SeqAt.notIn_list_data r2 r1 c1 (okP.pl s1) hu' ⟨.bl _, H, I, rfl, hq⟩
  · obtain ⟨bs, r2⟩ := PD.reads I m (.tuple ps) c y u h2 j ry (by simpa [PyData.hasDict] using c2)
    exact SeqAt.notIn_tuple_data r2 r1 c1 (okP.pl s1) hu' ⟨.bl _, H, I, rfl, hq⟩
def rInDict (neg : Bool) : R2 := fun x y H Q => ∃ a o, y = .ref a ∧ DGet H a x o ∧ Q (.bl (if neg then !o.isSome else o.isSome)) H
theorem op_inDict (hu : X.A.units + 1 < cLine) : OpR X (compareOp .In) (rInDict false) := by
  intro pins s σ H x y v u Q I rx ry h
  obtain ⟨a, o, rfl, g, q⟩ := h
  obtain rfl : u = Value.ref a := ry
  exact d_in hu I g rx fun s3 I3 => ⟨.bl o.isSome, H, I3, rfl, q⟩
theorem op_notInDict (hu : X.A.units + 1 < cLine) : OpR X (compareOp .NotIn) (rInDict true) := by
  intro pins s σ H x y v u Q I rx ry h
  obtain ⟨a, o, rfl, g, q⟩ := h
  obtain rfl : u = Value.ref a := ry
  exact d_notIn hu I g rx fun s3 I3 => ⟨.bl (!o.isSome), H, I3, rfl, q⟩
theorem isSome_kr {κ : Type} [DecidableEq κ] {K : PySem.W.Frag} {H : Hp} {kvs : List (κ × D)} {ws : List (κ × V)} (h : KRel K H kvs ws) (k : κ) : (valV ws k).isSome = (valG kvs k).isSome := by
  cases e : valG kvs k with
  | none => rw [h.none e]; rfl
  | some d =>
    obtain ⟨v, e1, _⟩ := h.some e
    rw [e1]; rfl
theorem keyTup {K : PySem.W.Frag} {M : Mem} {H : Hp} (m : MRel K M H) {k : List D} {ks : List Key} {x : V} (i : Is K H (.tup k) x) (e : keysD k = some ks) : ∃ b, x = .ref b ∧ H b = some (.tup (ks.map kV)) := by
  rw [is_tup] at i
  obtain ⟨b, vs, rfl, h, l⟩ := i
  exact ⟨b, rfl, by rw [← keysD_is l e]; exact h⟩
theorem dInB_low {K : PySem.W.Frag} {M : Mem} {H : Hp} {x y : V} {a b : D} {Qb : Bool → Prop} {neg : Bool} {QV : VK} (m : MRel K M H) (i : Is K H a x) (j : Is K H b y) (q : dInB a b M Qb)
    (k : ∀ c, Qb c → QV (.bl (if neg then !c else c)) H) :
    ((∃ (c : Nat) (z : Str), x = .str ⟨#[c]⟩ ∧ y = .str z ∧ QV (.bl (if neg then !decide (c ∈ z.cps.toList) else decide (c ∈ z.cps.toList))) H) ∨ rIn K neg x y H QV) ∨ (rInP K neg x y H QV ∨ rInDict neg x y H QV) := by
  have sq : ∀ xs vs, IsL K H xs vs → (SqL K H (match y with | .ref p => p | _ => 0) vs ∨ SqT K H (match y with | .ref p => p | _ => 0) vs) → (∃ p, y = .ref p) → (∀ ps, PDL M xs ps → PD M b (.list ps) ∨ PD M b (.tuple ps)) → inSeq a xs M Qb →
      ((∃ (c : Nat) (z : Str), x = .str ⟨#[c]⟩ ∧ y = .str z ∧ QV (.bl (if neg then !decide (c ∈ z.cps.toList) else decide (c ∈ z.cps.toList))) H) ∨ rIn K neg x y H QV) ∨ (rInP K neg x y H QV ∨ rInDict neg x y H QV) := by
    intro xs vs l s ⟨p, hp⟩ pd q
    subst hp
    rcases q with ⟨f1, f2, q⟩ | ⟨p', ps, h1, h2, s1, s2, q⟩
    · obtain ⟨e1, g1⟩ := flatS_is f1 i
      obtain ⟨e2, g2⟩ := flatS_all f2 l
      refine .inl (.inr ⟨p, vs, rfl, s, g1, g2, ?_⟩)
      rw [e1, e2]
      exact k _ q
    · exact .inr (.inl ⟨M, a, b, p', ps, m, i, j, h1, pd ps h2, s1, s2, k _ q⟩)
  cases b with
  | str z =>
    rw [is_str] at j
    obtain ⟨c, rfl, q⟩ := q
    rw [is_str] at i
    exact .inl (.inl ⟨c, z, i, j, k _ q⟩)
  | tup xs =>
    have j' := j
    rw [is_tup] at j'
    obtain ⟨p, vs, rfl, h, l⟩ := j'
    exact sq xs vs l (.inr (SqT.of h)) ⟨p, rfl⟩ (fun ps h => .inr (.tup h)) q
  | rl xs =>
    have j' := j
    rw [is_rl] at j'
    obtain ⟨p, vs, rfl, h, l⟩ := j'
    exact sq xs vs l (.inl h.sq) ⟨p, rfl⟩ (fun ps h => .inl (.rl h)) q
  | tx xs =>
    have j' := j
    rw [is_tx] at j'
    obtain ⟨p, vs, rfl, h, l⟩ := j'
    exact sq xs vs l (.inr h.sq) ⟨p, rfl⟩ (fun ps h => .inr (.tx h)) q
  | ref p =>
    have j' := j
    rw [is_ref] at j'
    subst j'
    rcases q with ⟨xs, h, q⟩ | ⟨kvs, k', h, hk, q⟩ | ⟨kvs, k', ks, h, rfl, hk, q⟩
    · obtain ⟨vs, e, l⟩ := m p _ h
      exact sq xs vs l (.inl (SqL.of e)) ⟨p, rfl⟩ (fun ps h' => .inl (.lst h h')) q
    · obtain ⟨ws, e, r⟩ := m p _ h
      refine .inr (.inr ⟨p, valV ws k', rfl, ?_, ?_⟩)
      · rw [keyD_is i hk]; exact DGet.k e
      · rw [isSome_kr r]; exact k _ q
    · obtain ⟨ws, e, r⟩ := m p _ h
      obtain ⟨b, rfl, hb⟩ := keyTup m i hk
      refine .inr (.inr ⟨p, valV ws ks, rfl, DGet.t e hb, ?_⟩)
      rw [isSome_kr r]; exact k _ q
  | _ => exact q.elim
theorem opd_in (hu : X.A.units + 70 < cLine) : OpD X (compareOp .In) (dIn false) :=
  ⟨_, (op_in_sign.or op_in_seq).or ((op_inP hu).or (op_inDict (by omega))), fun M H Mo Ho x y a b Q QV m f i j fin q => dInB_low (neg := false) m i j q fun c h => fin _ _ _ _ ii_bl m f h⟩
theorem opd_notIn (hu : X.A.units + 70 < cLine) : OpD X (compareOp .NotIn) (dIn true) :=
  ⟨_, (op_notIn_sign.or op_notIn_seq).or ((op_notInP hu).or (op_notInDict (by omega))), fun M H Mo Ho x y a b Q QV m f i j fin q => dInB_low (neg := true) m i j q fun c h => fin _ _ _ _ ii_bl m f h⟩
end
end DL

/-! Subscripts, slices, stores, built-in functions and methods by trees. -/
namespace DL
open PySem PySem.Spec PyProof.Rows L2
section
variable {K : PySem.W.Frag} {H : Hp}
theorem IsL.atI {ds : List D} {vs : List V} {i : Int} {d : D} (h : IsL K H ds vs) (e : L2.atI ds i = some d) : ∃ v, L2.atI vs i = some v ∧ Is K H d v := by
  unfold L2.atI at e ⊢
  rw [h.length]
  cases q : ixN ds.length i with
  | none => rw [q] at e; cases e
  | some j =>
    rw [q] at e
    exact h.get e
end
/-- a slice's cut -/
def cutG {α : Type} (xs : List α) (lo hi : Option Int) : List α := (xs.drop (HT.sIx xs.length 0 lo)).take (HT.sIx xs.length xs.length hi - HT.sIx xs.length 0 lo)
theorem IsL.cut {K : PySem.W.Frag} {H : Hp} {ds : List D} {vs : List V} (h : IsL K H ds vs) (lo hi : Option Int) : IsL K H (cutG ds lo hi) (cutV vs lo hi) := by
  unfold cutG cutV
  rw [h.length]
  exact (h.drop _).take _
/-! x[i] -/
def dIx : R2D := fun x y M Q => match x with
  | .str z => (match y with | .int i => z.length ≤ sizeLine ∧ ∃ c, L2.atI z.cps.toList i = some c ∧ Q (.str ⟨#[c]⟩) M | _ => False)
  | .tup xs => (match y with | .int i => ∃ d, L2.atI xs i = some d ∧ Q d M | _ => False)
  | .rl xs => (match y with | .int i => ∃ d, L2.atI xs i = some d ∧ Q d M | _ => False)
  | .tx xs => (match y with | .int i => ∃ d, L2.atI xs i = some d ∧ Q d M | _ => False)
  | .ref a => (∃ xs i d, M a = some (.lst xs) ∧ y = .int i ∧ L2.atI xs i = some d ∧ Q d M) ∨ (∃ kvs k d, M a = some (.dK kvs) ∧ keyD y = some k ∧ valG kvs k = some d ∧ Q d M) ∨ ∃ kvs k ks d, M a = some (.dT kvs) ∧ y = .tup k ∧ keysD k = some ks ∧ valG kvs ks = some d ∧ Q d M
  | _ => False
def rIxDict : R2 := fun x y H Q => ∃ a v, x = .ref a ∧ DGet H a y (some v) ∧ Q v H
section
variable {X : Cx}
theorem ix_dict (hu : X.A.units + 1 < cLine) : IxR X rIxDict := by
  intro value slice pins s σ H x y v u Q I rx ry h hs
  obtain ⟨a, w, rfl, g, q⟩ := h
  obtain rfl : v = Value.ref a := rx
  exact tail_any (dict_typeIs I g) PySem.F.slot_dict_getitem.lookup (d_getItem hu I g ry fun w' s3 I3 rw' => ⟨w, H, I3, rw', q⟩) hs
def IxD (X : Cx) (r : R2D) : Prop := ∃ r' : R2, IxR X r' ∧ OpK X.K r r'
theorem ixd (hu : X.A.units + 1 < cLine) : IxD X dIx := by
  refine ⟨_, ix_seq.or (ix_dict hu), fun M H Mo Ho x y a b Q QV m f i j fin q => ?_⟩
  cases a with
  | str z => cases b with
    | int k =>
      rw [is_str] at i
      rw [is_int] at j
      obtain ⟨h1, c, h2, q⟩ := q
      exact .inl (.inr (.inr ⟨z, k, c, i, j, h1, h2, fin _ _ _ _ ii_str m f q⟩))
    | _ => exact q.elim
  | tup xs => cases b with
    | int k =>
      rw [is_tup] at i
      rw [is_int] at j
      obtain ⟨p, vs, rfl, h, l⟩ := i
      obtain ⟨d, h2, q⟩ := q
      obtain ⟨v, e, i⟩ := l.atI h2
      exact .inl (.inr (.inl ⟨p, vs, k, v, rfl, j, SqT.of h, e, fin _ _ _ _ i m f q⟩))
    | _ => exact q.elim
  | rl xs => cases b with
    | int k =>
      rw [is_rl] at i
      rw [is_int] at j
      obtain ⟨p, vs, rfl, h, l⟩ := i
      obtain ⟨d, h2, q⟩ := q
      obtain ⟨v, e, i⟩ := l.atI h2
      exact .inl (.inl ⟨p, vs, k, v, rfl, j, h.sq, e, fin _ _ _ _ i m f q⟩)
    | _ => exact q.elim
  | tx xs => cases b with
    | int k =>
      rw [is_tx] at i
      rw [is_int] at j
      obtain ⟨p, vs, rfl, h, l⟩ := i
      obtain ⟨d, h2, q⟩ := q
      obtain ⟨v, e, i⟩ := l.atI h2
      exact .inl (.inr (.inl ⟨p, vs, k, v, rfl, j, h.sq, e, fin _ _ _ _ i m f q⟩))
    | _ => exact q.elim
  | ref p =>
    rw [is_ref] at i
    subst i
    rcases q with ⟨xs, k, d, h, rfl, h2, q⟩ | ⟨kvs, k, d, h, hk, h2, q⟩ | ⟨kvs, k, ks, d, h, rfl, hk, h2, q⟩
    · rw [is_int] at j
      obtain ⟨vs, e, l⟩ := m p _ h
      obtain ⟨v, e2, i⟩ := l.atI h2
      exact .inl (.inl ⟨p, vs, k, v, rfl, j, SqL.of e, e2, fin _ _ _ _ i m f q⟩)
    · obtain ⟨ws, e, r⟩ := m p _ h
      obtain ⟨v, e2, i⟩ := KRel.some r h2
      refine .inr ⟨p, v, rfl, ?_, fin _ _ _ _ i m f q⟩
      rw [keyD_is j hk, ← e2]
      exact DGet.k e
    · obtain ⟨ws, e, r⟩ := m p _ h
      obtain ⟨v, e2, i⟩ := KRel.some r h2
      obtain ⟨b, rfl, hb⟩ := keyTup m j hk
      refine .inr ⟨p, v, rfl, ?_, fin _ _ _ _ i m f q⟩
      rw [← e2]
      exact DGet.t e hb
  | _ => exact q.elim
end
section
variable {g : Gd} {a b : Expr} {ta tb : DTE} {pos p2 : Pos}
theorem de_ix {r : R2D} (hr : IxD g.X r) (ha : DE g a ta) (hb : DE g b tb) (hs : PlainIx b) : DE g (.Subscript a b pos) (dBin r ta tb) := by
  obtain ⟨r', h, k⟩ := hr
  exact DE.of (pe_ix h ha.pe hb.pe hs) fun σ H e M Q sl mr fr q => low_bin k sl mr fr q fin_low
/-! x[lo:hi] -/
abbrev DTO := Sl → Mem → (Option Int → Mem → Prop) → EX → Prop
/-- an end of a slice -/
structure DO (g : Gd) (x : Option Expr) (t : DTO) : Prop where
  po : ∃ t' : TO, PO g.X x t' ∧ ∀ σ H e M Q (QV : Option Int → Hp → Prop), SRel g.X.K H e σ → MRel g.X.K M H → Fr g.M0 g.H0 M H → t e M Q g.E → (∀ o M' H', MRel g.X.K M' H' → Fr M H M' H' → Q o M' → QV o H') → t' σ H QV
def dNoPart : DTO := fun _ M Q _ => Q none M
def dPart (t : DTE) : DTO := fun e M Q E => t e M (fun x M1 => match x with | .int i => Q (some i) M1 | _ => False) E
theorem do_none : DO g none dNoPart := ⟨_, po_none, fun σ H e M Q QV sl mr fr q k => k _ M H mr Fr.refl q⟩
theorem do_some (h : DE g a ta) : DO g (some a) (dPart ta) := by
  refine ⟨_, po_some h.pe, fun σ H e M Q QV sl mr fr q k => ?_⟩
  refine low_start sl mr fr q fun v d M1 H1 i m f q => ?_
  cases d with
  | int j => rw [is_int] at i; exact ⟨j, i, k _ _ _ m f q⟩
  | _ => exact q.elim
def dSl (x : D) (lo hi : Option Int) (M : Mem) (Q : QE) : Prop := match x with
  | .str z => z.length ≤ sizeLine ∧ Q (.str (cutS z lo hi)) M
  | .tup xs => Q (.tup (cutG xs lo hi)) M
  | .rl xs => ∀ p, M p = none → Q (.ref p) (wr M p (.lst (cutG xs lo hi)))
  | .ref a => ∃ xs, M a = some (.lst xs) ∧ ∀ p, M p = none → Q (.ref p) (wr M p (.lst (cutG xs lo hi)))
  | _ => False
def dSlice (t : DTE) (tl th : DTO) : DTE := fun e M Q E => t e M (fun x M1 => tl e M1 (fun l M2 => th e M2 (fun h M3 => dSl x l h M3 Q) E) E) E
theorem de_slice {lo hi : Option Expr} {tl th : DTO} (ha : DE g a ta) (hl : DO g lo tl) (hh : DO g hi th) : DE g (.Subscript a (.Slice lo hi none p2) pos) (dSlice ta tl th) := by
  obtain ⟨tl', pl, kl⟩ := hl.po
  obtain ⟨th', ph, kh⟩ := hh.po
  refine DE.of (pe_slice (sl_str.or (sl_tupA.or sl_list)) ha.pe pl ph) fun σ H e M Q sl mr fr q => ?_
  refine low_start sl mr fr q fun v d M1 H1 i m f q => ?_
  refine kl σ H1 e M1 _ _ (sl.ext (f.ext mr)) m (fr.trans f) q fun l M2 H2 m2 f2 q => ?_
  have f12 := f.trans f2
  refine kh σ H2 e M2 _ _ (sl.ext (f12.ext mr)) m2 (fr.trans f12) q fun h M3 H3 m3 f3 q => ?_
  have f13 := f12.trans f3
  have i3 : Is g.X.K H3 d v := Is.ext ((f2.trans f3).ext m) _ _ i
  have fin : Fin g.X.K M H Q (lowQ g.X.K M H Q) := fin_low
  cases d with
  | str z =>
    rw [is_str] at i3
    exact .inl ⟨z, i3, q.1, fin _ _ _ _ ii_str m3 f13 q.2⟩
  | tup xs =>
    have j := i3
    rw [is_tup] at j
    obtain ⟨p, vs, rfl, e1, l1⟩ := j
    refine .inr (.inl ⟨p, vs, rfl, SqT.of e1, fun hw => ?_, fun _ => fin.newT m3 f13 (l1.cut _ _) q⟩)
    have : cutG xs l h = xs := by
      unfold cutG
      rw [l1.length] at hw
      rw [hw.1, hw.2, List.drop_zero, Nat.sub_zero, List.take_length]
    have q : Q (.tup (cutG xs l h)) M3 := q
    rw [this] at q
    exact fin _ _ _ _ i3 m3 f13 q
  | rl xs =>
    rw [is_rl] at i3
    obtain ⟨p, vs, rfl, e1, l1⟩ := i3
    exact .inr (.inr ⟨p, vs, rfl, e1.sq, fin.newL m3 f13 (l1.cut _ _) q⟩)
  | ref p =>
    rw [is_ref] at i3
    obtain ⟨xs, hx, q⟩ := q
    obtain ⟨vs, e1, l1⟩ := m3 p _ hx
    exact .inr (.inr ⟨p, vs, i3, SqL.of e1, fin.newL m3 f13 (l1.cut _ _) q⟩)
  | _ => exact q.elim
end
/-! ### x[i] = v -/
section
variable {K : PySem.W.Frag} {M Mo : Mem} {H Ho : Hp}
theorem set_mem (m : MRel K M H) (f : Fr Mo Ho M H) {a : Addr} {u : MO} (h : M a = some u) {u' : MO} {o : HO} (q : MOk K (upd H a o) a u') : MRel K (wr M a u') (upd H a o) ∧ Fr Mo Ho (wr M a u') (upd H a o) :=
  ⟨mr_write m h q, f.trans (fr_write m h)⟩
theorem ext_write (m : MRel K M H) {a : Addr} {u : MO} (h : M a = some u) {o : HO} : Ext K H (upd H a o) := (fr_write (o := o) (u := u) m h).ext m
end
def dSet (o i v : D) (M : Mem) (Q : Mem → Prop) : Prop := match o with
  | .ref a => (∃ xs k j, M a = some (.lst xs) ∧ i = .int k ∧ ixN xs.length k = some j ∧ Q (wr M a (.lst (xs.set j v)))) ∨ (∃ kvs k, M a = some (.dK kvs) ∧ keyD i = some k ∧ kvs.length < sizeLine ∧ Q (wr M a (.dK (putG kvs k v)))) ∨
      ∃ kvs k ks, M a = some (.dT kvs) ∧ i = .tup k ∧ keysD k = some ks ∧ kvs.length < sizeLine ∧ Q (wr M a (.dT (putG kvs ks v)))
  | _ => False
def rSetDict : TSet := fun o i v H Q => ∃ a H', o = .ref a ∧ DPut H a i v H' ∧ Q H'
section
variable {X : Cx}
theorem set_dict (hu : X.A.units + 1 < cLine) : PSet X rSetDict := by
  intro pins s σ H o i v ov iv u Q I ro ri rv h
  obtain ⟨a, H', rfl, g, q⟩ := h
  obtain rfl : ov = Value.ref a := ro
  exact d_setItem hu I g ri rv fun s' I' => ⟨H', I', q⟩
theorem PSet.or {r r' : TSet} (h : PSet X r) (h' : PSet X r') : PSet X (fun o i v H Q => r o i v H Q ∨ r' o i v H Q) := by
  intro pins s σ H o i v ov iv u Q I ro ri rv q
  rcases q with q | q
  · exact h pins s σ H o i v ov iv u Q I ro ri rv q
  · exact h' pins s σ H o i v ov iv u Q I ro ri rv q
theorem dSet_low {M Mo : Mem} {H Ho : Hp} {o i v : V} {a b c : D} {Q : Mem → Prop} {QV : Hp → Prop} (m : MRel X.K M H) (f : Fr Mo Ho M H) (ia : Is X.K H a o) (ib : Is X.K H b i) (ic : Is X.K H c v) (q : dSet a b c M Q)
    (k : ∀ M' H', MRel X.K M' H' → Fr Mo Ho M' H' → Q M' → QV H') : rSetL o i v H QV ∨ rSetDict o i v H QV := by
  cases a with
  | ref p =>
    rw [is_ref] at ia
    subst ia
    rcases q with ⟨xs, n, j, h, rfl, hj, q⟩ | ⟨kvs, n, h, hk, hl, q⟩ | ⟨kvs, n, ks, h, rfl, hk, hl, q⟩
    · rw [is_int] at ib
      obtain ⟨vs, e, l⟩ := m p _ h
      have ex := ext_write m h (o := HO.lst (vs.set j v))
      obtain ⟨m', f'⟩ := set_mem m f h (u' := .lst (xs.set j c)) (o := HO.lst (vs.set j v)) ⟨_, upd_same, IsL.set (Is.ext ex _ _ ic) j (IsL.ext ex _ _ l)⟩
      exact .inl ⟨p, vs, n, j, rfl, ib, e, by rw [l.length]; exact hj, k _ _ m' f' q⟩
    · obtain ⟨ws, e, r⟩ := m p _ h
      have ex := ext_write m h (o := HO.dK (putK ws n v))
      have r' : KRel X.K (upd H p (HO.dK (putK ws n v))) kvs ws := ⟨r.1, IsL.ext ex _ _ r.2⟩
      obtain ⟨m', f'⟩ := set_mem m f h (u' := .dK (putG kvs n c)) (o := HO.dK (putK ws n v)) ⟨_, upd_same, KRel.put (Is.ext ex _ _ ic) r'⟩
      refine .inr ⟨p, _, rfl, ?_, k _ _ m' f' q⟩
      rw [keyD_is ib hk]
      exact DPut.k e (by rw [KRel.length r]; exact hl)
    · obtain ⟨ws, e, r⟩ := m p _ h
      have ex := ext_write m h (o := HO.dT (putK ws ks v))
      have r' : KRel X.K (upd H p (HO.dT (putK ws ks v))) kvs ws := ⟨r.1, IsL.ext ex _ _ r.2⟩
      obtain ⟨m', f'⟩ := set_mem m f h (u' := .dT (putG kvs ks c)) (o := HO.dT (putK ws ks v)) ⟨_, upd_same, KRel.put (Is.ext ex _ _ ic) r'⟩
      obtain ⟨b, rfl, hb⟩ := keyTup m ib hk
      exact .inr ⟨p, _, rfl, DPut.t e hb (by rw [KRel.length r]; exact hl), k _ _ m' f' q⟩
  | _ => exact q.elim
end

/-! ### argument lists, displays -/
def DAP (g : Gd) (pins : List (Addr × Obj)) (σ : L2.St) (e : Sl) (M : Mem) (H : Hp) (Q : List D → Mem → Prop) (us : List Value) (s' : Shared) : Prop :=
  ∃ vs ds H' M', Vals vs us ∧ IsL g.X.K H' ds vs ∧ SI g pins σ H' s' e M' ∧ Fr M H M' H' ∧ Q ds M'
/-- an argument list, without a star -/
structure DA (g : Gd) (xs : List Expr) (t : DTA) : Prop where
  pa : ∃ t' : TA, PA g.X xs t' ∧ ∀ σ H e M Q (QV : List V → Hp → Prop), SRel g.X.K H e σ → MRel g.X.K M H → Fr g.M0 g.H0 M H → t e M Q g.E →
    (∀ ds vs M' H', IsL g.X.K H' ds vs → MRel g.X.K M' H' → Fr M H M' H' → Q ds M' → QV vs H') → t' σ H QV
  star : ∀ env, (starEach xs env).any (·.1) = false
def dNil : DTA := fun _ M Q _ => Q [] M
def dCons (t : DTE) (r : DTA) : DTA := fun e M Q E => t e M (fun x M1 => r e M1 (fun xs M2 => Q (x :: xs) M2) E) E
def isStar : Expr → Bool
  | .Starred _ _ => true
  | _ => false
theorem star_cons {x : Expr} {xs : List Expr} {env : PySem.Env} (h : isStar x = false) : starEach (x :: xs) env = (false, eval x env) :: starEach xs env := by
  cases x <;> first | rfl | cases h
section
variable {g : Gd} {x : Expr} {xs : List Expr} {t : DTE} {r : DTA} {pos : Pos}
theorem da_nil : DA g [] dNil := ⟨⟨_, pa_nil, fun σ H e M Q QV sl mr fr q k => k [] [] M H (isL_nil.mpr rfl) mr Fr.refl q⟩, fun _ => rfl⟩
theorem da_cons (h : DE g x t) (hr : DA g xs r) (ns : isStar x = false) : DA g (x :: xs) (dCons t r) := by
  obtain ⟨r', p, k⟩ := hr.pa
  refine ⟨⟨_, pa_cons h.pe p (star_cons ns), fun σ H e M Q QV sl mr fr q kk => ?_⟩, fun env => by rw [star_cons ns, List.any_cons, hr.star]; rfl⟩
  refine low_start sl mr fr q fun v d M1 H1 i m f q => ?_
  refine k σ H1 e M1 _ _ (sl.ext (f.ext mr)) m (fr.trans f) q fun ds vs M2 H2 l m2 f2 q => ?_
  exact kk (d :: ds) (v :: vs) M2 H2 (IsL.mk (Is.ext (f2.ext m) _ _ i) l) m2 (f.trans f2) q
def dTup (r : DTA) : DTE := fun e M Q E => r e M (fun xs M1 => xs.length ≤ sizeLine ∧ Q (.tup xs) M1) E
def dLst (r : DTA) : DTE := fun e M Q E => r e M (fun xs M1 => xs.length ≤ sizeLine ∧ ∀ p, M1 p = none → Q (.ref p) (wr M1 p (.lst xs))) E
theorem de_tup {n : Nat} (h : DA g xs r) : DE g (.Tuple xs n pos) (dTup r) := by
  obtain ⟨r', p, k⟩ := h.pa
  refine DE.of (pe_tup p) fun σ H e M Q sl mr fr q => ?_
  refine k σ H e M _ _ sl mr fr q fun ds vs M1 H1 l m f q => ?_
  exact ⟨by rw [l.length]; exact q.1, fin_low.newT m f l q.2⟩
theorem de_lst (h : DA g xs r) : DE g (.List xs pos) (dLst r) := by
  obtain ⟨r', p, k⟩ := h.pa
  refine DE.of (pe_lst p) fun σ H e M Q sl mr fr q => ?_
  refine k σ H e M _ _ sl mr fr q fun ds vs M1 H1 l m f q => ?_
  exact ⟨by rw [l.length]; exact q.1, fin_low.newL m f l q.2⟩
end
/-! ### built-in functions, types and methods -/
abbrev RnD := List D → Mem → QE → Prop
def CallK (K : PySem.W.Frag) (r : RnD) (r' : List V → Hp → VK → Prop) : Prop := ∀ (M : Mem) (H : Hp) (Mo : Mem) (Ho : Hp) (vs : List V) (ds : List D) (Q : QE) (QV : VK), MRel K M H → Fr Mo Ho M H → IsL K H ds vs → Fin K Mo Ho Q QV → r ds M Q → r' vs H QV
def CallD (X : Cx) (f : Value) (r : RnD) : Prop := ∃ r', CallR X f r' ∧ CallK X.K r r'
theorem CallD.or {X : Cx} {f : Value} {r s : RnD} (h : CallD X f r) (h' : CallD X f s) : CallD X f (fun ds M Q => r ds M Q ∨ s ds M Q) := by
  obtain ⟨r', h1, k1⟩ := h
  obtain ⟨s', h2, k2⟩ := h'
  refine ⟨_, h1.or h2, fun M H Mo Ho vs ds Q QV m f l fin q => ?_⟩
  rcases q with q | q
  · exact .inl (k1 M H Mo Ho vs ds Q QV m f l fin q)
  · exact .inr (k2 M H Mo Ho vs ds Q QV m f l fin q)
theorem CallD.imp {X : Cx} {f : Value} {r s : RnD} (h : CallD X f r) (k : ∀ ds M Q, s ds M Q → r ds M Q) : CallD X f s := by
  obtain ⟨r', h1, k1⟩ := h
  exact ⟨r', h1, fun M H Mo Ho vs ds Q QV m f l fin q => k1 M H Mo Ho vs ds Q QV m f l fin (k _ _ _ q)⟩
def dCall (r : RnD) (t : DTA) : DTE := fun e M Q E => t e M (fun ds M1 => r ds M1 Q) E
/-- a builtin's method: MtD -/
abbrev RmD := D → List D → Mem → QE → Prop
def MtK (K : PySem.W.Frag) (r : RmD) (r' : V → List V → Hp → VK → Prop) : Prop := ∀ (M : Mem) (H : Hp) (Mo : Mem) (Ho : Hp) (x : V) (a : D) (vs : List V) (ds : List D) (Q : QE) (QV : VK), MRel K M H → Fr Mo Ho M H → Is K H a x → IsL K H ds vs → Fin K Mo Ho Q QV → r a ds M Q → r' x vs H QV
/-- the receiver is of the type T -/
def isTy (T : String) (a : D) (M : Mem) : Prop := match a with
  | .str _ => T = "str"
  | .rl _ => T = "list"
  | .ref p => (T = "list" ∧ ∃ xs, M p = some (.lst xs)) ∨ (T = "dict" ∧ ((∃ kvs, M p = some (.dK kvs)) ∨ ∃ kvs, M p = some (.dT kvs)))
  | _ => False
structure MtD (X : Cx) (T : String) (name : Str) (id : String) (r : RmD) : Prop where
  pa : PlainAttrs T
  slot : Slot T name id
  hty : typeOf (.builtin id) = pure (.type "method_descriptor")
  run : ∃ r', MtR X id r' ∧ MtK X.K r r'
def dMt (T : String) (r : RmD) (to : DTE) (t : DTA) : DTE := fun e M Q E => to e M (fun x M1 => isTy T x M1 ∧ t e M1 (fun ds M2 => r x ds M2 Q) E) E
theorem bt_any {g : Gd} {xs : List Expr} {r : DTA} {pos : Pos} (h : DA g xs r) : (backTo pos (starEach xs g.X.env)).any (·.1) = false := by
  have := h.star g.X.env
  unfold backTo
  rw [List.any_map]
  exact this
section
variable {g : Gd} {x : Expr} {xs : List Expr} {t : DTE} {r : DTA} {pos p apos : Pos} {n : Str} {id T : String}
theorem de_callB {rd : RnD} (hc : CallD g.X (.builtin id) rd) (hg : Gl g.X n) (hm : g.X.mg n = none) (hv : bootBuiltins n = some (.builtin id)) (hx : DE g x t) (ha : DA g xs r) (ns : isStar x = false) (hn : n ≠ "__name__") (hdb : (n == ("__debug__" : Str)) = false) :
    DE g (.Call (.Name n p) (x :: xs) [] pos) (dCall rd (dCons t r)) := by
  obtain ⟨r', h, k⟩ := hc
  obtain ⟨ta, pa, ka⟩ := (da_cons hx ha ns).pa
  exact DE.of (pe_callB h hg hm hv pa hn hdb (star_cons ns) (bt_any ha)) fun σ H e M Q sl mr fr q => ka σ H e M _ _ sl mr fr q fun ds vs M1 H1 l m f q => k M1 H1 M H vs ds Q _ m f l fin_low q
theorem de_callT {rd : RnD} (hc : CallD g.X (.type T) rd) (hg : Gl g.X n) (hm : g.X.mg n = none) (hv : bootBuiltins n = some (.type T)) (hx : DE g x t) (ha : DA g xs r) (ns : isStar x = false) (hn : n ≠ "__name__") (hdb : (n == ("__debug__" : Str)) = false) :
    DE g (.Call (.Name n p) (x :: xs) [] pos) (dCall rd (dCons t r)) := by
  obtain ⟨r', h, k⟩ := hc
  obtain ⟨ta, pa, ka⟩ := (da_cons hx ha ns).pa
  exact DE.of (pe_callTy h hg hm hv pa hn hdb (star_cons ns) (bt_any ha)) fun σ H e M Q sl mr fr q => ka σ H e M _ _ sl mr fr q fun ds vs M1 H1 l m f q => k M1 H1 M H vs ds Q _ m f l fin_low q
theorem isTy_low {K : PySem.W.Frag} {T : String} {a : D} {M : Mem} {H : Hp} {x : V} (m : MRel K M H) (i : Is K H a x) (h : isTy T a M) : tyV K T x H := by
  cases a with
  | str z => rw [is_str] at i; subst i; exact h
  | rl xs => rw [is_rl] at i; obtain ⟨p, vs, rfl, e, l⟩ := i; exact .inl ⟨h, vs, e.sq⟩
  | ref p =>
    rw [is_ref] at i
    subst i
    rcases h with ⟨h1, xs, h2⟩ | ⟨h1, h2⟩
    · obtain ⟨vs, e, l⟩ := m p _ h2
      exact .inl ⟨h1, vs, SqL.of e⟩
    · rcases h2 with ⟨kvs, h2⟩ | ⟨kvs, h2⟩
      · obtain ⟨ws, e, r⟩ := m p _ h2
        exact .inr (.inr (.inl ⟨h1, .inl ⟨ws, e⟩⟩))
      · obtain ⟨ws, e, r⟩ := m p _ h2
        exact .inr (.inr (.inl ⟨h1, .inr ⟨ws, e⟩⟩))
  | _ => exact h.elim
theorem de_mt {o : Expr} {to : DTE} {rd : RmD} (hm : MtD g.X T n id rd) (ho : DE g o to) (hx : DE g x t) (ha : DA g xs r) (ns : isStar x = false) (hbase : attributeBase o n g.X.env (eval o g.X.env) = eval o g.X.env)
    (hfew : ((backTo pos (starEach (x :: xs) g.X.env)).all (fun z => !z.1) && (backToKw pos (keywordEach [] g.X.env)).all (fun z => z.1.isSome)
      && decide ((x :: xs).length + ([] : List Keyword).length + (if ([] : List Keyword).isEmpty then 0 else 1) < 30)) = true)
    (hline : (apos.endLine == pos.line) = true) : DE g (.Call (.Attribute o n apos) (x :: xs) [] pos) (dMt T rd to (dCons t r)) := by
  obtain ⟨r', h, k⟩ := hm.run
  obtain ⟨ta, pa, ka⟩ := (da_cons hx ha ns).pa
  refine DE.of (pe_bm hm.pa hm.slot hm.hty h ho.pe pa hbase hfew hline (star_cons ns) (bt_any ha)) fun σ H e M Q sl mr fr q => ?_
  refine low_start sl mr fr q fun v d M1 H1 i m f q => ?_
  refine ⟨isTy_low m i q.1, ka σ H1 e M1 _ _ (sl.ext (f.ext mr)) m (fr.trans f) q.2 fun ds vs M2 H2 l m2 f2 q => ?_⟩
  exact k M2 H2 M H v d vs ds Q _ m2 (f.trans f2) (Is.ext (f2.ext m) _ _ i) l fin_low q
theorem de_mt0 {o : Expr} {to : DTE} {rd : RmD} (hm : MtD g.X T n id rd) (ho : DE g o to) (hbase : attributeBase o n g.X.env (eval o g.X.env) = eval o g.X.env)
    (hline : (apos.endLine == pos.line) = true) : DE g (.Call (.Attribute o n apos) [] [] pos) (dMt T rd to dNil) := by
  obtain ⟨r', h, k⟩ := hm.run
  refine DE.of (pe_bm0 hm.pa hm.slot hm.hty h ho.pe hbase hline) fun σ H e M Q sl mr fr q => ?_
  refine low_start sl mr fr q fun v d M1 H1 i m f q => ?_
  exact ⟨isTy_low m i q.1, k M1 H1 M H v d [] [] Q _ m f i (isL_nil.mpr rfl) fin_low q.2⟩
end
end DL

/-! a, b = a list. -/
namespace DL
open PySem PySem.Spec PyProof.Rows L2
section
variable {prog : Program} {w : World} {A : Around} {E : Value → Shared → Prop} {s : Shared}
theorem draw_list {it t : Addr} {items : Array Value} (hne : t ≠ it) : ∀ (n i : Nat) (s : Shared) (Q : List Value → Shared → Prop), s.heap.IsListIter it t i → s.heap.IsList t items → i + n ≤ items.size →
    (∀ h', h'.IsListIter it t (i + n) → Heap.SameBut it s.heap h' → Q ((items.toList.drop i).take n) { s with heap := h' }) → wpAny (model prog w) A (draw (.ref it) n) Q E s
  | 0, i, s, Q, hit, _, _, hQ => by
    show wpAny _ _ (pure []) Q E s
    exact wpAny_pure (by simpa using hQ s.heap hit (Heap.SameBut.refl ..))
  | n + 1, i, s, Q, hit, ht, hle, hQ => by
    have hlt : i < items.size := by omega
    show wpAny _ _ (pyNext (.ref it) >>= _) Q E s
    refine wpAny_bind (wpAny_pyNext_list_item hit ht (x := items[i]) (by simp [hlt]) fun h₁ hit₁ hs₁ => ?_)
    refine wpAny_bind (wpAny_holding (draw_list hne n (i + 1) _ _ hit₁ (ht.extBut hs₁.extBut hne) (by omega) fun h₂ hit₂ hs₂ => wpAny_pure ?_))
    have hd : items.toList.drop i = items[i] :: items.toList.drop (i + 1) := by simp [List.drop_eq_getElem_cons, hlt]
    have := hQ h₂ (by rw [show i + (n + 1) = i + 1 + n by omega]; exact hit₂) (hs₁.trans hs₂)
    rw [hd, List.take_succ_cons] at this
    exact this
theorem unpackItems_list {t : Addr} {items : Array Value} {Q : List Value → Shared → Prop} (hh : A.handled = none) (ht : s.heap.IsList t items)
    (hQ : ∀ h', Heap.ExtBut s.heap.objs.size s.heap h' → Q items.toList { s with heap := h' }) : wpAny (model prog w) A (unpackItems (.ref t) items.size none) Q E s := by
  have hlt : t ≠ s.heap.objs.size := by obtain ⟨o, ho, _⟩ := ht; exact Nat.ne_of_lt (Heap.lt_size ho)
  unfold unpackItems
  refine wpAny_bind ?_
  · unfold notIterableAtAll
    refine wpAny_bind (wpAny_specialOf ht.typeIs slot_list_iter.lookup ?_)
    refine wpAny_pure ?_
    simp only [Bool.false_eq_true, if_false]
    refine wpAny_bind (wpAny_holding (wpAny_pyIter_list ht ?_))
    refine wpAny_bind (wpAny_holding (draw_list hlt items.size 0 _ _ ⟨_, Heap.get?_push_size _ rfl, rfl, rfl⟩ (ht.push _) (by omega) fun h₁ hit₁ hs₁ => ?_))
    have hall : List.take items.size (List.drop 0 items.toList) = items.toList := by
      rw [List.drop_zero]; exact List.take_of_length_le (by simp)
    rw [hall]
    rw [if_neg (by simp)]
    have ht₁ : h₁.IsList t items := (ht.push _).extBut hs₁.extBut hlt
    refine wpAny_bind (wpAny_holding (wpAny_pyNext_list_end hh hit₁ ht₁ (by simp) fun h₂ he₂ => ?_))
    simp only [Option.isSome_none, Bool.false_eq_true, if_false]
    refine wpAny_pure (hQ h₂ fun b o hb e => he₂ b o hb (hs₁.extBut b o hb (Heap.get?_push_of_some _ e)))
theorem assign_Tuple_list {env : PySem.Env} {elts : List Expr} {x1} {pos : Pos} {t : Addr} {items : Array Value} {Q : Unit → Shared → Prop} (hh : A.handled = none) (ht : s.heap.IsList t items)
    (hn : (assignEach elts env).length = items.size) (hstar : (assignEach elts env).findIdx? (·.1) = none)
    (h : ∀ h', Heap.ExtBut s.heap.objs.size s.heap h' → wpAny (model prog w) A (assignInOrder ((assignEach elts env).map (·.2)) items.toList) Q E { s with heap := h' }) :
    wpAny (model prog w) A (assign (.Tuple elts x1 pos) env (.ref t)) Q E s := by
  rw [assign_Tuple]
  refine wpAny_bind (wpAny_standAt ?_)
  unfold unpack
  rw [hn, hstar]
  exact wpAny_bind (wpAny_holding (unpackItems_list hh ht h))
end
section
variable {X : Cx} {pos : Pos}
def gTupQ (K : PySem.W.Frag) (n : Nat) (t : TGs) : TG := fun v σ H Q => ∃ a xs, v = .ref a ∧ (SqT K H a xs ∨ SqL K H a xs) ∧ xs.length = n ∧ t xs σ H Q
theorem pg_tupQ {es : List Expr} {k : Nat} {t : TGs} {n : Nat} (hc : X.calm = true) (h : PGs X es t)
    (hn : (assignEach es X.env).length = n) (hst : (assignEach es X.env).findIdx? (·.1) = none) : PG X (.Tuple es k pos) (gTupQ X.K n t) := by
  refine ⟨fun pins s σ H v u Q I r hw => ?_⟩
  obtain ⟨a, xs, e1, hq, hl, hw⟩ := hw
  rcases hq with hq | hq
  · exact (pg_tup (n := n) (k := k) (pos := pos) hc h hn hst).run pins s σ H v u Q I r ⟨a, xs, e1, hq, hl, hw⟩
  subst e1
  cases r
  obtain ⟨its, rv, ht, hz⟩ := I.list hq
  refine assign_Tuple_list (I.ok.hd hc) ht.isList (by simp [hn, ← hl, rv.length]) hst fun h' hx => ?_
  have I1 : Inv X pins σ H { s with heap := h' } := I.kept (t' := s.toks) fun b o e => hx b o (Nat.ne_of_lt (Heap.lt_size e)) e
  exact h.run pins _ σ H xs _ Q I1 (by simpa using rv) hw
end
end DL

/-! Statements, loops, comprehensions by trees. -/
namespace DL
open PySem PySem.Spec PyProof.Rows L2
/-! ### names and constants, truth -/
section
variable {g : Gd} {pos : Pos}
def dSlot (i : Nat) : DTE := fun e M Q _ => match getS e i with | some d => Q d M | none => False
def dC (d : D) : DTE := fun _ M Q _ => Q d M
theorem de_slot {i : Nat} {x : Str} (hN : g.X.N[i]? = some x) (hv : Vis g.X.env.scope x) (hd : (x == ("__debug__" : Str)) = false) (hcd : (x == ("__classdict__" : Str)) = false) : DE g (.Name x pos) (dSlot i) := by
  refine DE.of (pe_var hN hv hd hcd) fun σ H e M Q sl mr fr q => ?_
  have q' : (match getS e i with | some d => Q d M | none => False) := q
  cases h : getS e i with
  | none => rw [h] at q'; exact q'.elim
  | some d =>
    rw [h] at q'
    obtain ⟨v, e1, i⟩ := sl.get h
    exact ⟨v, e1, fin_low _ _ _ _ i mr Fr.refl q'⟩
theorem de_int {i : Int} {j : Nat} : DE g (.Constant (.int i) j pos) (dC (.int i)) := DE.of pe_int fun σ H e M Q sl mr fr q => fin_low _ _ _ _ ii_int mr Fr.refl q
theorem de_bl {i : Bool} {j : Nat} : DE g (.Constant (.bool i) j pos) (dC (.bl i)) := DE.of pe_bl fun σ H e M Q sl mr fr q => fin_low _ _ _ _ ii_bl mr Fr.refl q
theorem de_str {i : Str} {j : Nat} : DE g (.Constant (.str i) j pos) (dC (.str i)) := DE.of pe_str fun σ H e M Q sl mr fr q => fin_low _ _ _ _ ii_str mr Fr.refl q
theorem de_non {j : Nat} : DE g (.Constant .none j pos) (dC .non) := DE.of pe_non fun σ H e M Q sl mr fr q => fin_low _ _ _ _ ii_non mr Fr.refl q
theorem de_glob {x : Str} {d : D} {v : V} {u : Value} (hg : Gl g.X x) (hm : g.X.mg x = some u) (r : RelV v u) (hi : ∀ H, Is g.X.K H d v) (hd : (x == ("__debug__" : Str)) = false) : DE g (.Name x pos) (dC d) :=
  DE.of (pe_glob hg hm r hd) fun σ H e M Q sl mr fr q => fin_low _ _ _ _ (hi H) mr Fr.refl q
theorem de_bltn {x : Str} {d : D} {v : V} {u : Value} (hg : Gl g.X x) (hm : g.X.mg x = none) (hv : bootBuiltins x = some u) (r : RelV v u) (hi : ∀ H, Is g.X.K H d v) (hn : x ≠ "__name__") (hd : (x == ("__debug__" : Str)) = false) : DE g (.Name x pos) (dC d) :=
  DE.of (pe_bltn hg hm hv r hn hd) fun σ H e M Q sl mr fr q => fin_low _ _ _ _ (hi H) mr Fr.refl q
def dNeg (t : DTE) : DTE := fun e M Q E => t e M (fun x M1 => match x with | .int i => Q (.int (-i)) M1 | _ => False) E
theorem de_neg {a : Expr} {t : DTE} (h : DE g a t) : DE g (.UnaryOp .USub a pos) (dNeg t) := by
  refine DE.of (pe_un un_neg h.pe) fun σ H e M Q sl mr fr q => ?_
  refine low_start sl mr fr q fun v d M1 H1 i m f q => ?_
  cases d with
  | int k => rw [is_int] at i; exact ⟨k, i, fin_low _ _ _ _ ii_int m f q⟩
  | _ => exact q.elim
/-- a thing's truth -/
def dTru (x : D) (M : Mem) (Q : Bool → Prop) : Prop := match x with
  | .non => Q false
  | .bl b => Q b
  | .int i => Q (i != 0)
  | .str s => s.length ≤ sizeLine ∧ Q (!decide (s.length = 0))
  | .tup xs => Q (!xs.isEmpty)
  | .rl xs => Q (!xs.isEmpty)
  | .tx xs => Q (!xs.isEmpty)
  | .ref a => (∃ xs, M a = some (.lst xs) ∧ Q (!xs.isEmpty)) ∨ ∃ kvs, M a = some (.dK kvs) ∧ Q (!kvs.isEmpty)
  | _ => False
theorem isEmpty_is {K : PySem.W.Frag} {H : Hp} {ds : List D} {vs : List V} (l : IsL K H ds vs) : vs.isEmpty = ds.isEmpty := by
  have := l.length
  cases ds <;> cases vs <;> first | rfl | (simp at this)
theorem dTru_low {K : PySem.W.Frag} {M : Mem} {H : Hp} {d : D} {v : V} {Q : Bool → Prop} (m : MRel K M H) (i : Is K H d v) (q : dTru d M Q) : ∃ b, TruV K v H b ∧ Q b := by
  cases d with
  | non => rw [is_non] at i; subst i; exact ⟨_, rfl, q⟩
  | bl b => rw [is_bl] at i; subst i; exact ⟨_, rfl, q⟩
  | int k => rw [is_int] at i; subst i; exact ⟨_, rfl, q⟩
  | str s =>
    rw [is_str] at i; subst i
    refine ⟨_, ⟨q.1, rfl⟩, ?_⟩
    have e : ((s.length : Int) != 0) = !decide (s.length = 0) := by
      rw [bne]
      congr 1
      rw [Bool.eq_iff_iff]
      simp
    rw [e]; exact q.2
  | tup xs =>
    rw [is_tup] at i
    obtain ⟨p, vs, rfl, e, l⟩ := i
    exact ⟨_, .inr (.inl ⟨vs, SqT.of e, rfl⟩), by rw [isEmpty_is l]; exact q⟩
  | rl xs =>
    rw [is_rl] at i
    obtain ⟨p, vs, rfl, e, l⟩ := i
    exact ⟨_, .inl ⟨vs, e.sq, rfl⟩, by rw [isEmpty_is l]; exact q⟩
  | tx xs =>
    rw [is_tx] at i
    obtain ⟨p, vs, rfl, e, l⟩ := i
    exact ⟨_, .inr (.inl ⟨vs, e.sq, rfl⟩), by rw [isEmpty_is l]; exact q⟩
  | ref p =>
    rw [is_ref] at i; subst i
    rcases q with ⟨xs, h, q⟩ | ⟨kvs, h, q⟩
    · obtain ⟨vs, e, l⟩ := m p _ h
      exact ⟨_, .inl ⟨vs, SqL.of e, rfl⟩, by rw [isEmpty_is l]; exact q⟩
    · obtain ⟨ws, e, r⟩ := m p _ h
      refine ⟨_, .inr (.inr ⟨ws, e, rfl⟩), ?_⟩
      have : ws.isEmpty = kvs.isEmpty := by
        have := KRel.length r
        cases ws <;> cases kvs <;> first | rfl | (simp at this)
      rw [this]; exact q
  | _ => exact q.elim
def dTruth (t : DTE) : DTT := fun e M Q E => t e M (fun x M1 => dTru x M1 fun b => Q b M1) E
theorem dt_truth {a : Expr} {t : DTE} (h : DE g a t) (he : ∀ whole, isTrue a g.X.env whole = (do let v ← whole; standAt a.pos; holding [v] (truthy v))) : DT g a (dTruth t) := by
  refine DT.of (pt_truth h.pe he) fun σ H e M Q sl mr fr q => ?_
  refine low_start sl mr fr q fun v d M1 H1 i m f q => ?_
  obtain ⟨b, h1, h2⟩ := dTru_low m i q
  exact ⟨b, h1, M1, m, f, h2⟩
/-! and, or, not, if-expressions -/
variable {a b c : Expr} {ta tb tc : DTE} {tA tB : DTT} {rest : List Expr}
/-- a chain of tests, whatever the whole is -/
structure DW (g : Gd) (x : Expr) (t : DTT) : Prop where
  pw : ∃ t' : TT, PW g.X x t' ∧ ∀ σ H e M Q (QV : Bool → Hp → Prop), SRel g.X.K H e σ → MRel g.X.K M H → Fr g.M0 g.H0 M H → t e M Q g.E → (∀ b M' H', MRel g.X.K M' H' → Fr M H M' H' → Q b M' → QV b H') → t' σ H QV
theorem DW.dt {x : Expr} {t : DTT} (h : DW g x t) : DT g x t := by
  obtain ⟨t', p, k⟩ := h.pw
  exact DT.of p.pt fun σ H e M Q sl mr fr q => k σ H e M Q _ sl mr fr q fun b M' H' m f q => ⟨M', m, f, q⟩
def dAndT (t u : DTT) : DTT := fun e M Q E => t e M (fun b M1 => if b = true then u e M1 Q E else Q false M1) E
def dOrT (t u : DTT) : DTT := fun e M Q E => t e M (fun b M1 => if b = true then Q true M1 else u e M1 Q E) E
theorem dw_and1 (h : DT g a tA) : DW g (.BoolOp .And [a] pos) tA := ⟨⟨_, pw_and1 h.pt, fun σ H e M Q QV sl mr fr q k => low_startT sl mr fr q k⟩⟩
theorem dw_or1 (h : DT g a tA) : DW g (.BoolOp .Or [a] pos) tA := ⟨⟨_, pw_or1 h.pt, fun σ H e M Q QV sl mr fr q k => low_startT sl mr fr q k⟩⟩
theorem dw_and (h : DT g a tA) (hb : DW g (.BoolOp .And (b :: rest) pos) tB) : DW g (.BoolOp .And (a :: b :: rest) pos) (dAndT tA tB) := by
  obtain ⟨t', p, k⟩ := hb.pw
  refine ⟨⟨_, pw_and h.pt p, fun σ H e M Q QV sl mr fr q kk => ?_⟩⟩
  refine low_startT sl mr fr q fun b M1 H1 m f q => ?_
  cases b with
  | true => exact k σ H1 e M1 _ _ (sl.ext (f.ext mr)) m (fr.trans f) q fun b M2 H2 m2 f2 q => kk b M2 H2 m2 (f.trans f2) q
  | false => exact kk false M1 H1 m f q
theorem dw_or (h : DT g a tA) (hb : DW g (.BoolOp .Or (b :: rest) pos) tB) : DW g (.BoolOp .Or (a :: b :: rest) pos) (dOrT tA tB) := by
  obtain ⟨t', p, k⟩ := hb.pw
  refine ⟨⟨_, pw_or h.pt p, fun σ H e M Q QV sl mr fr q kk => ?_⟩⟩
  refine low_startT sl mr fr q fun b M1 H1 m f q => ?_
  cases b with
  | true => exact kk true M1 H1 m f q
  | false => exact k σ H1 e M1 _ _ (sl.ext (f.ext mr)) m (fr.trans f) q fun b M2 H2 m2 f2 q => kk b M2 H2 m2 (f.trans f2) q
def dNotT (t : DTT) : DTT := fun e M Q E => t e M (fun b M1 => Q (!b) M1) E
theorem dt_not (h : DT g a tA) : DT g (.UnaryOp .Not a pos) (dNotT tA) :=
  DT.of (pt_not h.pt) fun σ H e M Q sl mr fr q => low_startT sl mr fr q fun b M1 H1 m f q => ⟨M1, m, f, q⟩
/-- values -/
def dAnd (t u : DTE) : DTE := fun e M Q E => t e M (fun x M1 => dTru x M1 fun b => if b = true then u e M1 Q E else Q x M1) E
def dOr (t u : DTE) : DTE := fun e M Q E => t e M (fun x M1 => dTru x M1 fun b => if b = true then Q x M1 else u e M1 Q E) E
def dNot (t : DTE) : DTE := fun e M Q E => t e M (fun x M1 => dTru x M1 fun b => Q (.bl (!b)) M1) E
theorem de_one {op : BoolOp} (h : DE g a ta) : DE g (.BoolOp op [a] pos) ta := DE.of (pe_one h.pe) fun σ H e M Q sl mr fr q => low_start sl mr fr q fun v d M1 H1 i m f q => lowQ.mk i m f q
theorem de_and (h : DE g a ta) (hb : DE g (.BoolOp .And (b :: rest) pos) tb) : DE g (.BoolOp .And (a :: b :: rest) pos) (dAnd ta tb) := by
  refine DE.of (pe_andT h.pe hb.pe) fun σ H e M Q sl mr fr q => ?_
  refine low_start sl mr fr q fun v d M1 H1 i m f q => ?_
  obtain ⟨b, h1, h2⟩ := dTru_low m i q
  refine ⟨b, h1, ?_⟩
  cases b with
  | true => exact low_start (sl.ext (f.ext mr)) m (fr.trans f) h2 fun v2 d2 M2 H2 i2 m2 f2 q2 => lowQ.mk i2 m2 (f.trans f2) q2
  | false => exact lowQ.mk i m f h2
theorem de_or (h : DE g a ta) (hb : DE g (.BoolOp .Or (b :: rest) pos) tb) : DE g (.BoolOp .Or (a :: b :: rest) pos) (dOr ta tb) := by
  refine DE.of (pe_orT h.pe hb.pe) fun σ H e M Q sl mr fr q => ?_
  refine low_start sl mr fr q fun v d M1 H1 i m f q => ?_
  obtain ⟨b, h1, h2⟩ := dTru_low m i q
  refine ⟨b, h1, ?_⟩
  cases b with
  | true => exact lowQ.mk i m f h2
  | false => exact low_start (sl.ext (f.ext mr)) m (fr.trans f) h2 fun v2 d2 M2 H2 i2 m2 f2 q2 => lowQ.mk i2 m2 (f.trans f2) q2
theorem de_not (h : DE g a ta) : DE g (.UnaryOp .Not a pos) (dNot ta) := by
  refine DE.of (pe_notT h.pe) fun σ H e M Q sl mr fr q => ?_
  refine low_start sl mr fr q fun v d M1 H1 i m f q => ?_
  obtain ⟨b, h1, h2⟩ := dTru_low m i q
  exact ⟨b, h1, lowQ.mk ii_bl m f h2⟩
def dIfE (t : DTT) (ta tb : DTE) : DTE := fun e M Q E => t e M (fun b M1 => if b = true then ta e M1 Q E else tb e M1 Q E) E
theorem de_if (hc : DT g c tA) (ha : DE g a ta) (hb : DE g b tb) : DE g (.IfExp c a b pos) (dIfE tA ta tb) := by
  refine DE.of (pe_ifExp hc.pt ha.pe hb.pe) fun σ H e M Q sl mr fr q => ?_
  refine low_startT sl mr fr q fun b M1 H1 m f q => ?_
  cases b with
  | true => exact low_start (sl.ext (f.ext mr)) m (fr.trans f) q fun v2 d2 M2 H2 i2 m2 f2 q2 => lowQ.mk i2 m2 (f.trans f2) q2
  | false => exact low_start (sl.ext (f.ext mr)) m (fr.trans f) q fun v2 d2 M2 H2 i2 m2 f2 q2 => lowQ.mk i2 m2 (f.trans f2) q2
theorem de_chain {op op' : CmpOp} {r r' : R2D} (ho : OpD g.X (compareOp op) r) (ho' : OpD g.X (compareOp op') r') (ha : DE g a ta) (hb : DE g b tb) (hc : DE g c tc)
    (hm : lastMarks [op, op'] [b, c] = false) : DE g (.Compare a [op, op'] [b, c] pos) (dChain r r' ta tb tc) := by
  obtain ⟨s, o1, k1⟩ := ho
  obtain ⟨s', o2, k2⟩ := ho'
  refine DE.of (pe_chain o1 o2 ha.pe hb.pe hc.pe hm) fun σ H e M Q sl mr fr q => ?_
  refine low_start sl mr fr q fun v d M1 H1 i m f q => ?_
  refine low_start (sl.ext (f.ext mr)) m (fr.trans f) q fun v2 d2 M2 H2 i2 m2 f2 q => ?_
  have f12 := f.trans f2
  refine k1 M2 H2 M2 H2 v v2 d d2 _ _ m2 Fr.refl (Is.ext (f2.ext m) _ _ i) i2 ?_ q
  intro v3 d3 M3 H3 i3 m3 f3 q
  cases d3 with
  | bl b =>
    rw [is_bl] at i3
    refine ⟨b, i3, ?_⟩
    have f13 := f12.trans f3
    cases b with
    | true =>
      refine low_start (sl.ext (f13.ext mr)) m3 (fr.trans f13) q fun v4 d4 M4 H4 i4 m4 f4 q => ?_
      exact k2 M4 H4 M H v2 v4 d2 d4 _ _ m4 (f13.trans f4) (Is.ext ((f3.trans f4).ext m2) _ _ i2) i4 fin_low q
    | false => exact lowQ.mk ii_bl m3 f13 q
  | _ => exact q.elim
end

/-! ### statements -/
/-- what a run keeps of memory and heap -/
structure Keep (g : Gd) (P : Mem → Hp → Prop) : Prop where
  step : ∀ M H M' H', P M H → Fr M H M' H' → P M' H'
  sub : ∀ M H M', P M H → Sub M' M → P M' H
  base : ∀ M H, P M H → Fr g.M0 g.H0 M H
/-- DV holds wherever D's tree wishes hold -/
structure EndsLe (g : Gd) (P : Mem → Hp → Prop) (D : DEnds) (DV : Ends) : Prop where
  nx : ∀ σ H e M, SRel g.X.K H e σ → MRel g.X.K M H → P M H → D.nx e M → DV.nx σ H
  rt : ∀ v H d M, Is g.X.K H d v → MRel g.X.K M H → P M H → D.rt d M → DV.rt v H
  bk : ∀ σ H e M, SRel g.X.K H e σ → MRel g.X.K M H → P M H → D.bk e M → DV.bk σ H
  ct : ∀ σ H e M, SRel g.X.K H e σ → MRel g.X.K M H → P M H → D.ct e M → DV.ct σ H
structure DS (g : Gd) (st : Stmt) (t : DTS) : Prop where
  ps : ∃ t' : TS, PS g.X st t' ∧ ∀ P, Keep g P → ∀ σ H e M D DV, SRel g.X.K H e σ → MRel g.X.K M H → P M H → EndsLe g P D DV → t D g.E e M → t' DV σ H
structure DSs (g : Gd) (sts : List Stmt) (t : DTS) : Prop where
  ps : ∃ t' : TS, PSs g.X sts t' ∧ ∀ P, Keep g P → ∀ σ H e M D DV, SRel g.X.K H e σ → MRel g.X.K M H → P M H → EndsLe g P D DV → t D g.E e M → t' DV σ H
def dNext : DTS := fun D _ e M => D.nx e M
def dSeq (t u : DTS) : DTS := fun D E e M => t { D with nx := u D E } E e M
section
variable {g : Gd} {st : Stmt} {sts : List Stmt} {t u : DTS} {x : Expr} {te : DTE} {pos : Pos}
theorem ds_nil : DSs g [] dNext := ⟨⟨_, pss_nil, fun P hP σ H e M D DV sl mr hp le q => le.nx _ _ _ _ sl mr hp q⟩⟩
theorem ds_cons (h : DS g st t) (h2 : DSs g sts u) : DSs g (st :: sts) (dSeq t u) := by
  obtain ⟨t', p, k⟩ := h.ps
  obtain ⟨u', p2, k2⟩ := h2.ps
  refine ⟨⟨_, pss_cons p p2, fun P hP σ H e M D DV sl mr hp le q => ?_⟩⟩
  exact k P hP σ H e M { D with nx := u D g.E } { DV with nx := u' DV } sl mr hp ⟨fun σ' H' e' M' sl' mr' fr' q' => k2 P hP σ' H' e' M' D DV sl' mr' fr' le q', le.rt, le.bk, le.ct⟩ q
/-- what stands in the memory may be forgotten -/
def dForget (t : DTS) : DTS := fun D E e M => ∃ M', Sub M' M ∧ t D E e M'
theorem ds_forget (h : DSs g sts t) : DSs g sts (dForget t) := by
  obtain ⟨t', p, k⟩ := h.ps
  exact ⟨⟨t', p, fun P hP σ H e M D DV sl mr hp le ⟨M', s, q⟩ => k P hP σ H e M' D DV sl (mr.sub s) (hP.sub _ _ _ hp s) le q⟩⟩
theorem ds_pass : DS g (.Pass pos) dNext := ⟨⟨_, ps_pass, fun P hP σ H e M D DV sl mr hp le q => le.nx _ _ _ _ sl mr hp q⟩⟩
theorem ds_break : DS g (.Break pos) (fun D _ e M => D.bk e M) := ⟨⟨_, ps_break, fun P hP σ H e M D DV sl mr hp le q => le.bk _ _ _ _ sl mr hp q⟩⟩
theorem ds_continue : DS g (.Continue pos) (fun D _ e M => D.ct e M) := ⟨⟨_, ps_continue, fun P hP σ H e M D DV sl mr hp le q => le.ct _ _ _ _ sl mr hp q⟩⟩
def dDrop (te : DTE) : DTS := fun D E e M => te e M (fun _ M1 => D.nx e M1) E
theorem ds_expr (h : DE g x te) (hs : swapsWith x none pos.line g.X.env = pure false) : DS g (.Expr x pos) (dDrop te) := by
  refine ⟨⟨_, ps_expr h.pe hs, fun P hP σ H e M D DV sl mr hp le q => ?_⟩⟩
  exact low_start sl mr (hP.base _ _ hp) q fun v d M1 H1 i m f q => le.nx _ _ _ _ (sl.ext (f.ext mr)) m (hP.step _ _ _ _ hp f) q
def dRet (te : DTE) : DTS := fun D E e M => te e M D.rt E
theorem ds_ret (h : DE g x te) : DS g (.Return (some x) pos) (dRet te) := by
  refine ⟨⟨_, ps_ret h.pe, fun P hP σ H e M D DV sl mr hp le q => ?_⟩⟩
  exact low_start sl mr (hP.base _ _ hp) q fun v d M1 H1 i m f q => le.rt _ _ _ _ i m (hP.step _ _ _ _ hp f) q
def dRetN : DTS := fun D _ _ M => D.rt .non M
theorem ds_retN : DS g (.Return none pos) dRetN := ⟨⟨_, ps_retN, fun P hP σ H e M D DV sl mr hp le q => le.rt _ _ _ _ ii_non mr hp q⟩⟩
def dIf (c : DTT) (t u : DTS) : DTS := fun D E e M => c e M (fun b M1 => if b = true then t D E e M1 else u D E e M1) E
theorem ds_if {c : Expr} {a b : List Stmt} {tc : DTT} (hc : DT g c tc) (ha : DSs g a t) (hb : DSs g b u) : DS g (.If c a b pos) (dIf tc t u) := by
  obtain ⟨t', p, k⟩ := ha.ps
  obtain ⟨u', p2, k2⟩ := hb.ps
  refine ⟨⟨_, ps_if hc.pt p p2, fun P hP σ H e M D DV sl mr hp le q => ?_⟩⟩
  refine low_startT sl mr (hP.base _ _ hp) q fun b M1 H1 m f q => ?_
  cases b with
  | true => exact k P hP σ H1 e M1 D DV (sl.ext (f.ext mr)) m (hP.step _ _ _ _ hp f) le q
  | false => exact k2 P hP σ H1 e M1 D DV (sl.ext (f.ext mr)) m (hP.step _ _ _ _ hp f) le q
end
/-! ### targets -/
abbrev DTG := D → Sl → Mem → (Sl → Mem → Prop) → EX → Prop
abbrev DTGs := List D → Sl → Mem → (Sl → Mem → Prop) → EX → Prop
/-- a target that stores into the slots ns at most -/
structure DG (g : Gd) (x : Expr) (t : DTG) (ns : List Nat) : Prop where
  pg : ∃ t' : TG, PG g.X x t' ∧ ∀ σ H e M v d Q (QV : L2.St → Hp → Prop), SRel g.X.K H e σ → MRel g.X.K M H → Fr g.M0 g.H0 M H → Is g.X.K H d v → t d e M Q g.E →
    (∀ σ' H' e' M', SRel g.X.K H' e' σ' → MRel g.X.K M' H' → Fr M H M' H' → (∀ vs, (∀ i ∈ ns, i ∈ vs) → L2.wipe σ' vs = L2.wipe σ vs) → Q e' M' → QV σ' H') → t' v σ H QV
structure DGs (g : Gd) (xs : List Expr) (t : DTGs) (ns : List Nat) : Prop where
  pg : ∃ t' : TGs, PGs g.X xs t' ∧ ∀ σ H e M vs ds Q (QV : L2.St → Hp → Prop), SRel g.X.K H e σ → MRel g.X.K M H → Fr g.M0 g.H0 M H → IsL g.X.K H ds vs → t ds e M Q g.E →
    (∀ σ' H' e' M', SRel g.X.K H' e' σ' → MRel g.X.K M' H' → Fr M H M' H' → (∀ vs, (∀ i ∈ ns, i ∈ vs) → L2.wipe σ' vs = L2.wipe σ vs) → Q e' M' → QV σ' H') → t' vs σ H QV
theorem set_wipe (σ : L2.St) (i : Nat) (w : Option V) : ∀ vs : List Nat, i ∈ vs → L2.wipe (σ.set i w) vs = L2.wipe σ vs
  | [], h => by simp at h
  | v :: vs, h => by
    show (L2.wipe (σ.set i w) vs).set v none = (L2.wipe σ vs).set v none
    have gen : ∀ vs : List Nat, L2.wipe (σ.set i w) vs = L2.wipe σ vs ∨ L2.wipe (σ.set i w) vs = (L2.wipe σ vs).set i w := by
      intro vs
      induction vs with
      | nil => exact .inr rfl
      | cons z zs ih =>
        show (L2.wipe (σ.set i w) zs).set z none = (L2.wipe σ zs).set z none ∨ (L2.wipe (σ.set i w) zs).set z none = ((L2.wipe σ zs).set z none).set i w
        rcases ih with ih | ih
        · exact .inl (by rw [ih])
        · by_cases hz : z = i
          · subst hz
            exact .inl (by rw [ih, List.set_set])
          · exact .inr (by rw [ih, List.set_comm _ _ (Ne.symm hz)])
    by_cases hv : v = i
    · subst hv
      rcases gen vs with h | h
      · rw [h]
      · rw [h, List.set_set]
    · have hm : i ∈ vs := by
        rcases List.mem_cons.mp h with h | h
        · exact absurd h.symm hv
        · exact h
      rw [set_wipe σ i w vs hm]
section
variable {g : Gd} {x : Expr} {xs : List Expr} {pos : Pos} {t : DTG} {u : DTGs} {ns ms : List Nat}
def dgName (i : Nat) : DTG := fun d e M Q _ => Q (setS e i (some d)) M
theorem dg_name {i : Nat} {n : Str} (hN : g.X.N.Nodup) (hi : g.X.N[i]? = some n) (hx : Loc g.X.env.scope n) (hf : g.X.fn n = true ∨ g.X.env.scope.names.lookup n = some .local) : DG g (.Name n pos) (dgName i) [i] :=
  ⟨⟨_, pg_name hN hi hx hf, fun σ H e M v d Q QV sl mr fr id q k => k _ H _ M (SRel.set id i sl) mr Fr.refl (fun vs hv => set_wipe σ i _ vs (hv i (by simp))) q⟩⟩
def dgNil : DTGs := fun ds e M Q _ => ds = [] ∧ Q e M
def dgCons (t : DTG) (u : DTGs) : DTGs := fun ds e M Q E => match ds with
  | d :: r => t d e M (fun e' M' => u r e' M' Q E) E
  | [] => False
theorem dgs_nil : DGs g [] dgNil [] := ⟨⟨_, pgs_nil, fun σ H e M vs ds Q QV sl mr fr il q k => by
  obtain ⟨h, q⟩ := q
  subst h
  rw [isL_nil] at il
  exact ⟨il, k σ H e M sl mr Fr.refl (fun _ _ => rfl) q⟩⟩⟩
theorem assign_cons {env : PySem.Env} (h : isStar x = false) : (assignEach (x :: xs) env).map (·.2) = assign x env :: (assignEach xs env).map (·.2) := by
  cases x <;> first | rfl | cases h
theorem dgs_cons (h : DG g x t ns) (hr : DGs g xs u ms) (hs : isStar x = false) : DGs g (x :: xs) (dgCons t u) (ns ++ ms) := by
  obtain ⟨t', p, k⟩ := h.pg
  obtain ⟨u', p2, k2⟩ := hr.pg
  refine ⟨⟨_, pgs_cons p p2 (assign_cons hs), fun σ H e M vs ds Q QV sl mr fr il q kk => ?_⟩⟩
  cases ds with
  | nil => exact q.elim
  | cons d r =>
    rw [isL_cons] at il
    obtain ⟨v, rv, rfl, i, l⟩ := il
    refine ⟨v, rv, rfl, k σ H e M v d _ _ sl mr fr i q fun σ1 H1 e1 M1 sl1 m1 f1 w1 q => ?_⟩
    refine k2 σ1 H1 e1 M1 rv r _ _ sl1 m1 (fr.trans f1) (IsL.ext (f1.ext mr) _ _ l) q fun σ2 H2 e2 M2 sl2 m2 f2 w2 q => ?_
    exact kk σ2 H2 e2 M2 sl2 m2 (f1.trans f2) (fun vs hv => (w2 vs fun i hi => hv i (List.mem_append_right _ hi)).trans (w1 vs fun i hi => hv i (List.mem_append_left _ hi))) q
def dgTup (u : DTGs) : DTG := fun d e M Q E => match d with
  | .tup ds => u ds e M Q E
  | .tx ds => u ds e M Q E
  | .rl ds => u ds e M Q E
  | .ref a => ∃ ds, M a = some (.lst ds) ∧ u ds e M Q E
  | _ => False
theorem dgs_len : ∀ {xs : List Expr} {env : PySem.Env}, (assignEach xs env).length = xs.length
  | [], _ => rfl
  | x :: xs, env => by
    have ih := dgs_len (xs := xs) (env := env)
    cases x <;> (show (_ :: assignEach xs env).length = _; rw [List.length_cons, List.length_cons, ih])
theorem dgs_nostar : ∀ {xs : List Expr} {env : PySem.Env}, xs.all (fun x => !isStar x) = true → (assignEach xs env).findIdx? (·.1) = none
  | [], _, _ => rfl
  | x :: xs, env, h => by
    rw [List.all_cons, Bool.and_eq_true] at h
    have ih := dgs_nostar (xs := xs) (env := env) h.2
    have h1 : isStar x = false := by simpa using h.1
    have e : assignEach (x :: xs) env = (false, assign x env) :: assignEach xs env := by cases x <;> first | rfl | cases h1
    rw [e, List.findIdx?_cons, ih]
    rfl
theorem dg_tup {k : Nat} (hc : g.X.calm = true) (h : DGs g xs u ns) (hl : ∀ ds e M Q E, u ds e M Q E → ds.length = xs.length) (hst : xs.all (fun x => !isStar x) = true) : DG g (.Tuple xs k pos) (dgTup u) ns := by
  obtain ⟨u', p, k2⟩ := h.pg
  refine ⟨⟨_, pg_tupQ (n := xs.length) hc p dgs_len (dgs_nostar hst), fun σ H e M v d Q QV sl mr fr i q kk => ?_⟩⟩
  cases d with
  | tup ds =>
    rw [is_tup] at i
    obtain ⟨a, vs, rfl, h1, l⟩ := i
    exact ⟨a, vs, rfl, .inl (SqT.of h1), by rw [l.length]; exact hl _ _ _ _ _ q, k2 σ H e M vs ds Q QV sl mr fr l q kk⟩
  | tx ds =>
    rw [is_tx] at i
    obtain ⟨a, vs, rfl, h1, l⟩ := i
    exact ⟨a, vs, rfl, .inl h1.sq, by rw [l.length]; exact hl _ _ _ _ _ q, k2 σ H e M vs ds Q QV sl mr fr l q kk⟩
  | rl ds =>
    rw [is_rl] at i
    obtain ⟨a, vs, rfl, h1, l⟩ := i
    exact ⟨a, vs, rfl, .inr h1.sq, by rw [l.length]; exact hl _ _ _ _ _ q, k2 σ H e M vs ds Q QV sl mr fr l q kk⟩
  | ref a =>
    rw [is_ref] at i
    subst i
    obtain ⟨ds, h1, q⟩ := q
    obtain ⟨vs, h2, l⟩ := mr a _ h1
    exact ⟨a, vs, rfl, .inr (.inl (.inl h2)), by rw [l.length]; exact hl _ _ _ _ _ q, k2 σ H e M vs ds Q QV sl mr fr l q kk⟩
  | _ => exact q.elim
/-- o[i] as a target -/
def dgSub (to ti : DTE) : DTG := fun d e M Q E => to e M (fun o M1 => ti e M1 (fun i M2 => dSet o i d M2 (fun M3 => Q e M3)) E) E
theorem dg_sub {o i : Expr} {to ti : DTE} (hu : g.X.A.units + 1 < cLine) (ho : DE g o to) (hi : DE g i ti)
    (ha : ∀ v, assign (.Subscript o i pos) g.X.env v = (do
      let ov ← holding [v] (eval o g.X.env)
      let iv ← holding [v, ov] (eval i g.X.env)
      standAt pos
      holding [v, ov, iv] (setItem ov iv v)
      release [v, ov, iv] [])) : DG g (.Subscript o i pos) (dgSub to ti) [] := by
  refine ⟨⟨_, pg_sub ho.pe hi.pe (PSet.or set_list (set_dict hu)) ha, fun σ H e M v d Q QV sl mr fr id q kk => ?_⟩⟩
  refine low_start sl mr fr q fun v1 d1 M1 H1 i1 m1 f1 q => ?_
  refine low_start (sl.ext (f1.ext mr)) m1 (fr.trans f1) q fun v2 d2 M2 H2 i2 m2 f2 q => ?_
  have f12 := f1.trans f2
  refine dSet_low m2 (Fr.refl) (Is.ext (f2.ext m1) _ _ i1) i2 (Is.ext (f12.ext mr) _ _ id) q fun M3 H3 m3 f3 q => ?_
  have f13 := f12.trans f3
  exact kk σ H3 e M3 (sl.ext (f13.ext mr)) m3 f13 (fun _ _ => rfl) q
def dAsg (te : DTE) (gt : DTG) : DTS := fun D E e M => te e M (fun x M1 => gt x e M1 D.nx E) E
theorem ds_asg {y : Expr} {te : DTE} (hy : DE g y te) (hg : DG g x t ns) (hst : isStar x = false) (hs : swapsWithSole [x] y pos.line g.X.env = pure false) (hw : swappedStores [x] y g.X.env = pure none) : DS g (.Assign [x] y pos) (dAsg te t) := by
  obtain ⟨t', p, k⟩ := hg.pg
  refine ⟨⟨_, ps_asg hy.pe p hs hw (by rw [assign_cons hst]; rfl), fun P hP σ H e M D DV sl mr hp le q => ?_⟩⟩
  have fr := hP.base _ _ hp
  refine low_start sl mr fr q fun v d M1 H1 i m f q => ?_
  exact k σ H1 e M1 v d _ _ (sl.ext (f.ext mr)) m (fr.trans f) i q fun σ2 H2 e2 M2 sl2 m2 f2 _ q => le.nx _ _ _ _ sl2 m2 (hP.step _ _ _ _ hp (f.trans f2)) q
end
end DL

/-! Loops and comprehensions by trees. -/
namespace DL
open PySem PySem.Spec PyProof.Rows L2
/-! ### what is walked -/
structure Src where
  items : List D
  live : Mem → Prop
abbrev DTI := Sl → Mem → (Src → Mem → Prop) → EX → Prop
/-- the iterator J of the layer below walks src, from H1 on -/
def JRel (K : PySem.W.Frag) (H1 : Hp) (J : It) (src : Src) : Prop :=
  ∀ (i : Nat) (M : Mem) (H : Hp), MRel K M H → Ext K H1 H → src.live M →
    (∀ d, src.items[i]? = some d → J.go i H ∧ ∀ x H', J.yld i H x H' → Is K H' d x ∧ MRel K M H' ∧ Fr M H M H') ∧ (src.items.length ≤ i → J.stop i H)
structure DI (g : Gd) (tg x : Expr) (w : DTI) : Prop where
  pi : ∃ w' : TI, PI g.X tg x w' ∧ ∀ σ H e M R (RV : It → Hp → Prop), SRel g.X.K H e σ → MRel g.X.K M H → Fr g.M0 g.H0 M H → w e M R g.E →
    (∀ J src M1 H1, JRel g.X.K H1 J src → MRel g.X.K M1 H1 → Fr M H M1 H1 → R src M1 → RV J H1) → w' σ H RV
section
variable {K : PySem.W.Frag} {H1 : Hp}
theorem jrel_of {J : It} {src : Src} {f : Hp → List V → Prop} (hl : ∀ M H, MRel K M H → Ext K H1 H → src.live M → ∃ vs, f H vs ∧ IsL K H src.items vs)
    (go : ∀ i H vs x, f H vs → vs[i]? = some x → J.go i H ∧ ∀ y H', J.yld i H y H' → H' = H ∧ y = x) (stop : ∀ i H vs, f H vs → vs.length ≤ i → J.stop i H) : JRel K H1 J src := fun i M H m fr lv => by
  obtain ⟨vs, h, l⟩ := hl M H m fr lv
  refine ⟨fun d e => ?_, fun e => stop i H vs h (by rw [l.length]; exact e)⟩
  obtain ⟨v, e1, i1⟩ := l.get e
  obtain ⟨g1, g2⟩ := go i H vs v h e1
  refine ⟨g1, fun x H' y => ?_⟩
  obtain ⟨rfl, rfl⟩ := g2 x H' y
  exact ⟨i1, m, Fr.refl⟩
theorem jrel_list {a : Addr} {ds : List D} {P : Mem → Prop} (hl : ∀ M H, MRel K M H → Ext K H1 H → P M → ∃ vs, SqL K H a vs ∧ IsL K H ds vs) : JRel K H1 (Itl K a) ⟨ds, P⟩ :=
  jrel_of (f := fun H vs => SqL K H a vs) hl (fun i H vs x h e => ⟨⟨vs, x, h, e⟩, fun y H' q => ⟨q.1, Option.some.inj ((q.2 vs h).symm.trans e)⟩⟩) fun i H vs h e => ⟨vs, h, e⟩
theorem jrel_tup {a : Addr} {ds : List D} (hl : ∀ M H, MRel K M H → Ext K H1 H → ∃ vs, SqT K H a vs ∧ IsL K H ds vs) : JRel K H1 (Itt K a) ⟨ds, fun _ => True⟩ :=
  jrel_of (f := fun H vs => SqT K H a vs) (fun M H m f _ => hl M H m f) (fun i H vs x h e => ⟨⟨vs, x, h, e⟩, fun y H' q => ⟨q.1, Option.some.inj ((q.2 vs h).symm.trans e)⟩⟩) fun i H vs h e => ⟨vs, h, e⟩
def signs (x : Str) : List D := x.cps.toList.map fun c => D.str ⟨#[c]⟩
theorem isL_map {α : Type} {f : α → D} {h : α → V} {H : Hp} (q : ∀ a, Is K H (f a) (h a)) : ∀ xs : List α, IsL K H (xs.map f) (xs.map h)
  | [] => isL_nil.mpr rfl
  | a :: xs => IsL.mk (q a) (isL_map q xs)
theorem jrel_str {x : Str} : JRel K H1 (Its x) ⟨signs x, fun _ => True⟩ := by
  refine jrel_of (f := fun H vs => vs = x.cps.toList.map fun c => V.str ⟨#[c]⟩) (fun M H m f _ => ⟨_, rfl, isL_map (fun _ => ii_str) _⟩) (fun i H vs y h e => ?_) fun i H vs h e => ?_
  · subst h
    rw [List.getElem?_map] at e
    cases q : x.cps.toList[i]? with
    | none => rw [q] at e; cases e
    | some c =>
      rw [q] at e
      cases e
      have q' : x.cps[i]? = some c := by rw [← q, Array.getElem?_toList]
      refine ⟨(Array.getElem?_eq_some_iff.mp q').1, fun z H' w => ?_⟩
      obtain ⟨w1, c', w2, w3⟩ := w
      rw [q'] at w2
      cases w2
      exact ⟨w1, w3⟩
  · subst h
    rw [List.length_map] at e
    show x.cps.size ≤ i
    simpa using e
def rng (lo : Int) (n : Nat) : List D := (List.range n).map fun i : Nat => D.int (lo + (i : Int))
theorem jrel_range {lo : Int} {n : Nat} : JRel K H1 (Itr lo n) ⟨rng lo n, fun _ => True⟩ := by
  refine jrel_of (f := fun H vs => vs = (List.range n).map fun i : Nat => V.int (lo + (i : Int))) (fun M H m f _ => ⟨_, rfl, isL_map (fun _ => ii_int) _⟩) (fun i H vs y h e => ?_) fun i H vs h e => ?_
  · subst h
    rw [List.getElem?_map] at e
    by_cases hi : i < n
    · rw [List.getElem?_range hi] at e
      cases e
      exact ⟨hi, fun z H' w => w⟩
    · rw [List.getElem?_eq_none (by rw [List.length_range]; omega)] at e
      cases e
  · subst h
    rw [List.length_map, List.length_range] at e
    exact e
/-- items in new pairs: the tree's tuple is laid at a new place -/
theorem jrel_new {J : It} {src : Src} {f : Hp → List (List V) → Prop} {ts : List (List D)} (hs : src.items = ts.map D.tup)
    (hl : ∀ M H, MRel K M H → Ext K H1 H → src.live M → ∃ vss : List (List V), f H vss ∧ vss.length = ts.length ∧ ∀ (i : Nat) (t : List D), ts[i]? = some t → ∃ vs : List V, vss[i]? = some vs ∧ IsL K H t vs)
    (go : ∀ i H vss vs, f H vss → vss[i]? = some vs → J.go i H ∧ ∀ y H', J.yld i H y H' → ∃ T, y = .ref T ∧ H T = none ∧ H' = upd H T (.tup vs)) (stop : ∀ i H vss, f H vss → vss.length ≤ i → J.stop i H) : JRel K H1 J src := fun i M H m fr lv => by
  obtain ⟨vss, h, hn, l⟩ := hl M H m fr lv
  rw [hs]
  refine ⟨fun d e => ?_, fun e => stop i H vss h (by rw [hn]; simpa using e)⟩
  rw [List.getElem?_map] at e
  cases q : ts[i]? with
  | none => rw [q] at e; cases e
  | some t =>
    rw [q] at e
    cases e
    obtain ⟨vs, e1, il⟩ := l i t q
    obtain ⟨g1, g2⟩ := go i H vss vs h e1
    refine ⟨g1, fun x H' y => ?_⟩
    obtain ⟨T, rfl, hT, rfl⟩ := g2 x H' y
    exact ⟨ii_tup upd_same (IsL.ext ((fr_new m hT).ext m) _ _ il), mr_new m hT, fr_new m hT⟩
def enumD (ds : List D) : List (List D) := (List.range ds.length).map fun i => [.int (i : Nat), ds.getD i .non]
theorem jrel_enum {a : Addr} {ds : List D} {P : Mem → Prop} (hl : ∀ M H, MRel K M H → Ext K H1 H → P M → ∃ vs, SqL K H a vs ∧ IsL K H ds vs) : JRel K H1 (Ite K a) ⟨(enumD ds).map D.tup, P⟩ := by
  refine jrel_new (ts := enumD ds) (f := fun H vss => ∃ vs, SqL K H a vs ∧ vss = (List.range vs.length).map fun i => [V.int (i : Nat), vs.getD i .non]) rfl (fun M H m f p => ?_) (fun i H vss ws h e => ?_) fun i H vss h e => ?_
  · obtain ⟨vs, h, l⟩ := hl M H m f p
    refine ⟨_, ⟨vs, h, rfl⟩, by simp [enumD, l.length], fun i t e => ?_⟩
    unfold enumD at e
    rw [List.getElem?_map] at e
    by_cases hi : i < ds.length
    · rw [List.getElem?_range hi] at e
      cases e
      have hi' : i < vs.length := by rw [l.length]; exact hi
      refine ⟨[.int (i : Nat), vs.getD i .non], by rw [List.getElem?_map, List.getElem?_range hi']; rfl, IsL.mk ii_int (IsL.mk ?_ (isL_nil.mpr rfl))⟩
      obtain ⟨v, e1, i1⟩ := l.get (List.getElem?_eq_getElem hi)
      rw [List.getD_eq_getElem?_getD, List.getD_eq_getElem?_getD, e1, List.getElem?_eq_getElem hi]
      exact i1
    · rw [List.getElem?_eq_none (by rw [List.length_range]; omega)] at e
      cases e
  · obtain ⟨vs, h, rfl⟩ := h
    rw [List.getElem?_map] at e
    by_cases hi : i < vs.length
    · rw [List.getElem?_range hi] at e
      cases e
      refine ⟨⟨vs, vs[i], h, List.getElem?_eq_getElem hi⟩, fun y H' q => ?_⟩
      obtain ⟨T, x, h1, h2, h3, h4⟩ := q
      refine ⟨T, h1, h2, ?_⟩
      have e5 : vs.getD i .non = x := by rw [List.getD_eq_getElem?_getD, h4 vs h]; rfl
      rw [h3]
      show _ = upd H T (HO.tup [V.int (i : Nat), vs.getD i .non])
      rw [e5]
    · rw [List.getElem?_eq_none (by rw [List.length_range]; omega)] at e
      cases e
  · obtain ⟨vs, h, rfl⟩ := h
    exact ⟨vs, h, by simpa using e⟩
end
/-- any value that is walked: a text, a tuple, a list -/
def wAny (K : PySem.W.Frag) (te : TE) : TI := fun σ H R => te σ H fun v H1 => (∃ x, v = .str x ∧ R (Its x) H1) ∨ (∃ a xs, v = .ref a ∧ SqT K H1 a xs ∧ R (Itt K a) H1) ∨ ∃ a xs, v = .ref a ∧ SqL K H1 a xs ∧ R (Itl K a) H1
theorem pi_any {X : Cx} {tg x : Expr} {te : TE} (he : PE X x te) : PI X tg x (wAny X.K te) := ⟨fun pins s σ H R I h => thn (he.run pins s σ H _ I h) fun v s1 z => by
  obtain ⟨y, H1, J, r, q⟩ := z
  rcases q with ⟨z, rfl, q⟩ | ⟨a, vs, rfl, hs, q⟩ | ⟨a, vs, rfl, hs, q⟩
  · obtain ⟨t, rfl⟩ := r
    cases ha : z.cps.all (· < 128) with
    | false => exact wpAny_pyIter_wide ha (pi_one (tk := s1.toks) J _ (turn_str _ z t _ (.inr rfl)) ⟨_, Heap.get?_push_size _ rfl, rfl, rfl⟩ q)
    | true => exact wpAny_pyIter_ascii ha (pi_one (tk := s1.toks) J _ (turn_str _ z t _ (.inl rfl)) ⟨_, Heap.get?_push_size _ rfl, rfl, rfl⟩ q)
  · cases r
    obtain ⟨its, rv, p, hz⟩ := J.tuple hs
    exact wpAny_pyIter_tuple (items := its.toArray) p (pi_one (tk := s1.toks) J _ (turn_tuple a _) ⟨_, Heap.get?_push_size _ rfl, rfl, rfl⟩ q)
  · cases r
    obtain ⟨its, rv, p, hz⟩ := J.list hs
    exact wpAny_pyIter_list p.isList (pi_one (tk := s1.toks) J _ (turn_list a _) ⟨_, Heap.get?_push_size _ rfl, rfl, rfl⟩ q)⟩
def walkD (d : D) (M : Mem) (R : Src → Mem → Prop) : Prop := match d with
  | .str x => R ⟨signs x, fun _ => True⟩ M
  | .tup ds => R ⟨ds, fun _ => True⟩ M
  | .rl ds => R ⟨ds, fun _ => True⟩ M
  | .tx ds => R ⟨ds, fun _ => True⟩ M
  | .ref a => ∃ ds, M a = some (.lst ds) ∧ R ⟨ds, fun M' => M' a = some (.lst ds)⟩ M
  | _ => False
def diAny (t : DTE) : DTI := fun e M R E => t e M (fun x M1 => walkD x M1 R) E
section
variable {g : Gd} {tg x : Expr} {t : DTE}
theorem di_any (h : DE g x t) : DI g tg x (diAny t) := by
  refine ⟨⟨_, pi_any h.pe, fun σ H e M R RV sl mr fr q k => ?_⟩⟩
  refine low_start sl mr fr q fun v d M1 H1 i m f q => ?_
  cases d with
  | str z => rw [is_str] at i; exact .inl ⟨z, i, k _ _ M1 H1 jrel_str m f q⟩
  | tup ds =>
    rw [is_tup] at i
    obtain ⟨a, vs, rfl, h1, l⟩ := i
    refine .inr (.inl ⟨a, vs, rfl, SqT.of h1, k _ _ M1 H1 (jrel_tup fun M' H' m' f' => ⟨vs, ?_, IsL.ext f' _ _ l⟩) m f q⟩)
    exact SqT.of (f'.1 _ _ h1)
  | rl ds =>
    rw [is_rl] at i
    obtain ⟨a, vs, rfl, h1, l⟩ := i
    refine .inr (.inr ⟨a, vs, rfl, h1.sq, k _ _ M1 H1 (jrel_list fun M' H' m' f' _ => ⟨vs, ?_, IsL.ext f' _ _ l⟩) m f q⟩)
    exact (f'.2.1 _ _ h1).sq
  | tx ds =>
    rw [is_tx] at i
    obtain ⟨a, vs, rfl, h1, l⟩ := i
    refine .inr (.inl ⟨a, vs, rfl, h1.sq, k _ _ M1 H1 (jrel_tup fun M' H' m' f' => ⟨vs, ?_, IsL.ext f' _ _ l⟩) m f q⟩)
    exact (f'.2.2 _ _ h1).sq
  | ref a =>
    rw [is_ref] at i
    subst i
    obtain ⟨ds, h1, q⟩ := q
    obtain ⟨vs, e1, l⟩ := m a _ h1
    refine .inr (.inr ⟨a, vs, rfl, SqL.of e1, k _ _ M1 H1 (jrel_list fun M' H' m' f' p => ?_) m f q⟩)
    obtain ⟨ws, e2, l2⟩ := m' a _ p
    exact ⟨ws, SqL.of e2, l2⟩
  | _ => exact q.elim
def diRng1 (r : DTA) : DTI := fun e M R E => r e M (fun ds M1 => match ds with | [.int j] => (-(2 ^ 62) ≤ j ∧ j < 2 ^ 62) ∧ R ⟨rng 0 j.toNat, fun _ => True⟩ M1 | _ => False) E
def diRng2 (r : DTA) : DTI := fun e M R E => r e M (fun ds M1 => match ds with | [.int i, .int j] => (-(2 ^ 62) ≤ i ∧ i < 2 ^ 62 ∧ -(2 ^ 62) ≤ j ∧ j < 2 ^ 62) ∧ R ⟨rng i (j - i).toNat, fun _ => True⟩ M1 | _ => False) E
theorem di_range1 {p pos : Pos} {r : DTA} (hg : Gl g.X "range") (hm : g.X.mg "range" = none) (h : DA g [x] r) (ns : isStar x = false) : DI g tg (.Call (.Name "range" p) [x] [] pos) (diRng1 r) := by
  obtain ⟨ta, pa, ka⟩ := h.pa
  refine ⟨⟨_, pi_range1 hg hm pa (star_cons ns), fun σ H e M R RV sl mr fr q k => ?_⟩⟩
  refine ka σ H e M _ _ sl mr fr q fun ds vs M1 H1 l m f q => ?_
  match ds, q with
  | [.int j], q =>
    rw [isL_cons] at l
    obtain ⟨v, rv, rfl, i, l⟩ := l
    rw [isL_nil] at l
    rw [is_int] at i
    subst l i
    exact ⟨j, rfl, q.1.1, q.1.2, k _ _ M1 H1 jrel_range m f q.2⟩
theorem di_range2 {y : Expr} {p pos : Pos} {r : DTA} (hg : Gl g.X "range") (hm : g.X.mg "range" = none) (h : DA g [x, y] r) (ns : isStar x = false) (ns2 : isStar y = false) : DI g tg (.Call (.Name "range" p) [x, y] [] pos) (diRng2 r) := by
  obtain ⟨ta, pa, ka⟩ := h.pa
  refine ⟨⟨_, pi_range2 hg hm pa (by rw [star_cons ns, star_cons ns2]; rfl) (star_cons ns2), fun σ H e M R RV sl mr fr q k => ?_⟩⟩
  refine ka σ H e M _ _ sl mr fr q fun ds vs M1 H1 l m f q => ?_
  match ds, q with
  | [.int i0, .int j], q =>
    rw [isL_cons] at l
    obtain ⟨v, rv, rfl, i, l⟩ := l
    rw [isL_cons] at l
    obtain ⟨v', rv', rfl, i', l⟩ := l
    rw [isL_nil] at l
    rw [is_int] at i i'
    subst l i i'
    exact ⟨i0, j, rfl, q.1, k _ _ M1 H1 jrel_range m f q.2⟩
/-- enumerate(a list) -/
def diEnum (r : DTA) : DTI := fun e M R E => r e M (fun ds M1 => match ds with
  | [.ref a] => ∃ xs, M1 a = some (.lst xs) ∧ R ⟨(enumD xs).map D.tup, fun M' => M' a = some (.lst xs)⟩ M1
  | [.rl xs] => R ⟨(enumD xs).map D.tup, fun _ => True⟩ M1
  | _ => False) E
theorem di_enum {elts : List Expr} {kk : Nat} {p pos tpos : Pos} {r : DTA} (hg : Gl g.X "enumerate") (hm : g.X.mg "enumerate" = none) (h : DA g [x] r) (ns : isStar x = false) : DI g (.Tuple elts kk tpos) (.Call (.Name "enumerate" p) [x] [] pos) (diEnum r) := by
  obtain ⟨ta, pa, ka⟩ := h.pa
  refine ⟨⟨_, pi_enum hg hm pa (star_cons ns), fun σ H e M R RV sl mr fr q k => ?_⟩⟩
  refine ka σ H e M _ _ sl mr fr q fun ds vs M1 H1 l m f q => ?_
  match ds, q with
  | [.ref a], q =>
    rw [isL_cons] at l
    obtain ⟨v, rv, rfl, i, l⟩ := l
    rw [isL_nil] at l
    rw [is_ref] at i
    subst l i
    obtain ⟨xs, h1, q⟩ := q
    obtain ⟨ws, e1, l1⟩ := m a _ h1
    refine ⟨a, ws, rfl, SqL.of e1, k _ _ M1 H1 (jrel_enum fun M' H' m' f' p => ?_) m f q⟩
    obtain ⟨ws', e2, l2⟩ := m' a _ p
    exact ⟨ws', SqL.of e2, l2⟩
  | [.rl xs], q =>
    rw [isL_cons] at l
    obtain ⟨v, rv, rfl, i, l⟩ := l
    rw [isL_nil] at l
    rw [is_rl] at i
    obtain ⟨a, ws, rfl, h1, l1⟩ := i
    subst l
    exact ⟨a, ws, rfl, h1.sq, k _ _ M1 H1 (jrel_enum (P := fun _ => True) fun M' H' m' f' _ => ⟨ws, (f'.2.1 _ _ h1).sq, IsL.ext f' _ _ l1⟩) m f q⟩
end
/-! ### for -/
/-- W: what holds at each turn. A turn may forget what stands in the memory: say it in W -/
def dFor (w : DTI) (gt : DTG) (tb : DTS) : DTS := fun D E e M => w e M (fun src M1 => ∃ W : Nat → Sl → Mem → Prop, W 0 e M1 ∧
  (∀ i d e' M', src.items[i]? = some d → W i e' M' → src.live M' ∧ gt d e' M' (fun e2 M2 => tb ⟨W (i + 1), D.rt, D.nx, W (i + 1)⟩ E e2 M2) E) ∧
  ∀ e' M', W src.items.length e' M' → src.live M' ∧ D.nx e' M') E
theorem ds_for {g : Gd} {tg iter : Expr} {body : List Stmt} {w : DTI} {gt : DTG} {tb : DTS} {ns : List Nat} {pos : Pos} (hp : PassesOwn (model g.X.prog g.X.w) g.X.A g.X.env g.X.xe) (hc : g.X.calm = true) (hi : DI g tg iter w) (hg : DG g tg gt ns) (hb : DSs g body tb)
    (hs : ∀ x, foldedSetIterable iter g.X.env x = pure x) : DS g (.For tg iter body [] pos) (dFor w gt tb) := by
  obtain ⟨w', pi, ki⟩ := hi.pi
  obtain ⟨g', pg, kg⟩ := hg.pg
  obtain ⟨b', pb, kb⟩ := hb.ps
  refine ⟨⟨_, ps_for hp hc pi pg pb hs, fun P hP σ H e M D DV sl mr pm le q => ?_⟩⟩
  have fr := hP.base _ _ pm
  refine ki σ H e M _ _ sl mr fr q fun J src M1 H1 jr m1 f1 q => ?_
  obtain ⟨W, h0, turn, last⟩ := q
  have fr1 := fr.trans f1
  have pm1 := hP.step _ _ _ _ pm f1
  refine ⟨fun i n σ' H' => i + n = src.items.length ∧ ∃ e' M', SRel g.X.K H' e' σ' ∧ MRel g.X.K M' H' ∧ (P M' H' ∧ Fr M1 H1 M' H') ∧ W i e' M', ⟨src.items.length, by omega, e, M1, sl.ext (f1.ext mr), m1, ⟨pm1, Fr.refl⟩, h0⟩, fun i n σ' H' hw => ?_⟩
  obtain ⟨hn, e', M', sl', m', ⟨p', f'⟩, hw⟩ := hw
  cases n with
  | zero =>
    have hi : i = src.items.length := by omega
    subst hi
    obtain ⟨lv, q⟩ := last e' M' hw
    exact .inl ⟨(jr _ M' H' m' (f'.ext m1) lv).2 (Nat.le_refl _), le.nx _ _ _ _ sl' m' p' q⟩
  | succ n =>
    have hi : i < src.items.length := by omega
    have hd := List.getElem?_eq_getElem hi
    obtain ⟨lv, q⟩ := turn i _ e' M' hd hw
    obtain ⟨go, yl⟩ := (jr i M' H' m' (f'.ext m1) lv).1 _ hd
    refine .inr ⟨go, fun σ2 H2 => ∃ e2 M2, SRel g.X.K H2 e2 σ2 ∧ MRel g.X.K M2 H2 ∧ (P M2 H2 ∧ Fr M1 H1 M2 H2) ∧ W (i + 1) e2 M2, fun σ2 H2 z => ⟨n, by omega, by omega, z⟩, fun x H2 y => ?_⟩
    obtain ⟨ix, m2, f2⟩ := yl x H2 y
    refine kg σ' H2 e' M' x _ _ _ (sl'.ext (f2.ext m')) m2 (fr1.trans (f'.trans f2)) ix q fun σ3 H3 e3 M3 sl3 m3 f3 _ q => ?_
    have f23 := f2.trans f3
    refine kb (fun M H => P M H ∧ Fr M1 H1 M H) ⟨fun A B C E z f => ⟨hP.step _ _ _ _ z.1 f, z.2.trans f⟩, fun A B C z s => ⟨hP.sub _ _ _ z.1 s, z.2.sub s⟩, fun A B z => hP.base _ _ z.1⟩ σ3 H3 e3 M3 _ _ sl3 m3 ⟨hP.step _ _ _ _ p' f23, f'.trans f23⟩ ?_ q
    exact ⟨fun σ4 H4 e4 M4 s4 m4 p4 q4 => ⟨e4, M4, s4, m4, p4, q4⟩, fun v4 H4 d4 M4 i4 m4 p4 q4 => le.rt _ _ _ _ i4 m4 p4.1 q4, fun σ4 H4 e4 M4 s4 m4 p4 q4 => le.nx _ _ _ _ s4 m4 p4.1 q4, fun σ4 H4 e4 M4 s4 m4 p4 q4 => ⟨e4, M4, s4, m4, p4, q4⟩⟩
/-! ### while -/
def dWhile (c : DTT) (tb : DTS) : DTS := fun D E e M => ∃ W : Nat → Sl → Mem → Prop, (∃ n, W n e M) ∧ ∀ n e' M', W n e' M' →
  c e' M' (fun b M1 => if b = true then tb ⟨fun e2 M2 => ∃ m, m < n ∧ W m e2 M2, D.rt, D.nx, fun e2 M2 => ∃ m, m < n ∧ W m e2 M2⟩ E e' M1 else D.nx e' M1) E
theorem ds_while {g : Gd} {c : Expr} {body : List Stmt} {tc : DTT} {tb : DTS} {pos : Pos} (hp : PassesOwn (model g.X.prog g.X.w) g.X.A g.X.env g.X.xe) (hc : DT g c tc) (hb : DSs g body tb) : DS g (.While c body [] pos) (dWhile tc tb) := by
  obtain ⟨b', pb, kb⟩ := hb.ps
  refine ⟨⟨_, ps_while hp hc.pt pb, fun P hP σ H e M D DV sl mr pm le q => ?_⟩⟩
  obtain ⟨W, ⟨n0, h0⟩, turn⟩ := q
  refine ⟨fun n σ' H' => ∃ e' M', SRel g.X.K H' e' σ' ∧ MRel g.X.K M' H' ∧ P M' H' ∧ W n e' M', ⟨n0, e, M, sl, mr, pm, h0⟩, fun n σ' H' hw => ?_⟩
  obtain ⟨e', M', sl', m', p', hw⟩ := hw
  refine low_startT sl' m' (hP.base _ _ p') (turn n e' M' hw) fun b M1 H1 m1 f1 q => ?_
  have p1 := hP.step _ _ _ _ p' f1
  cases b with
  | false => exact le.nx _ _ _ _ (sl'.ext (f1.ext m')) m1 p1 q
  | true =>
    refine ⟨fun σ2 H2 => ∃ m, m < n ∧ ∃ e2 M2, SRel g.X.K H2 e2 σ2 ∧ MRel g.X.K M2 H2 ∧ P M2 H2 ∧ W m e2 M2, fun σ2 H2 z => z, ?_⟩
    refine kb P hP σ' H1 e' M1 _ _ (sl'.ext (f1.ext m')) m1 p1 ?_ q
    exact ⟨fun σ4 H4 e4 M4 s4 m4 p4 ⟨m, hm, q4⟩ => ⟨m, hm, e4, M4, s4, m4, p4, q4⟩, le.rt, le.nx, fun σ4 H4 e4 M4 s4 m4 p4 ⟨m, hm, q4⟩ => ⟨m, hm, e4, M4, s4, m4, p4, q4⟩⟩
end DL

/-! Comprehensions by trees. -/
namespace DL
open PySem PySem.Spec PyProof.Rows L2
/-! ### a list outside the memory that grows -/
section
variable {K : PySem.W.Frag} {M M1 : Mem} {H H1 : Hp} {p : Addr} {acc acc' : List V}
theorem ext_out (h : H p = some (.lst acc)) : Ext K H (upd H p (.lst acc')) := by
  refine ⟨fun a xs e => ?_, fun a xs e => ?_, fun a xs ⟨o, e, hd⟩ => ⟨o, by
    have : a ≠ p := fun z => by subst z; rw [h] at e; cases e
    rw [upd_ne this]; exact e, hd⟩⟩
  · have ne : a ≠ p := fun z => by subst z; rw [h] at e; cases e
    rw [upd_ne ne]; exact e
  · rcases e with ⟨o, e⟩ | e
    · have ne : a ≠ p := fun z => by subst z; rw [h] at e; cases e
      exact .inl ⟨o, by rw [upd_ne ne]; exact e⟩
    · exact .inr e
theorem mr_out (m : MRel K M H) (h : H p = some (.lst acc)) (n : M p = none) : MRel K M (upd H p (.lst acc')) := fun a o e => by
  have ne : a ≠ p := fun z => by subst z; rw [n] at e; cases e
  exact (m a o e).ext (ext_out h) (upd_ne ne)
theorem fr_out (f : Fr M1 H1 M H) (n1 : H1 p = none) {o : HO} : Fr M1 H1 M (upd H p o) := ⟨fun b u hb hm => by
  have ne : b ≠ p := ne_of_none hb n1
  obtain ⟨h1, h2⟩ := f.keep b u hb hm
  exact ⟨by rw [upd_ne ne]; exact h1, h2⟩, fun b h => f.there b (upd_none h)⟩
end
theorem set_none_mem {σ : L2.St} : ∀ {vs : List Nat} (i : Nat), i ∈ vs → (wipe σ vs).set i none = wipe σ vs
  | [], i, h => by simp at h
  | v :: vs, i, h => by
    show ((wipe σ vs).set v none).set i none = (wipe σ vs).set v none
    by_cases hv : v = i
    · subst hv; rw [List.set_set]
    · have hm : i ∈ vs := by
        rcases List.mem_cons.mp h with h | h
        · exact absurd h.symm hv
        · exact h
      rw [List.set_comm _ _ hv, set_none_mem i hm]
theorem wipe_sub (σ : L2.St) (vs : List Nat) : ∀ us : List Nat, (∀ i ∈ us, i ∈ vs) → wipe (wipe σ vs) us = wipe σ vs
  | [], _ => rfl
  | u :: us, h => by
    show (wipe (wipe σ vs) us).set u none = wipe σ vs
    rw [wipe_sub σ vs us fun i hi => h i (List.mem_cons_of_mem _ hi)]
    exact set_none_mem u (h u (by simp))
theorem wipe_wipe (σ : L2.St) (vs : List Nat) : wipe (wipe σ vs) vs = wipe σ vs := wipe_sub σ vs vs fun _ h => h
/-! ### tests of a clause -/
structure DTs (g : Gd) (ifs : List Expr) (t : DTT) : Prop where
  pt : ∃ t' : TT, PTs g.X ifs t' ∧ ∀ σ H e M Q (QV : Bool → Hp → Prop), SRel g.X.K H e σ → MRel g.X.K M H → Fr g.M0 g.H0 M H → t e M Q g.E → (∀ b M' H', MRel g.X.K M' H' → Fr M H M' H' → Q b M' → QV b H') → t' σ H QV
def dYes : DTT := fun _ M Q _ => Q true M
theorem dts_nil {g : Gd} : DTs g [] dYes := ⟨⟨_, pts_nil, fun σ H e M Q QV sl mr fr q k => k true M H mr Fr.refl q⟩⟩
theorem dts_one {g : Gd} {c : Expr} {t : DTT} (h : DT g c t) : DTs g [c] t := ⟨⟨_, pts_one h.pt, fun σ H e M Q QV sl mr fr q k => low_startT sl mr fr q k⟩⟩
/-- the ground of a comprehension's block -/
abbrev blkG (g : Gd) (scope : Scope) (s : Shared) (H : Hp) (C : Addr) (cl : List (Str × Addr)) (fp : List Addr) (M1 : Mem) (H1 : Hp) : Gd := ⟨g.X.blk s H scope (compEnvC scope cl C g.X.env) fp, M1, H1, EF⟩
/-- in any block of this scope -/
def BlkE (g : Gd) (scope : Scope) (x : Expr) (t : DTE) : Prop := ∀ s H C cl fp M1 H1, DE (blkG g scope s H C cl fp M1 H1) x t
def BlkG (g : Gd) (scope : Scope) (x : Expr) (t : DTG) (ns : List Nat) : Prop := ∃ t' : TG, (∀ s H C cl fp, PG (g.X.blk s H scope (compEnvC scope cl C g.X.env) fp) x t') ∧
  ∀ σ H e M v d Q (QV : L2.St → Hp → Prop), SRel g.X.K H e σ → MRel g.X.K M H → Is g.X.K H d v → t d e M Q EF →
    (∀ σ' H' e' M', SRel g.X.K H' e' σ' → MRel g.X.K M' H' → Fr M H M' H' → (∀ vs, (∀ i ∈ ns, i ∈ vs) → L2.wipe σ' vs = L2.wipe σ vs) → Q e' M' → QV σ' H') → t' v σ H QV
def BlkT (g : Gd) (scope : Scope) (ifs : List Expr) (t : DTT) : Prop := ∃ t' : TT, (∀ s H C cl fp, PTs (g.X.blk s H scope (compEnvC scope cl C g.X.env) fp) ifs t') ∧
  ∀ σ H e M Q (QV : Bool → Hp → Prop), SRel g.X.K H e σ → MRel g.X.K M H → t e M Q EF → (∀ b M' H', MRel g.X.K M' H' → Fr M H M' H' → Q b M' → QV b H') → t' σ H QV
/-- a reading below, whatever the beginning is -/
def lowAny (K : PySem.W.Frag) (t : DTE) : TE := fun σ H Q => ∃ M0 H0, lowK K M0 H0 EF t σ H Q
theorem BlkE.pe {g : Gd} {scope : Scope} {x : Expr} {t : DTE} (h : BlkE g scope x t) (s : Shared) (H : Hp) (C : Addr) (cl : List (Str × Addr)) (fp : List Addr) : PE (g.X.blk s H scope (compEnvC scope cl C g.X.env) fp) x (lowAny g.X.K t) :=
  ⟨fun pins s1 σ H1 Q I ⟨M0, H0, q⟩ => (h s H C cl fp M0 H0).pe.run pins s1 σ H1 Q I q⟩
theorem lowAny_start {K : PySem.W.Frag} {t : DTE} {σ : L2.St} {H : Hp} {e : Sl} {M : Mem} {R : QE} {Q : VK} (sl : SRel K H e σ) (mr : MRel K M H) (h : t e M R EF)
    (k : ∀ v d M' H', Is K H' d v → MRel K M' H' → Fr M H M' H' → R d M' → Q v H') : lowAny K t σ H Q :=
  ⟨M, H, e, M, R, sl, mr, Fr.refl, h, fun v H' ⟨d, M', i, m, f, q⟩ => k v d M' H' i m f q⟩
def lowAnyT (K : PySem.W.Frag) (t : DTT) : TT := fun σ H Q => ∃ M0 H0, lowTK K M0 H0 EF t σ H Q
theorem blkT_nil {g : Gd} {scope : Scope} : BlkT g scope [] dYes := ⟨_, fun _ _ _ _ _ => pts_nil, fun σ H e M Q QV sl mr q k => k true M H mr Fr.refl q⟩
theorem blkT_one {g : Gd} {scope : Scope} {c : Expr} {t : DTT} (h : ∀ s H C cl fp M1 H1, DT (blkG g scope s H C cl fp M1 H1) c t) : BlkT g scope [c] t := by
  refine ⟨lowAnyT g.X.K t, fun s H C cl fp => pts_one ⟨fun pins s1 σ H1 Q I ⟨M0, H0, q⟩ => (h s H C cl fp M0 H0).pt.run pins s1 σ H1 Q I q⟩, fun σ H e M Q QV sl mr q k => ?_⟩
  exact ⟨M, H, e, M, Q, sl, mr, Fr.refl, q, fun b H' ⟨M', m, f, q⟩ => k b M' H' m f q⟩
/-! ### a new list that nothing else knows -/
structure DLE (g : Gd) (x : Expr) (t : DTA) : Prop where
  pe : ∃ t' : TE, PE g.X x t' ∧ ∀ σ H e M Q (QV : VK), SRel g.X.K H e σ → MRel g.X.K M H → Fr g.M0 g.H0 M H → t e M Q g.E →
    (∀ a vs ds M' H', H' a = some (.lst vs) → IsL g.X.K H' ds vs → M' a = none → H a = none → MRel g.X.K M' H' → Fr M H M' H' → Q ds M' → QV (.ref a) H') → t' σ H QV
/-- .. as a value -/
def dNew (t : DTA) : DTE := fun e M Q E => t e M (fun ds M1 => ∀ p, M1 p = none → Q (.ref p) (wr M1 p (.lst ds))) E
theorem new_in {K : PySem.W.Frag} {M M' : Mem} {H H' : Hp} {a : Addr} {vs : List V} {ds : List D} (h : H' a = some (.lst vs)) (l : IsL K H' ds vs) (n : M' a = none) (n0 : H a = none) (m : MRel K M' H') (f : Fr M H M' H') :
    MRel K (wr M' a (.lst ds)) H' ∧ Fr M H (wr M' a (.lst ds)) H' := by
  refine ⟨fun b o e => ?_, fun b o hb hm => ?_, f.there⟩
  · by_cases z : b = a
    · subst z; rw [wr_same] at e; cases e; exact ⟨vs, h, l⟩
    · rw [wr_ne z] at e; exact m b o e
  · have ne : b ≠ a := ne_of_none hb n0
    obtain ⟨h1, h2⟩ := f.keep b o hb hm
    exact ⟨h1, by rw [wr_ne ne]; exact h2⟩
theorem DLE.de {g : Gd} {x : Expr} {t : DTA} (h : DLE g x t) : DE g x (dNew t) := by
  obtain ⟨t', p, k⟩ := h.pe
  refine DE.of p fun σ H e M Q sl mr fr q => ?_
  refine k σ H e M _ _ sl mr fr q fun a vs ds M' H' h l n n0 m f q => ?_
  obtain ⟨m2, f2⟩ := new_in h l n n0 m f
  exact lowQ.mk ii_ref m2 f2 (q a n)
/-! ### [elt for target in iter if ..] -/
def dLc (w : DTI) (gt : DTG) (tt : DTT) (te : DTE) (vs : List Nat) : DTA := fun e M Q E => w e M (fun src M1 => ∃ I : Nat → List D → Mem → Prop, I 0 [] M1 ∧
  (∀ i d acc M', src.items[i]? = some d → I i acc M' → src.live M' ∧ gt d (wipeS e vs) M' (fun e2 M2 => tt e2 M2 (fun b M3 =>
    if b = true then te e2 M3 (fun y M4 => acc.length < sizeLine ∧ I (i + 1) (acc ++ [y]) M4) EF else I (i + 1) acc M3) EF) EF) ∧
  ∀ acc M', I src.items.length acc M' → src.live M' ∧ Q acc M') E
section
variable {g : Gd} {elt tg iter : Expr} {ifs : List Expr} {scope : Scope} {own : List (Str × Nat)} {pos : Pos} {w : DTI} {gt : DTG} {tt : DTT} {te : DTE} {ns : List Nat}
theorem lc_low {w' : TI} {g' : TG} {tt' : TT} (ki : ∀ σ H e M R (RV : It → Hp → Prop), SRel g.X.K H e σ → MRel g.X.K M H → Fr g.M0 g.H0 M H → w e M R g.E →
      (∀ J src M1 H1, JRel g.X.K H1 J src → MRel g.X.K M1 H1 → Fr M H M1 H1 → R src M1 → RV J H1) → w' σ H RV)
    (kg : ∀ σ H e M v d Q (QV : L2.St → Hp → Prop), SRel g.X.K H e σ → MRel g.X.K M H → Is g.X.K H d v → gt d e M Q EF →
      (∀ σ' H' e' M', SRel g.X.K H' e' σ' → MRel g.X.K M' H' → Fr M H M' H' → (∀ vs, (∀ i ∈ ns, i ∈ vs) → L2.wipe σ' vs = L2.wipe σ vs) → Q e' M' → QV σ' H') → g' v σ H QV)
    (kt : ∀ σ H e M Q (QV : Bool → Hp → Prop), SRel g.X.K H e σ → MRel g.X.K M H → tt e M Q EF → (∀ b M' H', MRel g.X.K M' H' → Fr M H M' H' → Q b M' → QV b H') → tt' σ H QV)
    (hns : ∀ i ∈ ns, i ∈ own.map (·.2)) {σ : L2.St} {H : Hp} {e : Sl} {M : Mem} {Q : List D → Mem → Prop} {QV : VK} (sl : SRel g.X.K H e σ) (mr : MRel g.X.K M H) (fr : Fr g.M0 g.H0 M H) (q : dLc w gt tt te (own.map (·.2)) e M Q g.E)
    (k : ∀ a vs ds M' H', H' a = some (.lst vs) → IsL g.X.K H' ds vs → M' a = none → H a = none → MRel g.X.K M' H' → Fr M H M' H' → Q ds M' → QV (.ref a) H') : tLc w' g' tt' (lowAny g.X.K te) (own.map (·.2)) σ H QV := by
  refine ki σ H e M _ _ sl mr fr q fun J src M1 H1 jr m1 f1 q => ?_
  obtain ⟨I, h0, turn, last⟩ := q
  intro p hp
  have np1 : M1 p = none := m1.none_of hp
  have h0p : H p = none := f1.there p hp
  have fr1 := fr.trans f1
  have e1 : Ext g.X.K H H1 := f1.ext mr
  have fn := fr_new (o := HO.lst []) m1 hp
  refine ⟨fun i n H' => i + n = src.items.length ∧ ∃ acc vs M', H' p = some (.lst vs) ∧ IsL g.X.K H' acc vs ∧ M' p = none ∧ MRel g.X.K M' H' ∧ Fr M1 H1 M' H' ∧ I i acc M',
    ⟨src.items.length, by omega, [], [], M1, upd_same, isL_nil.mpr rfl, np1, mr_new m1 hp, fn, h0⟩, fun i n H' hw => ?_⟩
  obtain ⟨hn, acc, vs, M', hp', il, np, m', f', hw⟩ := hw
  have ex : Ext g.X.K H H' := (f1.trans f').ext mr
  cases n with
  | zero =>
    have hi : i = src.items.length := by omega
    subst hi
    obtain ⟨lv, q⟩ := last acc M' hw
    exact .inl ⟨(jr _ M' H' m' (f'.ext m1) lv).2 (Nat.le_refl _), k p vs acc M' H' hp' il np h0p m' (f1.trans f') q⟩
  | succ n =>
    have hi : i < src.items.length := by omega
    have hd := List.getElem?_eq_getElem hi
    obtain ⟨lv, q⟩ := turn i _ acc M' hd hw
    obtain ⟨go, yl⟩ := (jr i M' H' m' (f'.ext m1) lv).1 _ hd
    refine .inr ⟨go, fun H2 => ∃ acc vs M', H2 p = some (.lst vs) ∧ IsL g.X.K H2 acc vs ∧ M' p = none ∧ MRel g.X.K M' H2 ∧ Fr M1 H1 M' H2 ∧ I (i + 1) acc M', fun H2 z => ⟨n, by omega, by omega, z⟩, fun x H2 y => ?_⟩
    obtain ⟨ix, m2, f2⟩ := yl x H2 y
    refine kg (wipe σ (own.map (·.2))) H2 (wipeS e (own.map (·.2))) M' x _ _ _ ((sl.ext ((f1.trans (f'.trans f2)).ext mr)).wipe _) m2 ix q fun σ3 H3 e3 M3 sl3 m3 f3 hwp q => ?_
    refine ⟨(hwp _ hns).trans (wipe_wipe σ _), ?_⟩
    refine kt σ3 H3 e3 M3 _ _ sl3 m3 q fun b M4 H4 m4 f4 q => ?_
    have f24 := f2.trans (f3.trans f4)
    cases b with
    | false =>
      obtain ⟨p4, np4⟩ := f24.keep p _ hp' np
      exact ⟨acc, vs, M4, p4, IsL.ext (f24.ext m') _ _ il, np4, m4, f'.trans f24, q⟩
    | true =>
      refine lowAny_start (sl3.ext (f4.ext m3)) m4 q fun v d M5 H5 i5 m5 f5 q => ?_
      have f25 := f24.trans f5
      obtain ⟨p5, np5⟩ := f25.keep p _ hp' np
      have il5 := IsL.ext (f25.ext m') _ _ il
      have eo : Ext g.X.K H5 (upd H5 p (.lst (vs ++ [v]))) := ext_out p5
      refine ⟨vs, p5, by rw [il5.length]; exact q.1, acc ++ [d], vs ++ [v], M5, upd_same, ?_, np5, mr_out m5 p5 np5, fr_out (f'.trans f25) hp, q.2⟩
      exact (IsL.ext eo _ _ il5).append (IsL.mk (Is.ext eo _ _ i5) (isL_nil.mpr rfl))
end
end DL

/-! Comprehensions as expressions and statements. -/
namespace DL
open PySem PySem.Spec PyProof.Rows L2
section
variable {g : Gd} {elt tg iter tg1 iter1 : Expr} {ifs ifs1 : List Expr} {scope : Scope} {own : List (Str × Nat)} {vs1 : List Nat} {pos spos py : Pos} {w w1 : DTI} {gt gt1 : DTG} {tt tt1 : DTT} {te : DTE} {ns ms : List Nat}
theorem dle_lc (hc : g.X.calm = true) (hN : g.X.N.Nodup) (hi : DI g tg iter w) (ok : BlkOk g.X.N g.X.env.scope scope own) (hg : BlkG g scope tg gt ns) (ht : BlkT g scope ifs tt) (he : BlkE g scope elt te) (hns : ∀ i ∈ ns, i ∈ own.map (·.2))
    (hs : ∀ x, foldedSetIterable iter g.X.env x = pure x) : DLE g (.ListComp elt [⟨tg, iter, ifs, 0⟩] scope pos) (dLc w gt tt te (own.map (·.2))) := by
  obtain ⟨w', pi, ki⟩ := hi.pi
  obtain ⟨g', pg, kg⟩ := hg
  obtain ⟨t', pt, kt⟩ := ht
  exact ⟨⟨_, pe_lc hc hN pi ok pg pt he.pe hs, fun σ H e M Q QV sl mr fr q k => lc_low ki kg kt hns sl mr fr q k⟩⟩
/-- name = [..] -/
theorem ds_lc {i : Nat} {y : Str} (hc : g.X.calm = true) (hN : g.X.N.Nodup) (hy : g.X.N[i]? = some y) (hyl : g.X.env.scope.names.lookup y = some .local)
    (hsw : swapsWith (.ListComp elt [⟨tg, iter, ifs, 0⟩] scope pos) (some (.Name y py)) spos.line g.X.env = pure true) (hi : DI g tg iter w) (ok : BlkOk g.X.N g.X.env.scope scope own) (hg : BlkG g scope tg gt ns) (ht : BlkT g scope ifs tt) (he : BlkE g scope elt te) (hns : ∀ i ∈ ns, i ∈ own.map (·.2))
    (hs : ∀ x, foldedSetIterable iter g.X.env x = pure x) : DS g (.Assign [.Name y py] (.ListComp elt [⟨tg, iter, ifs, 0⟩] scope pos) spos) (dAsg (dNew (dLc w gt tt te (own.map (·.2)))) (dgName i)) := by
  obtain ⟨w', pi, ki⟩ := hi.pi
  obtain ⟨g', pg, kg⟩ := hg
  obtain ⟨t', pt, kt⟩ := ht
  refine ⟨⟨_, ps_setLc hc hN hy hyl hsw pi ok pg pt he.pe hs, fun P hP σ H e M D DV sl mr pm le q => ?_⟩⟩
  have fr := hP.base _ _ pm
  refine lc_low ki kg kt hns sl mr fr q fun a vs ds M' H' h l n n0 m f q => ?_
  obtain ⟨m2, f2⟩ := new_in h l n n0 m f
  exact le.nx _ _ _ _ (SRel.set ii_ref i (sl.ext (f2.ext mr))) m2 (hP.step _ _ _ _ pm f2) (q a n)
/-! ### two clauses -/
def BlkI (g : Gd) (scope : Scope) (tg x : Expr) (w : DTI) : Prop := ∃ w' : TI, (∀ s H C cl fp, PI (g.X.blk s H scope (compEnvC scope cl C g.X.env) fp) tg x w') ∧
  ∀ σ H e M R (RV : It → Hp → Prop), SRel g.X.K H e σ → MRel g.X.K M H → w e M R EF →
    (∀ J src M1 H1, JRel g.X.K H1 J src → MRel g.X.K M1 H1 → Fr M H M1 H1 → R src M1 → RV J H1) → w' σ H RV
def dLc2 (w : DTI) (gt : DTG) (tt : DTT) (w1 : DTI) (gt1 : DTG) (tt1 : DTT) (te : DTE) (vs vs1 : List Nat) : DTA := fun e M Q E => w e M (fun src M1 => ∃ I : Nat → List D → Mem → Prop, I 0 [] M1 ∧
  (∀ i d acc M', src.items[i]? = some d → I i acc M' → src.live M' ∧ gt d (wipeS e vs) M' (fun e2 M2 => tt e2 M2 (fun b M3 =>
    if b = true then w1 e2 M3 (fun src1 M4 => ∃ I1 : Nat → List D → Mem → Prop, I1 0 acc M4 ∧
      (∀ j d1 acc1 M5, src1.items[j]? = some d1 → I1 j acc1 M5 → src1.live M5 ∧ gt1 d1 (wipeS e2 vs1) M5 (fun e3 M6 => tt1 e3 M6 (fun b M7 =>
        if b = true then te e3 M7 (fun y M8 => acc1.length < sizeLine ∧ I1 (j + 1) (acc1 ++ [y]) M8) EF else I1 (j + 1) acc1 M7) EF) EF) ∧
      ∀ acc1 M5, I1 src1.items.length acc1 M5 → src1.live M5 ∧ I (i + 1) acc1 M5) EF
    else I (i + 1) acc M3) EF) EF) ∧
  ∀ acc M', I src.items.length acc M' → src.live M' ∧ Q acc M') E
theorem lc2_low {w' w1' : TI} {g' g1' : TG} {tt' tt1' : TT} (ki : ∀ σ H e M R (RV : It → Hp → Prop), SRel g.X.K H e σ → MRel g.X.K M H → Fr g.M0 g.H0 M H → w e M R g.E →
      (∀ J src M1 H1, JRel g.X.K H1 J src → MRel g.X.K M1 H1 → Fr M H M1 H1 → R src M1 → RV J H1) → w' σ H RV)
    (kg : ∀ σ H e M v d Q (QV : L2.St → Hp → Prop), SRel g.X.K H e σ → MRel g.X.K M H → Is g.X.K H d v → gt d e M Q EF →
      (∀ σ' H' e' M', SRel g.X.K H' e' σ' → MRel g.X.K M' H' → Fr M H M' H' → (∀ vs, (∀ i ∈ ns, i ∈ vs) → L2.wipe σ' vs = L2.wipe σ vs) → Q e' M' → QV σ' H') → g' v σ H QV)
    (kt : ∀ σ H e M Q (QV : Bool → Hp → Prop), SRel g.X.K H e σ → MRel g.X.K M H → tt e M Q EF → (∀ b M' H', MRel g.X.K M' H' → Fr M H M' H' → Q b M' → QV b H') → tt' σ H QV)
    (ki1 : ∀ σ H e M R (RV : It → Hp → Prop), SRel g.X.K H e σ → MRel g.X.K M H → w1 e M R EF →
      (∀ J src M1 H1, JRel g.X.K H1 J src → MRel g.X.K M1 H1 → Fr M H M1 H1 → R src M1 → RV J H1) → w1' σ H RV)
    (kg1 : ∀ σ H e M v d Q (QV : L2.St → Hp → Prop), SRel g.X.K H e σ → MRel g.X.K M H → Is g.X.K H d v → gt1 d e M Q EF →
      (∀ σ' H' e' M', SRel g.X.K H' e' σ' → MRel g.X.K M' H' → Fr M H M' H' → (∀ vs, (∀ i ∈ ms, i ∈ vs) → L2.wipe σ' vs = L2.wipe σ vs) → Q e' M' → QV σ' H') → g1' v σ H QV)
    (kt1 : ∀ σ H e M Q (QV : Bool → Hp → Prop), SRel g.X.K H e σ → MRel g.X.K M H → tt1 e M Q EF → (∀ b M' H', MRel g.X.K M' H' → Fr M H M' H' → Q b M' → QV b H') → tt1' σ H QV)
    (hns : ∀ i ∈ ns, i ∈ own.map (·.2)) (hms : ∀ i ∈ ms, i ∈ vs1) {σ : L2.St} {H : Hp} {e : Sl} {M : Mem} {Q : List D → Mem → Prop} {QV : VK} (sl : SRel g.X.K H e σ) (mr : MRel g.X.K M H) (fr : Fr g.M0 g.H0 M H)
    (q : dLc2 w gt tt w1 gt1 tt1 te (own.map (·.2)) vs1 e M Q g.E)
    (k : ∀ a vs ds M' H', H' a = some (.lst vs) → IsL g.X.K H' ds vs → M' a = none → H a = none → MRel g.X.K M' H' → Fr M H M' H' → Q ds M' → QV (.ref a) H') : tLc2 w' g' tt' w1' g1' tt1' (lowAny g.X.K te) (own.map (·.2)) vs1 σ H QV := by
  refine ki σ H e M _ _ sl mr fr q fun J src M1 H1 jr m1 f1 q => ?_
  obtain ⟨I, h0, turn, last⟩ := q
  intro p hp
  have np1 : M1 p = none := m1.none_of hp
  have h0p : H p = none := f1.there p hp
  have fn := fr_new (o := HO.lst []) m1 hp
  refine ⟨fun i n H' => i + n = src.items.length ∧ ∃ acc vs M', H' p = some (.lst vs) ∧ IsL g.X.K H' acc vs ∧ M' p = none ∧ MRel g.X.K M' H' ∧ Fr M1 H1 M' H' ∧ I i acc M',
    ⟨src.items.length, by omega, [], [], M1, upd_same, isL_nil.mpr rfl, np1, mr_new m1 hp, fn, h0⟩, fun i n H' hw => ?_⟩
  obtain ⟨hn, acc, vs, M', hp', il, np, m', f', hw⟩ := hw
  cases n with
  | zero =>
    have hi : i = src.items.length := by omega
    subst hi
    obtain ⟨lv, q⟩ := last acc M' hw
    exact .inl ⟨(jr _ M' H' m' (f'.ext m1) lv).2 (Nat.le_refl _), k p vs acc M' H' hp' il np h0p m' (f1.trans f') q⟩
  | succ n =>
    have hi : i < src.items.length := by omega
    have hd := List.getElem?_eq_getElem hi
    obtain ⟨lv, q⟩ := turn i _ acc M' hd hw
    obtain ⟨go, yl⟩ := (jr i M' H' m' (f'.ext m1) lv).1 _ hd
    refine .inr ⟨go, fun H2 => ∃ acc vs M', H2 p = some (.lst vs) ∧ IsL g.X.K H2 acc vs ∧ M' p = none ∧ MRel g.X.K M' H2 ∧ Fr M1 H1 M' H2 ∧ I (i + 1) acc M', fun H2 z => ⟨n, by omega, by omega, z⟩, fun x H2 y => ?_⟩
    obtain ⟨ix, m2, f2⟩ := yl x H2 y
    refine kg (wipe σ (own.map (·.2))) H2 (wipeS e (own.map (·.2))) M' x _ _ _ ((sl.ext ((f1.trans (f'.trans f2)).ext mr)).wipe _) m2 ix q fun σ3 H3 e3 M3 sl3 m3 f3 hwp q => ?_
    refine ⟨(hwp _ hns).trans (wipe_wipe σ _), ?_⟩
    refine kt σ3 H3 e3 M3 _ _ sl3 m3 q fun b M4 H4 m4 f4 q => ?_
    have f24 := f2.trans (f3.trans f4)
    obtain ⟨p4, np4⟩ := f24.keep p _ hp' np
    have il4 := IsL.ext (f24.ext m') _ _ il
    have sl4 := sl3.ext (f4.ext m3)
    cases b with
    | false => exact ⟨acc, vs, M4, p4, il4, np4, m4, f'.trans f24, q⟩
    | true =>
      refine ki1 σ3 H4 e3 M4 _ _ sl4 m4 q fun J1 src1 M5 H5 jr1 m5 f5 q => ?_
      obtain ⟨I1, k0, turn1, last1⟩ := q
      have f15 := f'.trans (f24.trans f5)
      obtain ⟨p5, np5⟩ := f5.keep p _ p4 np4
      refine ⟨fun j n H' => j + n = src1.items.length ∧ ∃ acc vs M', H' p = some (.lst vs) ∧ IsL g.X.K H' acc vs ∧ M' p = none ∧ MRel g.X.K M' H' ∧ Fr M1 H1 M' H' ∧ Ext g.X.K H5 H' ∧ I1 j acc M',
        ⟨src1.items.length, by omega, acc, vs, M5, p5, IsL.ext (f5.ext m4) _ _ il4, np5, m5, f15, Ext.refl, k0⟩, fun j n' H' hw => ?_⟩
      obtain ⟨hn1, ac, us, M6, p6, il6, np6, m6, f6, e6, hw⟩ := hw
      cases n' with
      | zero =>
        have hj : j = src1.items.length := by omega
        subst hj
        obtain ⟨lv, q⟩ := last1 ac M6 hw
        exact .inl ⟨(jr1 _ M6 H' m6 e6 lv).2 (Nat.le_refl _), ac, us, M6, p6, il6, np6, m6, f6, q⟩
      | succ n' =>
        have hj : j < src1.items.length := by omega
        have hd1 := List.getElem?_eq_getElem hj
        obtain ⟨lv, q⟩ := turn1 j _ ac M6 hd1 hw
        obtain ⟨go1, yl1⟩ := (jr1 j M6 H' m6 e6 lv).1 _ hd1
        refine .inr ⟨go1, fun H2 => ∃ acc vs M', H2 p = some (.lst vs) ∧ IsL g.X.K H2 acc vs ∧ M' p = none ∧ MRel g.X.K M' H2 ∧ Fr M1 H1 M' H2 ∧ Ext g.X.K H5 H2 ∧ I1 (j + 1) acc M', fun H2 z => ⟨n', by omega, by omega, z⟩, fun x1 H7 y1 => ?_⟩
        obtain ⟨ix1, m7, f7⟩ := yl1 x1 H7 y1
        have e57 : Ext g.X.K H5 H7 := e6.trans (f7.ext m6)
        refine kg1 (wipe σ3 vs1) H7 (wipeS e3 vs1) M6 x1 _ _ _ ((sl4.ext ((f5.ext m4).trans e57)).wipe _) m7 ix1 q fun σ8 H8 e8 M8 sl8 m8 f8 hw8 q => ?_
        refine ⟨(hw8 _ hms).trans (wipe_wipe σ3 _), ?_⟩
        refine kt1 σ8 H8 e8 M8 _ _ sl8 m8 q fun b M9 H9 m9 f9 q => ?_
        have f79 := f7.trans (f8.trans f9)
        cases b with
        | false =>
          obtain ⟨p9, np9⟩ := f79.keep p _ p6 np6
          exact ⟨ac, us, M9, p9, IsL.ext (f79.ext m6) _ _ il6, np9, m9, f6.trans f79, e6.trans (f79.ext m6), q⟩
        | true =>
          refine lowAny_start (sl8.ext (f9.ext m8)) m9 q fun v d Ma Ha ia ma fa q => ?_
          have f7a := f79.trans fa
          obtain ⟨pa, npa⟩ := f7a.keep p _ p6 np6
          have ila := IsL.ext (f7a.ext m6) _ _ il6
          have eo : Ext g.X.K Ha (upd Ha p (.lst (us ++ [v]))) := ext_out pa
          refine ⟨us, pa, by rw [ila.length]; exact q.1, ac ++ [d], us ++ [v], Ma, upd_same, ?_, npa, mr_out ma pa npa, fr_out (f6.trans f7a) hp, (e6.trans (f7a.ext m6)).trans eo, q.2⟩
          exact (IsL.ext eo _ _ ila).append (IsL.mk (Is.ext eo _ _ ia) (isL_nil.mpr rfl))
theorem dle_lc2 (hc : g.X.calm = true) (hN : g.X.N.Nodup) (hi : DI g tg iter w) (ok : BlkOk g.X.N g.X.env.scope scope own) (hv : ∀ i ∈ vs1, i ∈ own.map (·.2)) (hg : BlkG g scope tg gt ns) (ht : BlkT g scope ifs tt) (hi1 : BlkI g scope tg1 iter1 w1) (hg1 : BlkG g scope tg1 gt1 ms) (ht1 : BlkT g scope ifs1 tt1)
    (he : BlkE g scope elt te) (hns : ∀ i ∈ ns, i ∈ own.map (·.2)) (hms : ∀ i ∈ ms, i ∈ vs1) (hs : ∀ x, foldedSetIterable iter g.X.env x = pure x) (hs1 : ∀ env x, foldedSetIterable iter1 env x = pure x) :
    DLE g (.ListComp elt [⟨tg, iter, ifs, 0⟩, ⟨tg1, iter1, ifs1, 0⟩] scope pos) (dLc2 w gt tt w1 gt1 tt1 te (own.map (·.2)) vs1) := by
  obtain ⟨w', pi, ki⟩ := hi.pi
  obtain ⟨g', pg, kg⟩ := hg
  obtain ⟨t', pt, kt⟩ := ht
  obtain ⟨w1', pi1, ki1⟩ := hi1
  obtain ⟨g1', pg1, kg1⟩ := hg1
  obtain ⟨t1', pt1, kt1⟩ := ht1
  exact ⟨⟨_, pe_lc2 hc hN pi ok hv pg pt pi1 pg1 pt1 he.pe hs hs1, fun σ H e M Q QV sl mr fr q k => lc2_low ki kg kt ki1 kg1 kt1 hns hms sl mr fr q k⟩⟩
theorem ds_lc2 {i : Nat} {y : Str} (hc : g.X.calm = true) (hN : g.X.N.Nodup) (hy : g.X.N[i]? = some y) (hyl : g.X.env.scope.names.lookup y = some .local)
    (hsw : swapsWith (.ListComp elt [⟨tg, iter, ifs, 0⟩, ⟨tg1, iter1, ifs1, 0⟩] scope pos) (some (.Name y py)) spos.line g.X.env = pure true) (hi : DI g tg iter w) (ok : BlkOk g.X.N g.X.env.scope scope own) (hv : ∀ i ∈ vs1, i ∈ own.map (·.2)) (hg : BlkG g scope tg gt ns) (ht : BlkT g scope ifs tt) (hi1 : BlkI g scope tg1 iter1 w1) (hg1 : BlkG g scope tg1 gt1 ms) (ht1 : BlkT g scope ifs1 tt1)
    (he : BlkE g scope elt te) (hns : ∀ i ∈ ns, i ∈ own.map (·.2)) (hms : ∀ i ∈ ms, i ∈ vs1) (hs : ∀ x, foldedSetIterable iter g.X.env x = pure x) (hs1 : ∀ env x, foldedSetIterable iter1 env x = pure x) :
    DS g (.Assign [.Name y py] (.ListComp elt [⟨tg, iter, ifs, 0⟩, ⟨tg1, iter1, ifs1, 0⟩] scope pos) spos) (dAsg (dNew (dLc2 w gt tt w1 gt1 tt1 te (own.map (·.2)) vs1)) (dgName i)) := by
  obtain ⟨w', pi, ki⟩ := hi.pi
  obtain ⟨g', pg, kg⟩ := hg
  obtain ⟨t', pt, kt⟩ := ht
  obtain ⟨w1', pi1, ki1⟩ := hi1
  obtain ⟨g1', pg1, kg1⟩ := hg1
  obtain ⟨t1', pt1, kt1⟩ := ht1
  refine ⟨⟨_, ps_setLc2 hc hN hy hyl hsw pi ok hv pg pt pi1 pg1 pt1 he.pe hs hs1, fun P hP σ H e M D DV sl mr pm le q => ?_⟩⟩
  have fr := hP.base _ _ pm
  refine lc2_low ki kg kt ki1 kg1 kt1 hns hms sl mr fr q fun a vs ds M' H' h l n n0 m f q => ?_
  obtain ⟨m2, f2⟩ := new_in h l n n0 m f
  exact le.nx _ _ _ _ (SRel.set ii_ref i (sl.ext (f2.ext mr))) m2 (hP.step _ _ _ _ pm f2) (q a n)
end
end DL

/-! Defs, their calls, the law's end. -/
namespace DL
open PySem PySem.Spec PyProof.Rows L2
abbrev DSp := List D → Mem → QE → EX → Prop
/-- the def at f keeps the promise sp (told of trees), at most k calls deep -/
structure FnG (P : Program) (w : World) (K : PySem.W.Frag) (mg : Str → Option Value) (base : Heap) (k : Nat) (f : Addr) (fd : FuncData) (ps : List Str) (sp : DSp) : Prop where
  len : ∀ ds M Q E, sp ds M Q E → ds.length = ps.length
  run : ∀ (A : Around) (outer : List PySem.Env) (s : Shared) (H : Hp) (args : Args) (us : List Value) (vs : List V) (ds : List D) (M : Mem) (Q : QE) (E : EX) (QV : VK) (XV : XK), Room k A → A.guards = some [] → Env0 P w K mg base A outer s H →
    BindsTo s fd args (ps.zip us) → Vals vs us → IsL K H ds vs → MRel K M H → Fin K M H Q QV → (∀ c d H', wxOf K M H E c d H' → XV c d H') → sp ds M Q E → codeAny (model P w) A (.call (.ref f) args) (CR (CX P w) outer P w H s QV XV) s
def startD (n : Nat) (ds : List D) : Sl := ds.map some ++ List.replicate (n - ds.length) none
theorem start_rel {K : PySem.W.Frag} {H : Hp} (N : List Str) : ∀ {ds : List D} {vs : List V}, IsL K H ds vs → SRel K H (startD N.length ds) (L2.start N vs) := by
  intro ds vs h
  have hl := h.length
  unfold startD L2.start
  rw [hl]
  have tail : ∀ n : Nat, SRel K H (List.replicate n none) (List.replicate n none) := fun n => by
    induction n with
    | zero => rfl
    | succ n ih => exact ⟨none, _, rfl, (fun d e => nomatch e), ih⟩
  generalize N.length - ds.length = n
  clear hl
  induction ds generalizing vs with
  | nil => rw [isL_nil] at h; subst h; exact tail n
  | cons d ds ih =>
    rw [isL_cons] at h
    obtain ⟨v, r, rfl, i, t⟩ := h
    exact ⟨some v, _, rfl, fun d' e => by cases e; exact ⟨v, rfl, i⟩, ih t⟩
/-- the ground of a def's body -/
abbrev bodyG (P : Program) (w : World) (K : PySem.W.Frag) (mg : Str → Option Value) (base : Heap) (N : List Str) (qual : Str) (scope : Scope) (f : Addr) (cd : Value) (A : Around) (outer : List PySem.Env) (s : Shared) (H : Hp) (XV : XK) (M : Mem) (E : EX) : Gd :=
  ⟨cxOf (CX P w) P w K mg base N qual scope f cd A outer s H XV, M, H, E⟩
/-- a body keeps a promise -/
theorem fnG_of {P : Program} {w : World} {K : PySem.W.Frag} {mg : Str → Option Value} {base : Heap} {k : Nat} {f : Addr} {name qual : Str} {params : Arguments} {body : List Stmt} {scope : Scope} {dV kV doc pm cdv ct oc : Value} {an od : Option Addr} {osl : Array (Option Value)} {N ps : List Str} {sp : DSp}
    (lk : K.lookup f = some ⟨oc, od, .func (PySem.W.fnOf name qual params body scope dV kV doc pm an cdv ct), osl⟩) (hcd : PySem.W.codeIn K cdv qual = true) (S : FnScope N ps scope) (len : ∀ ds M Q E, sp ds M Q E → ds.length = ps.length)
    (hbody : ∀ (A : Around) (outer : List PySem.Env) (s : Shared) (H : Hp) (ds : List D) (M : Mem) (Q : QE) (E : EX) (XV : XK), Room k (A.deeper (envOfC qual scope s.heap.objs.size f cdv)) → A.guards = some [] → (∀ c d H', wxOf K M H E c d H' → XV c d H') → sp ds M Q E →
      ∃ t, DSs (bodyG P w K mg base N qual scope f cdv A outer s H XV M E) body t ∧ t { nx := fun _ M' => ∃ M2, Sub M2 M' ∧ Q .non M2, rt := fun d M' => ∃ M2, Sub M2 M' ∧ Q d M2 } E (startD N.length ds) M) :
    FnG P w K mg base (k + 1) f (PySem.W.fnOf name qual params body scope dV kV doc pm an cdv ct) ps sp where
  len := len
  run := fun A outer s H args us vs ds M Q E QV XV hr hg e0 hb r il mr fin hX hsp => by
    have dl := len _ _ _ _ hsp
    have vl : vs.length = ps.length := by rw [il.length]; exact dl
    have K1 : K.In s.heap := e0.mod.kin.keeps fun b o e => (e0.bs b o e).1
    have L1 : s.heap.NoLimit := e0.mod.nolimit.keeps fun b o e => (e0.bs b o e).1
    refine codeAny_call_function hr.depth (K1 _ _ lk) rfl S.co S.gen rfl (PySem.W.codeRec_of K1 hcd) (hb _ _ _ _ ?_)
    refine wpAny_newFunctionEnv_cells S.kind (fun y hy => ?_) fun env he s1 x => ?_
    · obtain ⟨n, u⟩ := y
      rcases S.par n (List.of_mem_zip hy).1 with q | q
      · exact .inl q
      · exact .inr ⟨q, PySem.W.cellsFrom_some _ _ _ (.inl q)⟩
    · subst he
      refine ⟨L1.keeps x.toInCall.keep, codeAny_func ?_⟩
      obtain ⟨t, hs, ht⟩ := hbody A outer s H ds M Q E XV (hr.deeper _) hg hX hsp
      obtain ⟨t', ps', kk⟩ := hs.ps
      have I := inv_start (CX := CX P w) (E := XV) S hr.hd e0 vl r x
      have q := kk (fun M' H' => Fr M H M' H') ⟨fun _ _ _ _ a b => a.trans b, fun _ _ _ a b => a.sub b, fun _ _ a => a⟩ (L2.start N vs) H (startD N.length ds) M (⟨fun _ M' => ∃ M2, Sub M2 M' ∧ Q .non M2, fun d M' => ∃ M2, Sub M2 M' ∧ Q d M2, fun _ _ => False, fun _ _ => False⟩ : DEnds) { nx := fun _ H' => QV .non H', rt := QV } (start_rel N il) mr Fr.refl
        ⟨fun σ' H' e' M' s' m' f' ⟨M2, s2, q⟩ => fin _ _ _ _ ii_non (m'.sub s2) (f'.sub s2) q, fun v' H' d' M' i' m' f' ⟨M2, s2, q⟩ => fin _ _ _ _ i' (m'.sub s2) (f'.sub s2) q, fun _ _ _ _ _ _ _ q => q.elim, fun _ _ _ _ _ _ _ q => q.elim⟩ ht
      refine wpAny_mono (ps'.run [] s1 _ H _ I q) (fun fl s' z => ?_) fun e s' z => z
      have done : ∀ {σ' : L2.St} {H' : Hp} {v : V} {u : Value}, L2.Inv (cxOf (CX P w) P w K mg base N qual scope f cdv A outer s H XV) [] σ' H' s' → RelV v u → QV v H' → CE outer P w H s QV u s' :=
        fun J rv q => ⟨_, _, J.os, J.bare, J.base, J.hok, rv, q⟩
      cases fl with
      | next => obtain ⟨σ', H', J, z⟩ := z; exact done (v := V.non) (u := Value.none) J rfl z
      | ret u => obtain ⟨v, σ', H', J, rv, z⟩ := z; exact done J rv z
      | brk => obtain ⟨_, _, _, z⟩ := z; exact z.elim
      | cont => obtain ⟨_, _, _, z⟩ := z; exact z.elim
/-- what is known of the ground wherever code runs -/
structure Gok (g : Gd) (k : Nat) : Prop where
  room : Room k g.X.A
  gu : g.X.A.guards = some []
  tk : Takes g.X (fun c d _ H => wxOf g.X.K g.M0 g.H0 g.E c d H)
/-- a call of a def: f gives way to its promise -/
def dFn (sp : DSp) (r : DTA) : DTE := fun e M Q E => r e M (fun ds M1 => sp ds M1 Q E) E
section
variable {g : Gd} {k : Nat} {f : Addr} {fd : FuncData} {ps : List Str} {sp : DSp} {n : Str} {p pos : Pos} {x : Expr} {xs : List Expr} {r : DTA}
theorem fnG_run {pins : List (Addr × Obj)} {σ : L2.St} {H : Hp} {s : Shared} {e : Sl} {M : Mem} {us : List Value} {vs : List V} {ds : List D} {Q : QE} {pos : List Value} {kw : List (Str × Value)} (F : FnG g.X.prog g.X.w g.X.K g.X.mg g.X.base k f fd ps sp) (G : Gok g k) (I : SI g pins σ H s e M)
    (hb : BindsTo s fd ⟨pos, kw⟩ (ps.zip us)) (r : Vals vs us) (il : IsL g.X.K H ds vs) (h : sp ds M Q g.E) : wpAny (model g.X.prog g.X.w) g.X.A (call (.ref f) pos kw) (DEP g pins σ e M H Q) g.X.xe s := by
  refine wpAny_call (codeAny_mono (F.run g.X.A g.X.stack s H ⟨pos, kw⟩ us vs ds M Q g.E (lowQ g.X.K M H Q) (wxOf g.X.K M H g.E) G.room G.gu I.inv.env0 hb r il I.mr fin_low (fun _ _ _ z => z) h) fun q s' hq => ?_)
  cases q with
  | error err => exact passes_call G.tk (fun c d σ' H' z => by
      obtain ⟨M', fs, f', m', x', q⟩ := z
      exact ⟨M', fs, I.fr.trans f', m', x', q⟩) pins σ H s err s' I.inv hq
  | ok fl =>
    cases fl with
    | ret u =>
      obtain ⟨v, H', J, rv, d, M', i, m, f, q⟩ := I.inv.after hq
      exact ⟨v, d, H', M', rv, i, I.next J m f, f, q⟩
    | next => exact False.elim hq
    | brk => exact False.elim hq
    | cont => exact False.elim hq
/-- the arguments, then the defaults dvs -/
def dFnD (sp : DSp) (dvs : List D) (r : DTA) : DTE := fun e M Q E => r e M (fun ds M1 => sp (ds ++ dvs) M1 Q E) E
theorem DA.run {t : DTA} (h : DA g xs t) (pos : Pos) {pins : List (Addr × Obj)} {s : Shared} {σ : L2.St} {H : Hp} {e : Sl} {M : Mem} {Q : List D → Mem → Prop} (I : SI g pins σ H s e M) (q : t e M Q g.E) :
    wpAny (model g.X.prog g.X.w) g.X.A (spliced (backTo pos (starEach xs g.X.env))) (DAP g pins σ e M H Q) g.X.xe s := by
  obtain ⟨t', pa, ka⟩ := h.pa
  refine thn (pa.run pos pins s σ H (fun vs H' => ∃ ds M', IsL g.X.K H' ds vs ∧ MRel g.X.K M' H' ∧ Fr M H M' H' ∧ Q ds M') I.inv (ka σ H e M Q _ I.sl I.mr I.fr q fun ds vs M' H' l m f q => ⟨ds, M', l, m, f, q⟩)) fun us s' z => ?_
  obtain ⟨vs, H', J, r, ds, M', l, m, f, q⟩ := z
  exact ⟨vs, ds, H', M', r, l, I.next J m f, f, q⟩
theorem de_fn {t : DTE} {dvs : List D} {dus : List Value} {vvs : List V} (F : FnG g.X.prog g.X.w g.X.K g.X.mg g.X.base k f fd ps sp) (G : Gok g k) (hg : Gl g.X n) (hm : g.X.mg n = some (.ref f)) (hk : PySem.W.keepIn g.X.K (.ref f) = true) (hb : Binds g.X.K fd ps dus) (hd : Vals vvs dus) (hi : ∀ H, IsL g.X.K H dvs vvs)
    (hx : DE g x t) (ha : DA g xs r) (ns : isStar x = false) (hdb : (n == ("__debug__" : Str)) = false) : DE g (.Call (.Name n p) (x :: xs) [] pos) (dFnD sp dvs (dCons t r)) := by
  refine ⟨fun pins s σ H e M Q I q => wpAny_Call_Name_kw (ld_glob I.inv hg hm ?_ hdb)⟩
  refine PySem.W.callWith_K (h₀ := g.X.base) I.inv.ok.mod.kin hk (thn ((da_cons hx ha ns).run pos I q) fun us s1 z => ?_) (star_cons ns) (bt_any ha)
  obtain ⟨vs, ds, H1, M1, rv, l, J, f, q⟩ := z
  refine ⟨J.inv.kIn, ?_⟩
  have r2 : Vals (vs ++ vvs) (us ++ dus) := rv.append hd
  have l2 : IsL g.X.K H1 (ds ++ dvs) (vs ++ vvs) := l.append (hi H1)
  have hl : (us ++ dus).length = ps.length := by rw [← r2.length, l2.length]; exact F.len _ _ _ _ q
  refine thn (fnG_run F G J (hb s1 us J.inv.kIn hl) r2 l2 q) fun u s2 z => ?_
  obtain ⟨v, d, H', M', rv', i, J', f', q⟩ := z
  exact ⟨v, d, H', M', rv', i, J', f.trans f', q⟩
theorem de_fn0 {dvs : List D} {dus : List Value} {vvs : List V} (F : FnG g.X.prog g.X.w g.X.K g.X.mg g.X.base k f fd ps sp) (G : Gok g k) (hg : Gl g.X n) (hm : g.X.mg n = some (.ref f)) (hk : PySem.W.keepIn g.X.K (.ref f) = true) (hb : Binds g.X.K fd ps dus) (hd : Vals vvs dus) (hi : ∀ H, IsL g.X.K H dvs vvs)
    (hdb : (n == ("__debug__" : Str)) = false) : DE g (.Call (.Name n p) [] [] pos) (dFnD sp dvs dNil) := by
  refine ⟨fun pins s σ H e M Q I q => wpAny_Call_Name_kw (ld_glob I.inv hg hm (PySem.W.callWith_K0 I.inv.kIn hk ?_) hdb)⟩
  have hl : ([] ++ dus).length = ps.length := by rw [List.nil_append, ← hd.length, (hi H).length]; exact F.len _ _ _ _ q
  have q' : sp dvs M Q g.E := q
  exact fnG_run F G I (hb s [] I.inv.kIn hl) hd (hi H) q'
end
/-! ### the law's own end -/
/-- the law's promise at the heap behind the top -/
theorem lawG_call {P : Program} {w : World} {K : PySem.W.Frag} {mg mb : Str → Option Value} {k : Nat} {fa a : Addr} {fd : FuncData} {x : Str} {sp : DSp} {s1 : Shared} {vs : List Value} {ns : List Int}
    (KX : K.In s1.heap) (hns : s1.heap.Ns mainGlobals mg) (hb : s1.heap.Ns builtinsNs mb) (hbb : ∀ x : Str, x ≠ "__name__" → mb x = bootBuiltins x) (hlim : s1.heap.NoLimit) (hg : s1.gens = #[])
    (ha : s1.heap.get? a = some { cls := .type "list", data := .seq vs.toArray }) (hi : IntsAre vs ns) (hl : ns.length ≤ sizeLine) (hr : Room k callerA)
    (F : ∀ base : Heap, K.In base → base.Ns mainGlobals mg → FnG P w K mg base k fa fd [x] sp) (hbind : ∀ (s : Shared) (u : Value), BindsTo s fd ⟨[u], []⟩ [(x, u)])
    (hsp : sp [.rl (ns.map D.int)] (fun _ => none) (fun d _ => d = .bl true) EF) :
    codeAny (model P w) callerA (.call (.ref fa) ⟨[.ref a], []⟩) (fun r s' => r = .ok (.ret (.bool true)) ∧ OldK s1.heap s'.heap ∧ s'.os = s1.os ∧ AllBare s'.gens) s1 := by
  have rv : Vals (ns.map V.int) vs := vals_of_ints hi
  have main : ∀ H : Hp, RdL K H a (ns.map V.int) → HOk P w H s1.heap → (∀ b u, H b = some u → b = a ∧ ∃ o, u = .frz o (.lst (ns.map V.int))) → (∀ b o, K.lookup b = some o → H b = none) →
      codeAny (model P w) callerA (.call (.ref fa) ⟨[.ref a], []⟩) (fun r s' => r = .ok (.ret (.bool true)) ∧ OldK s1.heap s'.heap ∧ s'.os = s1.os ∧ AllBare s'.gens) s1 := by
    intro H hR hok hA hK
    have clear : ∀ {b : Addr} {o : Obj} {es : Array DictEntry} {ep : Nat}, s1.heap.get? b = some o → o.data = .dict es ep → H b = none := fun {b o es ep} e d => by
      cases q : H b with
      | none => rfl
      | some u =>
        obtain ⟨rfl, _⟩ := hA b u q
        rw [ha] at e
        cases e
        cases (show Data.seq vs.toArray _ = Data.dict es ep from d)
    have nsB : ∀ {b : Addr} {m : Str → Option Value}, s1.heap.Ns b m → (hidT s1.heap H).Ns b m := fun {b m} z => by
      obtain ⟨o, es, ep, e, d, z⟩ := z
      exact ⟨o, es, ep, hidT_get e (clear e d), d, z⟩
    have kB : K.In (hidT s1.heap H) := fun b o e => hidT_get (KX b o e) (hK b o e)
    have mB : Mod K mg (hidT s1.heap H) := ⟨kB, nsB hns, ⟨mb, nsB hb, hbb⟩, let ⟨m, h1, h2⟩ := hlim; ⟨m, nsB h1, h2⟩⟩
    have e0 : Env0 P w K mg (hidT s1.heap H) callerA [] s1 H := ⟨rfl, mB, fun b o e => of_hidT e, Nat.le_of_eq (hidT_size _ _), trivial, (fun b z => by cases z), hok, .of_eq hg⟩
    have mr : MRel K (fun _ => none) H := fun b o e => by cases e
    have il : IsL K H [D.rl (ns.map D.int)] [V.ref a] := IsL.mk (is_rl.mpr ⟨a, _, rfl, hR, isL_map (fun _ => ii_int) ns⟩) (isL_nil.mpr rfl)
    have run := (F _ kB (nsB hns)).run callerA [] s1 H ⟨[.ref a], []⟩ [.ref a] [.ref a] [D.rl (ns.map D.int)] (fun _ => none) (fun d _ => d = .bl true) EF (fun v _ => v = .bl true) (fun _ _ _ => False) hr rfl e0 (hbind s1 (.ref a)) (.cons rfl .nil) il mr
      (fun v d M' H' i _ _ q => by subst q; exact is_bl.mp i) (fun c d H' z => by obtain ⟨_, _, _, _, _, z⟩ := z; exact z) hsp
    refine codeAny_mono run fun r s' z => ?_
    cases r with
    | error e => obtain ⟨_, _, _, _, _, _, _, _, _, _, _, _, z⟩ := z; exact z.elim
    | ok fl =>
      cases fl with
      | next => exact False.elim z
      | brk => exact False.elim z
      | cont => exact False.elim z
      | ret u =>
        obtain ⟨v, H', os, bare, un, hok', r', q⟩ := z
        obtain rfl : v = .bl true := q
        obtain rfl : u = Value.bool true := r'
        refine ⟨rfl, OldK.of_keep fun b o e => ?_, os, bare⟩
        cases q : H b with
        | none => exact un.keep b o e q (fun y => by cases y) (fun y => by cases y)
        | some u =>
          obtain ⟨rfl, ob, rfl⟩ := hA b u q
          obtain ⟨e1, _⟩ := hok b _ q
          obtain ⟨e2, _⟩ := hok' b _ (un.frzs b ob _ q)
          rw [e] at e1
          cases e1
          exact e2
  have lv : vs.length = ns.length := hi.length
  cases hk : K.lookup a with
  | some o =>
    have e := KX a o hk
    rw [ha] at e
    cases e
    exact main (fun _ => none) (.inr ⟨_, vs.toArray, _, hk, rfl, rfl, rfl, by rw [List.size_toArray, lv]; exact hl, by simpa using rv⟩) (fun b u z => by cases z) (fun b u z => by cases z) fun _ _ _ => rfl
  | none =>
    refine main (fun b => if b = a then some (.frz { cls := .type "list", data := .seq vs.toArray } (.lst (ns.map V.int))) else none) (.inl ⟨_, if_pos rfl⟩) (fun b u z => ?_) (fun b u z => ?_) fun b o e => ?_
    · dsimp only at z
      split at z
      · rename_i hb
        cases z
        subst hb
        exact ⟨ha, by rw [List.length_map]; exact hl, vs, _, rv, ha⟩
      · cases z
    · split at z
      · rename_i hb
        cases z
        exact ⟨hb, _, rfl⟩
      · cases z
    · exact if_neg fun z => by rw [z, hk] at e; cases e
/-- the law's end over a head by facts -/
theorem walkG {l : PySem.W.OpenLaw} {n k : Nat} {q : Program} {loose : List Str} {XP : (Str → Option Value) → Heap → Prop} {YP : World → Heap → Prop} {d : DefRec} {x : Str}
    (hn : l.most = some n) (hn2 : n ≤ sizeLine) (hdf : d.params.defaults = []) (hr : Room k callerA)
    (F : ∀ (w : World) (mg : Str → Option Value) (fa : Addr) (h : Heap), YP w h → h.Ns mainGlobals mg → mg d.name = some (.ref fa) →
      ∃ (K : PySem.W.Frag) (fd : FuncData) (sp : DSp), K.In h ∧ (∀ (s : Shared) (u : Value), BindsTo s fd ⟨[u], []⟩ [(x, u)]) ∧
        (∀ ns : List Int, ns.length ≤ n → sp [.rl (ns.map D.int)] (fun _ => none) (fun d _ => d = .bl true) EF) ∧
        ∀ base : Heap, K.In base → base.Ns mainGlobals mg → FnG l.prog w K mg base k fa fd [x] sp) :
    PySem.W.WalkO q loose XP YP l.row.toRowW d [] (fun f vs => PySem.call f vs) := by
  refine Att.attach_call hn hdf fun w s0 s1 mg mb fa o pm cd doc a vs ns G Y ho hd hcd hmg hobj hints hlen hg => ?_
  obtain ⟨K, fd, sp, KX, hb, hsp, hF⟩ := F w mg fa _ Y G.T.g hmg
  exact lawG_call KX G.T.g G.T.b G.T.builtins G.T.nolimit hg hobj hints (Nat.le_trans hlen hn2) hr hF hb (hsp ns hlen)
end DL

/-! Built-in functions, types and methods by trees. -/
namespace DL
open PySem PySem.Spec PyProof.Rows L2
section
variable {K : PySem.W.Frag} {H : Hp}
theorem isL_one {d : D} {vs : List V} (l : IsL K H [d] vs) : ∃ v, vs = [v] ∧ Is K H d v := by
  rw [isL_cons] at l
  obtain ⟨v, r, rfl, i, l⟩ := l
  rw [isL_nil] at l
  subst l
  exact ⟨v, rfl, i⟩
theorem isL_two {d e : D} {vs : List V} (l : IsL K H [d, e] vs) : ∃ v u, vs = [v, u] ∧ Is K H d v ∧ Is K H e u := by
  rw [isL_cons] at l
  obtain ⟨v, r, rfl, i, l⟩ := l
  obtain ⟨u, rfl, j⟩ := isL_one l
  exact ⟨v, u, rfl, i, j⟩
/-- a row of one kind of scalars -/
theorem isL_ints {xs : List Int} {vs : List V} (l : IsL K H (xs.map D.int) vs) : vs = xs.map V.int := by
  induction xs generalizing vs with
  | nil => rw [List.map_nil, isL_nil] at l; exact l
  | cons x xs ih =>
    rw [List.map_cons, isL_cons] at l
    obtain ⟨v, r, rfl, i, l⟩ := l
    rw [is_int] at i
    rw [i, ih l]; rfl
theorem isL_strs {xs : List Str} {vs : List V} (l : IsL K H (xs.map D.str) vs) : vs = xs.map V.str := by
  induction xs generalizing vs with
  | nil => rw [List.map_nil, isL_nil] at l; exact l
  | cons x xs ih =>
    rw [List.map_cons, isL_cons] at l
    obtain ⟨v, r, rfl, i, l⟩ := l
    rw [is_str] at i
    rw [i, ih l]; rfl
theorem isL_bls {xs : List Bool} {vs : List V} (l : IsL K H (xs.map D.bl) vs) : vs = xs.map V.bl := by
  induction xs generalizing vs with
  | nil => rw [List.map_nil, isL_nil] at l; exact l
  | cons x xs ih =>
    rw [List.map_cons, isL_cons] at l
    obtain ⟨v, r, rfl, i, l⟩ := l
    rw [is_bl] at i
    rw [i, ih l]; rfl
end
section
variable {X : Cx}
/-! abs, len, int -/
def rAbs : RnD := fun ds M Q => match ds with | [.int i] => Q (.int (if i < 0 then -i else i)) M | _ => False
theorem cd_abs : CallD X (.builtin "abs") rAbs := by
  refine ⟨_, call_abs, fun M H Mo Ho vs ds Q QV m f l fin q => ?_⟩
  match ds, q with
  | [.int i], q =>
    obtain ⟨v, rfl, j⟩ := isL_one l
    rw [is_int] at j
    exact ⟨i, by rw [j], fin _ _ _ _ ii_int m f q⟩
def rLenD : RnD := fun ds M Q => match ds with
  | [.str z] => z.length ≤ sizeLine ∧ Q (.int z.length) M
  | [.tup xs] => Q (.int xs.length) M
  | [.rl xs] => Q (.int xs.length) M
  | [.tx xs] => Q (.int xs.length) M
  | [.ref a] => (∃ xs, M a = some (.lst xs) ∧ Q (.int xs.length) M) ∨ ∃ kvs, M a = some (.dK kvs) ∧ Q (.int kvs.length) M
  | _ => False
theorem call_lenDict : CallR X (.builtin "len") (fun xs H Q => ∃ a kvs, xs = [.ref a] ∧ H a = some (.dK kvs) ∧ Q (.int kvs.length) H) := by
  intro pins s σ H xs us Q I r h
  obtain ⟨a, kvs, rfl, h, q⟩ := h
  rw [Vals.ref1 r]
  exact d_len I (.inl h) fun t s' I' => ⟨.int kvs.length, H, I', ⟨t, rfl⟩, q⟩
theorem cd_len : CallD X (.builtin "len") rLenD := by
  refine ⟨_, call_len.or call_lenDict, fun M H Mo Ho vs ds Q QV m f l fin q => ?_⟩
  match ds, q with
  | [.str z], q =>
    obtain ⟨v, rfl, j⟩ := isL_one l
    rw [is_str] at j
    subst j
    exact .inl ⟨_, z.length, rfl, ⟨q.1, rfl⟩, fin _ _ _ _ ii_int m f q.2⟩
  | [.tup xs], q =>
    obtain ⟨v, rfl, j⟩ := isL_one l
    rw [is_tup] at j
    obtain ⟨a, ws, rfl, e, l1⟩ := j
    exact .inl ⟨_, xs.length, rfl, .inr ⟨ws, SqT.of e, l1.length.symm⟩, fin _ _ _ _ ii_int m f q⟩
  | [.rl xs], q =>
    obtain ⟨v, rfl, j⟩ := isL_one l
    rw [is_rl] at j
    obtain ⟨a, ws, rfl, e, l1⟩ := j
    exact .inl ⟨_, xs.length, rfl, .inl ⟨ws, e.sq, l1.length.symm⟩, fin _ _ _ _ ii_int m f q⟩
  | [.tx xs], q =>
    obtain ⟨v, rfl, j⟩ := isL_one l
    rw [is_tx] at j
    obtain ⟨a, ws, rfl, e, l1⟩ := j
    exact .inl ⟨_, xs.length, rfl, .inr ⟨ws, e.sq, l1.length.symm⟩, fin _ _ _ _ ii_int m f q⟩
  | [.ref a], q =>
    obtain ⟨v, rfl, j⟩ := isL_one l
    rw [is_ref] at j
    subst j
    rcases q with ⟨xs, h, q⟩ | ⟨kvs, h, q⟩
    · obtain ⟨ws, e, l1⟩ := m a _ h
      exact .inl ⟨_, xs.length, rfl, .inl ⟨ws, SqL.of e, l1.length.symm⟩, fin _ _ _ _ ii_int m f q⟩
    · obtain ⟨ws, e, r⟩ := m a _ h
      exact .inr ⟨a, ws, rfl, e, by rw [KRel.length r]; exact fin _ _ _ _ ii_int m f q⟩
def rInt : RnD := fun ds M Q => match ds with
  | [.int i] => Q (.int i) M
  | [.bl b] => Q (.int (if b = true then 1 else 0)) M
  | _ => False
theorem cd_int : CallD X (.type "int") rInt := by
  refine ⟨_, call_int1, fun M H Mo Ho vs ds Q QV m f l fin q => ?_⟩
  match ds, q with
  | [.int i], q =>
    obtain ⟨v, rfl, j⟩ := isL_one l
    rw [is_int] at j
    exact .inl ⟨i, by rw [j], fin _ _ _ _ ii_int m f q⟩
  | [.bl b], q =>
    obtain ⟨v, rfl, j⟩ := isL_one l
    rw [is_bl] at j
    exact .inr ⟨b, by rw [j], fin _ _ _ _ ii_int m f q⟩
/-! min, max of two -/
theorem cmp_strs_lt {P : Program} {w : World} {A : Around} {R : Nat → Value → Prop} (x : Nat → Str) (h : ∀ i v, R i v → ∃ t, v = .str (x i) t) : CmpOf P w A .Lt R (fun i j => ltS (x i) (x j)) := fun i j vi vj s Q E hi hj q => by
  obtain ⟨t, rfl⟩ := h i vi hi
  obtain ⟨u, rfl⟩ := h j vj hj
  have := PySem.P.lt_str (prog := P) (w := w) (A := A) (E := E) (s := s) (x := x i) (y := x j) (t := t) (u := u) (Q := Q) q
  exact this
theorem cmp_strs_gt {P : Program} {w : World} {A : Around} {R : Nat → Value → Prop} (x : Nat → Str) (h : ∀ i v, R i v → ∃ t, v = .str (x i) t) : CmpOf P w A .Gt R (fun i j => ltS (x j) (x i)) := fun i j vi vj s Q E hi hj q => by
  obtain ⟨t, rfl⟩ := h i vi hi
  obtain ⟨u, rfl⟩ := h j vj hj
  have := PySem.P.gt_str (prog := P) (w := w) (A := A) (E := E) (s := s) (x := x i) (y := x j) (t := t) (u := u) (Q := Q)
  exact this q
/-- the least, the greatest of two texts -/
theorem two_strs (mx : Bool) (hc : X.calm = true) : CallR X (.builtin (if mx then "max" else "min")) (fun xs H Q => ∃ a b, xs = [.str a, .str b] ∧ Q (.str (if (if mx then ltS a b else ltS b a) = true then b else a)) H) := by
  intro pins s σ H xs us Q I r h
  obtain ⟨a, b, rfl, q⟩ := h
  obtain ⟨u1, u2, rfl, ⟨t, rfl⟩, ⟨u, rfl⟩⟩ := vals2 r
  have hh : X.A.in1.handled = none := I.ok.hd hc
  have hT : (s.heap.push { cls := .type "tuple", data := .seq #[.str a t, .str b u] }).IsTuple s.heap.objs.size #[.str a t, .str b u] := ⟨_, Heap.get?_push_size _ rfl, rfl, 0, rfl⟩
  have hsz : (s.heap.push { cls := .type "tuple", data := .seq #[.str a t, .str b u] }).objs.size = s.heap.objs.size + 1 := Heap.size_push ..
  have at_ : ∀ (i : Nat) (v : Value), (#[Value.str a t, .str b u] : Array Value)[i]? = some v → ∃ t', v = .str (if i = 0 then a else b) t' := fun i v e => by
    match i, e with
    | 0, e => simp at e; exact ⟨t, by rw [← e]; rfl⟩
    | 1, e => simp at e; exact ⟨u, by rw [← e]; rfl⟩
    | i + 2, e => simp at e
  have fpok : ∀ c ∈ [(s.heap.push { cls := .type "tuple", data := .seq #[.str a t, .str b u] }).objs.size, s.heap.objs.size], c < ((s.heap.push { cls := .type "tuple", data := .seq #[.str a t, .str b u] }).push { cls := .type "tuple_iterator", data := .fields #[.ref s.heap.objs.size, rawInt 0] }).objs.size := fun c h => by
    rw [Heap.size_push, hsz]
    simp only [List.mem_cons, List.not_mem_nil, or_false] at h
    rcases h with rfl | rfl
    · rw [hsz]; exact Nat.lt_succ_self _
    · exact Nat.lt_succ_of_lt (Nat.lt_succ_self _)
  have old : ∀ (h' : Heap), (∀ c o, c ∉ [(s.heap.push { cls := .type "tuple", data := .seq #[.str a t, .str b u] }).objs.size] → ((s.heap.push { cls := .type "tuple", data := .seq #[.str a t, .str b u] }).push { cls := .type "tuple_iterator", data := .fields #[.ref s.heap.objs.size, rawInt 0] }).get? c = some o → h'.get? c = some o) →
      ∀ c o, s.heap.get? c = some o → h'.get? c = some o := fun h' hk c o e => by
    refine hk c o (fun hm => ?_) (Heap.get?_push_of_some _ (Heap.get?_push_of_some _ e))
    have e1 := List.mem_singleton.mp hm
    have l := Heap.lt_size e
    rw [e1, hsz] at l
    exact Nat.lt_irrefl _ (Nat.lt_of_succ_lt l)
  have st0 : ∀ (o : Obj), o = { cls := .type "tuple_iterator", data := .fields #[.ref s.heap.objs.size, rawInt 0] } → ((s.heap.push { cls := .type "tuple", data := .seq #[.str a t, .str b u] }).push o).IsTupleIter (s.heap.push { cls := .type "tuple", data := .seq #[.str a t, .str b u] }).objs.size s.heap.objs.size 0 := fun o e => by
    subst e
    exact ⟨_, Heap.get?_push_size _ rfl, rfl, rfl⟩
  have ne : s.heap.objs.size ≠ (s.heap.push { cls := .type "tuple", data := .seq #[.str a t, .str b u] }).objs.size := by rw [hsz]; exact Nat.ne_of_lt (Nat.lt_succ_self _)
  cases mx with
  | true =>
    refine call_max_two (wpAny_pyIter_tuple hT ⟨_, _, _, _, _, _, _, rfl, Walks.tuple hh _ s.heap.objs.size ne #[.str a t, .str b u], ⟨st0 _ rfl, hT.push _⟩, fpok, by simp, cmp_strs_gt (fun i => if i = 0 then a else b) at_, fun v h' tk hP hk => ?_⟩)
    refine ⟨.str (if ltS a b = true then b else a), H, I.kept (old h' hk), ?_, by simpa using q⟩
    by_cases c : ltS a b = true
    · have e : argBest (fun i j => ltS (if j = 0 then a else b) (if i = 0 then a else b)) 1 = 1 := by simp [argBest, c]
      have hP' : (#[Value.str a t, .str b u] : Array Value)[argBest (fun i j => ltS (if j = 0 then a else b) (if i = 0 then a else b)) 1]? = some v := hP
      rw [e] at hP'
      simp at hP'
      rw [if_pos c, ← hP']
      exact ⟨u, rfl⟩
    · have e : argBest (fun i j => ltS (if j = 0 then a else b) (if i = 0 then a else b)) 1 = 0 := by simp [argBest, c]
      have hP' : (#[Value.str a t, .str b u] : Array Value)[argBest (fun i j => ltS (if j = 0 then a else b) (if i = 0 then a else b)) 1]? = some v := hP
      rw [e] at hP'
      simp at hP'
      rw [if_neg c, ← hP']
      exact ⟨t, rfl⟩
  | false =>
    refine call_min_two (wpAny_pyIter_tuple hT ⟨_, _, _, _, _, _, _, rfl, Walks.tuple hh _ s.heap.objs.size ne #[.str a t, .str b u], ⟨st0 _ rfl, hT.push _⟩, fpok, by simp, cmp_strs_lt (fun i => if i = 0 then a else b) at_, fun v h' tk hP hk => ?_⟩)
    refine ⟨.str (if ltS b a = true then b else a), H, I.kept (old h' hk), ?_, by simpa using q⟩
    by_cases c : ltS b a = true
    · have e : argBest (fun i j => ltS (if i = 0 then a else b) (if j = 0 then a else b)) 1 = 1 := by simp [argBest, c]
      have hP' : (#[Value.str a t, .str b u] : Array Value)[argBest (fun i j => ltS (if i = 0 then a else b) (if j = 0 then a else b)) 1]? = some v := hP
      rw [e] at hP'
      simp at hP'
      rw [if_pos c, ← hP']
      exact ⟨u, rfl⟩
    · have e : argBest (fun i j => ltS (if i = 0 then a else b) (if j = 0 then a else b)) 1 = 0 := by simp [argBest, c]
      have hP' : (#[Value.str a t, .str b u] : Array Value)[argBest (fun i j => ltS (if i = 0 then a else b) (if j = 0 then a else b)) 1]? = some v := hP
      rw [e] at hP'
      simp at hP'
      rw [if_neg c, ← hP']
      exact ⟨t, rfl⟩
def rMin2 : RnD := fun ds M Q => match ds with
  | [.int i, .int j] => Q (.int (if j < i then j else i)) M
  | [.str a, .str b] => Q (.str (if ltS b a = true then b else a)) M
  | _ => False
def rMax2 : RnD := fun ds M Q => match ds with
  | [.int i, .int j] => Q (.int (if j > i then j else i)) M
  | [.str a, .str b] => Q (.str (if ltS a b = true then b else a)) M
  | _ => False
theorem cd_min2 (hc : X.calm = true) : CallD X (.builtin "min") rMin2 := by
  refine ⟨_, (call_min2 hc).or (two_strs false hc), fun M H Mo Ho vs ds Q QV m f l fin q => ?_⟩
  match ds, q with
  | [.int i, .int j], q =>
    obtain ⟨v, u, rfl, h1, h2⟩ := isL_two l
    rw [is_int] at h1 h2
    exact .inl ⟨i, j, by rw [h1, h2], fin _ _ _ _ ii_int m f q⟩
  | [.str i, .str j], q =>
    obtain ⟨v, u, rfl, h1, h2⟩ := isL_two l
    rw [is_str] at h1 h2
    exact .inr ⟨i, j, by rw [h1, h2], fin _ _ _ _ ii_str m f q⟩
theorem cd_max2 (hc : X.calm = true) : CallD X (.builtin "max") rMax2 := by
  refine ⟨_, (call_max2 hc).or (two_strs true hc), fun M H Mo Ho vs ds Q QV m f l fin q => ?_⟩
  match ds, q with
  | [.int i, .int j], q =>
    obtain ⟨v, u, rfl, h1, h2⟩ := isL_two l
    rw [is_int] at h1 h2
    exact .inl ⟨i, j, by rw [h1, h2], fin _ _ _ _ ii_int m f q⟩
  | [.str i, .str j], q =>
    obtain ⟨v, u, rfl, h1, h2⟩ := isL_two l
    rw [is_str] at h1 h2
    exact .inr ⟨i, j, by rw [h1, h2], fin _ _ _ _ ii_str m f q⟩
/-! tuple(..), list(..) -/
def rTuple : RnD := fun ds M Q => match ds with
  | [.tup xs] => Q (.tup xs) M
  | [.rl xs] => Q (.tup xs) M
  | [.tx xs] => Q (.tx xs) M
  | [.ref a] => ∃ xs, M a = some (.lst xs) ∧ Q (.tup xs) M
  | _ => False
theorem cd_tuple : CallD X (.type "tuple") rTuple := by
  refine ⟨_, call_tuple_of, fun M H Mo Ho vs ds Q QV m f l fin q => ?_⟩
  match ds, q with
  | [.tup xs], q =>
    obtain ⟨v, rfl, j⟩ := isL_one l
    have j0 := j
    rw [is_tup] at j
    obtain ⟨a, ws, rfl, e, l1⟩ := j
    exact ⟨a, ws, rfl, .inr ⟨SqT.of e, fin _ _ _ _ j0 m f q⟩⟩
  | [.rl xs], q =>
    obtain ⟨v, rfl, j⟩ := isL_one l
    rw [is_rl] at j
    obtain ⟨a, ws, rfl, e, l1⟩ := j
    exact ⟨a, ws, rfl, .inl ⟨e.sq, fin.newT m f l1 q⟩⟩
  | [.tx xs], q =>
    obtain ⟨v, rfl, j⟩ := isL_one l
    have j0 := j
    rw [is_tx] at j
    obtain ⟨a, ws, rfl, e, l1⟩ := j
    exact ⟨a, ws, rfl, .inr ⟨e.sq, fin _ _ _ _ j0 m f q⟩⟩
  | [.ref a], q =>
    obtain ⟨v, rfl, j⟩ := isL_one l
    rw [is_ref] at j
    subst j
    obtain ⟨xs, h, q⟩ := q
    obtain ⟨ws, e, l1⟩ := m a _ h
    exact ⟨a, ws, rfl, .inl ⟨SqL.of e, fin.newT m f l1 q⟩⟩
def rList : RnD := fun ds M Q => match ds with
  | [.tup xs] => ∀ p, M p = none → Q (.ref p) (wr M p (.lst xs))
  | [.rl xs] => ∀ p, M p = none → Q (.ref p) (wr M p (.lst xs))
  | [.tx xs] => ∀ p, M p = none → Q (.ref p) (wr M p (.lst xs))
  | [.ref a] => ∃ xs, M a = some (.lst xs) ∧ ∀ p, M p = none → Q (.ref p) (wr M p (.lst xs))
  | [.str x] => x.length ≤ sizeLine ∧ ∀ p, M p = none → Q (.ref p) (wr M p (.lst (signs x)))
  | _ => False
theorem call_listStr (hc : X.calm = true) : CallR X (.type "list") (fun xs H Q => ∃ x : Str, xs = [.str x] ∧ x.length ≤ sizeLine ∧ ∀ p, H p = none → Q (.ref p) (upd H p (.lst (x.cps.toList.map fun c => V.str ⟨#[c]⟩)))) := by
  intro pins s σ H xs us Q I r h
  obtain ⟨x, rfl, hx, q⟩ := h
  obtain ⟨u1, rfl, ⟨t, rfl⟩⟩ := vals1 r
  refine call_list_str (I.ok.hd hc) x t (hn := hx) fun h' tk acc c hk hS hacc => ?_
  have hlen : acc.size = x.cps.size := by rw [hacc.1]
  have rel : Vals (x.cps.toList.map fun c => V.str ⟨#[c]⟩) acc.toList := by
    refine vals_of_at (by simp [hlen]) fun j y u h1 h2 => ?_
    obtain ⟨c', u', h3, rfl⟩ := hacc.2 j u (by simpa using h2)
    rw [List.getElem?_map, Array.getElem?_toList, h3] at h1
    cases h1
    exact ⟨u', rfl⟩
  refine ⟨.ref _, _, I.laid (a := s.heap.objs.size) (o := .lst (x.cps.toList.map fun c => V.str ⟨#[c]⟩)) hk (Nat.le_refl _) ⟨by simpa [Str.length] using hx, acc.toList, c, rel, by simpa using hS⟩, rfl, q _ (I.hok.fresh (Nat.le_refl _))⟩
theorem cd_list (hc : X.calm = true) : CallD X (.type "list") rList := by
  refine ⟨_, call_list_of.or (call_listStr hc), fun M H Mo Ho vs ds Q QV m f l fin q => ?_⟩
  match ds, q with
  | [.tup xs], q =>
    obtain ⟨v, rfl, j⟩ := isL_one l
    rw [is_tup] at j
    obtain ⟨a, ws, rfl, e, l1⟩ := j
    exact .inl ⟨a, ws, rfl, .inr (SqT.of e), fin.newL m f l1 q⟩
  | [.rl xs], q =>
    obtain ⟨v, rfl, j⟩ := isL_one l
    rw [is_rl] at j
    obtain ⟨a, ws, rfl, e, l1⟩ := j
    exact .inl ⟨a, ws, rfl, .inl e.sq, fin.newL m f l1 q⟩
  | [.tx xs], q =>
    obtain ⟨v, rfl, j⟩ := isL_one l
    rw [is_tx] at j
    obtain ⟨a, ws, rfl, e, l1⟩ := j
    exact .inl ⟨a, ws, rfl, .inr e.sq, fin.newL m f l1 q⟩
  | [.ref a], q =>
    obtain ⟨v, rfl, j⟩ := isL_one l
    rw [is_ref] at j
    subst j
    obtain ⟨xs, h, q⟩ := q
    obtain ⟨ws, e, l1⟩ := m a _ h
    exact .inl ⟨a, ws, rfl, .inl (SqL.of e), fin.newL m f l1 q⟩
  | [.str x], q =>
    obtain ⟨v, rfl, j⟩ := isL_one l
    rw [is_str] at j
    subst j
    exact .inr ⟨x, rfl, q.1, fin.newL m f (isL_map (fun _ => ii_str) _) q.2⟩
end
end DL

/-! xs.extend(a tuple). -/
namespace DL
open PySem PySem.Spec PyProof.Rows L2
theorem extend_tup (l : Addr) (items : Array Value) (n : Nat) (b : Addr) (d : Option Addr) (sl : Array (Option Value)) (items2 : Array Value) (n2 : Nat) (hs0 : ¬(!items.isEmpty && Builtin.List.listTooLong (items.size + items2.size)) = true) (hs1 : items.size ≤ sizeLine) (hs2 : items.size + items2.size ≤ sizeLine + 1) :
    Meets (Builtin.«list.extend» ⟨[.ref l, .ref b], []⟩) (fun _ R s => s.heap.get? l = some { cls := .type "list", dict := none, data := .seq items n, slots := #[] } ∧ s.heap.get? b = some { cls := .type "tuple", dict := d, data := .seq items2 n2, slots := sl } ∧ R (.ok (.ret Value.none)) { s with heap := s.heap.update l (Obj.mapSeq fun x => x ++ items2), toks := s.toks }) :=
  .of_wp fun prog w A R s h => by
    obtain ⟨hp, g, d, tk, os⟩ := s
    obtain ⟨hl, hb, h⟩ := h
    have f1 := AutoSeq1.idx_int
    have f2 := AutoSeq1.sub_tuple_tuple
    have f3 := AutoSeq1.sub_list_list
    have f4 := AutoSeq1.sub_tuple_list
    have f5 := AutoSeq1.sub_list_tuple
    have hz' : (items ++ items2).size ≤ sizeLine + 1 := by rw [Array.size_append]; exact hs2
    wp_walk using (wpAny_updateSeq hl rfl (hz := hs1) (_hz' := hz')), AutoSeq1.wpAny_loadPart' hl, AutoSeq1.wpAny_loadPart' hb
    exact ⟨_, rfl, h⟩
theorem extend_lst (l : Addr) (items : Array Value) (n : Nat) (b : Addr) (d : Option Addr) (sl : Array (Option Value)) (items2 : Array Value) (n2 : Nat) (hs0 : ¬(!items.isEmpty && Builtin.List.listTooLong (items.size + items2.size)) = true) (hs1 : items.size ≤ sizeLine) (hs2 : items.size + items2.size ≤ sizeLine + 1) :
    Meets (Builtin.«list.extend» ⟨[.ref l, .ref b], []⟩) (fun _ R s => s.heap.get? l = some { cls := .type "list", dict := none, data := .seq items n, slots := #[] } ∧ s.heap.get? b = some { cls := .type "list", dict := d, data := .seq items2 n2, slots := sl } ∧ R (.ok (.ret Value.none)) { s with heap := s.heap.update l (Obj.mapSeq fun x => x ++ items2), toks := s.toks }) :=
  .of_wp fun prog w A R s h => by
    obtain ⟨hp, g, d, tk, os⟩ := s
    obtain ⟨hl, hb, h⟩ := h
    have f1 := AutoSeq1.idx_int
    have f2 := AutoSeq1.sub_tuple_tuple
    have f3 := AutoSeq1.sub_list_list
    have f4 := AutoSeq1.sub_tuple_list
    have f5 := AutoSeq1.sub_list_tuple
    have hz' : (items ++ items2).size ≤ sizeLine + 1 := by rw [Array.size_append]; exact hs2
    wp_walk using (wpAny_updateSeq hl rfl (hz := hs1) (_hz' := hz')), AutoSeq1.wpAny_loadPart' hl, AutoSeq1.wpAny_loadPart' hb
    exact ⟨_, rfl, h⟩
section
variable {X : Cx}
def rExtendT : V → List V → Hp → VK → Prop := fun x vs H Q => ∃ l b xs zs, x = .ref l ∧ vs = [.ref b] ∧ H l = some (.lst xs) ∧ SqT X.K H b zs ∧ xs.length + zs.length ≤ sizeLine ∧ Q .non (upd H l (.lst (xs ++ zs)))
theorem mt_extendT : MtM X "list.extend" (rExtendT (X := X)) := by
  intro pins s σ H x vs v us Q I rx rv h
  obtain ⟨l, b, xs, zs, rfl, rfl, hH, hB, hz, q⟩ := h
  cases rx
  obtain ⟨u, rfl, ru⟩ := rv.one
  cases ru
  obtain ⟨z, its, n, r, hl, e⟩ := I.lstM hH
  obtain ⟨its2, r2, ⟨⟨c2, d2, s2, l2⟩, e2, hc2, n2, hd2⟩, z2⟩ := I.tuple hB
  simp only at hc2 hd2
  subst hc2 hd2
  have hl2 := r2.length
  have hsz : its.toArray.size + its2.toArray.size ≤ sizeLine := by rw [List.size_toArray, List.size_toArray]; omega
  have hlong : ¬ (!its.toArray.isEmpty && Builtin.List.listTooLong (its.toArray.size + its2.toArray.size)) = true := by
    rw [notLongL hsz, Bool.and_false]
    exact Bool.false_ne_true
  refine call_meets F.slot_list_extend ⟨_, e, rfl⟩ F.entry_list_extend (F.args_list_extend_2 _ _)
    (extend_tup l its.toArray n b d2 l2 its2.toArray n2 hlong (by rw [List.size_toArray]; omega) (by omega)) ⟨e, e2, ?_⟩
  refine ⟨.non, _, I.lset (its' := its ++ its2) hH e (by simp) (r.append r2) ?_, rfl, q⟩
  rw [List.length_append]
  omega
def rExtendL : V → List V → Hp → VK → Prop := fun x vs H Q => ∃ l b xs zs, x = .ref l ∧ vs = [.ref b] ∧ H l = some (.lst xs) ∧ SqL X.K H b zs ∧ xs.length + zs.length ≤ sizeLine ∧ Q .non (upd H l (.lst (xs ++ zs)))
theorem mt_extendL : MtM X "list.extend" (rExtendL (X := X)) := by
  intro pins s σ H x vs v us Q I rx rv h
  obtain ⟨l, b, xs, zs, rfl, rfl, hH, hB, hz, q⟩ := h
  cases rx
  obtain ⟨u, rfl, ru⟩ := rv.one
  cases ru
  obtain ⟨z, its, n, r, hl, e⟩ := I.lstM hH
  obtain ⟨its2, r2, ⟨⟨c2, d2, s2, l2⟩, n2, e2, hc2, hn2, hd2⟩, z2⟩ := I.list hB
  simp only at hc2 hd2
  subst hc2 hd2
  have hl2 := r2.length
  have hsz : its.toArray.size + its2.toArray.size ≤ sizeLine := by rw [List.size_toArray, List.size_toArray]; omega
  have hlong : ¬ (!its.toArray.isEmpty && Builtin.List.listTooLong (its.toArray.size + its2.toArray.size)) = true := by
    rw [notLongL hsz, Bool.and_false]
    exact Bool.false_ne_true
  refine call_meets F.slot_list_extend ⟨_, e, rfl⟩ F.entry_list_extend (F.args_list_extend_2 _ _)
    (extend_lst l its.toArray n b d2 l2 its2.toArray n2 hlong (by rw [List.size_toArray]; omega) (by omega)) ⟨e, e2, ?_⟩
  refine ⟨.non, _, I.lset (its' := its ++ its2) hH e (by simp) (r.append r2) ?_, rfl, q⟩
  rw [List.length_append]
  omega
end
end DL

/-! More built-ins by trees; repr; methods; what is dropped at once. -/
namespace DL
open PySem PySem.Spec PyProof.Rows L2
section
variable {X : Cx}
/-! all, any, sum over a list that stands -/
def listAt (M : Mem) (d : D) (R : List D → Prop) : Prop := match d with
  | .rl xs => R xs
  | .ref a => ∃ xs, M a = some (.lst xs) ∧ R xs
  | _ => False
theorem listAt_low {M : Mem} {H : Hp} {d : D} {v : V} {R : List D → Prop} (m : MRel X.K M H) (i : Is X.K H d v) (q : listAt M d R) : ∃ a vs xs, v = .ref a ∧ SqL X.K H a vs ∧ IsL X.K H xs vs ∧ R xs := by
  cases d with
  | rl xs =>
    rw [is_rl] at i
    obtain ⟨a, ws, rfl, e, l⟩ := i
    exact ⟨a, ws, xs, rfl, e.sq, l, q⟩
  | ref a =>
    rw [is_ref] at i
    obtain ⟨xs, h, q⟩ := q
    obtain ⟨ws, e, l⟩ := m a _ h
    exact ⟨a, ws, xs, i, SqL.of e, l, q⟩
  | _ => exact q.elim
def rBools (c : List Bool → Bool) : RnD := fun ds M Q => match ds with | [d] => listAt M d fun xs => ∃ bs, xs = bs.map D.bl ∧ Q (.bl (c bs)) M | _ => False
theorem cd_all (hc : X.calm = true) : CallD X (.builtin "all") (rBools fun bs => bs.all id) := by
  refine ⟨_, cr_all hc, fun M H Mo Ho vs ds Q QV m f l fin q => ?_⟩
  match ds, q with
  | [d], q =>
    obtain ⟨v, rfl, j⟩ := isL_one l
    obtain ⟨a, ws, xs, rfl, s, l1, bs, rfl, q⟩ := listAt_low m j q
    exact ⟨a, bs, rfl, by rw [← isL_bls l1]; exact s, fin _ _ _ _ ii_bl m f q⟩
theorem cd_any (hc : X.calm = true) : CallD X (.builtin "any") (rBools fun bs => bs.any id) := by
  refine ⟨_, cr_any hc, fun M H Mo Ho vs ds Q QV m f l fin q => ?_⟩
  match ds, q with
  | [d], q =>
    obtain ⟨v, rfl, j⟩ := isL_one l
    obtain ⟨a, ws, xs, rfl, s, l1, bs, rfl, q⟩ := listAt_low m j q
    exact ⟨a, bs, rfl, by rw [← isL_bls l1]; exact s, fin _ _ _ _ ii_bl m f q⟩
def rSumD : RnD := fun ds M Q => match ds with | [d] => listAt M d fun xs => ∃ ns : List Int, xs = ns.map D.int ∧ Q (.int ns.sum) M | _ => False
theorem cd_sum (hc : X.calm = true) : CallD X (.builtin "sum") rSumD := by
  refine ⟨_, cr_sum hc, fun M H Mo Ho vs ds Q QV m f l fin q => ?_⟩
  match ds, q with
  | [d], q =>
    obtain ⟨v, rfl, j⟩ := isL_one l
    obtain ⟨a, ws, xs, rfl, s, l1, ns, rfl, q⟩ := listAt_low m j q
    exact ⟨a, ns, rfl, by rw [← isL_ints l1]; exact s, fin _ _ _ _ ii_int m f q⟩
/-! sorted: texts, numbers -/
def rSortedD : RnD := fun ds M Q => match ds with
  | [d] => listAt M d fun xs => (∃ ss : List Str, xs = ss.map D.str ∧ ss.length < 64 ∧ ∀ ys : List Str, ys.Perm ss → sortedS ys = true → ∀ p, M p = none → Q (.ref p) (wr M p (.lst (ys.map D.str)))) ∨
      ∃ ns : List Int, xs = ns.map D.int ∧ ns.length < 64 ∧ ∀ ys : List Int, ys.Perm ns → ys.Pairwise (· ≤ ·) → ∀ p, M p = none → Q (.ref p) (wr M p (.lst (ys.map D.int)))
  | _ => False
theorem cd_sorted : CallD X (.builtin "sorted") rSortedD := by
  refine ⟨_, cr_sortedS.or cr_sorted, fun M H Mo Ho vs ds Q QV m f l fin q => ?_⟩
  match ds, q with
  | [d], q =>
    obtain ⟨v, rfl, j⟩ := isL_one l
    obtain ⟨a, ws, xs, rfl, s, l1, q⟩ := listAt_low m j q
    rcases q with ⟨ss, rfl, h64, q⟩ | ⟨ns, rfl, h64, q⟩
    · refine .inl ⟨a, ss, rfl, by rw [← isL_strs l1]; exact s, h64, fun ys p h1 h2 hp => ?_⟩
      exact fin.newL m f (isL_map (fun _ => ii_str) ys) (q ys h1 h2) p hp
    · refine .inr ⟨a, ns, rfl, by rw [← isL_ints l1]; exact s, h64, fun ys p h1 h2 hp => ?_⟩
      exact fin.newL m f (isL_map (fun _ => ii_int) ys) (q ys h1 h2) p hp
/-! repr -/
def rRepr : RnD := fun ds M Q => match ds with
  | [d] => ∃ p, PD M d p ∧ p.hasDict = false ∧ p.showable = true ∧ p.shown.length ≤ sizeLine ∧ p.depth ≤ 64 ∧ Q (.str p.shown) M
  | _ => False
theorem call_reprP (hg : X.A.guards = some []) (hu : X.A.units + 70 < cLine) : CallR X (.builtin "repr") (fun xs H Q => ∃ v M d p, xs = [v] ∧ MRel X.K M H ∧ Is X.K H d v ∧ PD M d p ∧ p.hasDict = false ∧ p.showable = true ∧ p.shown.length ≤ sizeLine ∧ p.depth ≤ 64 ∧ Q (.str p.shown) H) := by
  intro pins s σ H xs us Q I r h
  obtain ⟨v, M, d, p, rfl, m, i, hp, nd, h1, h2, h3, q⟩ := h
  obtain ⟨u, rfl, ru⟩ := vals1 r
  obtain ⟨as, hr⟩ := PD.reads I m p d v u hp i ru nd
  have hsm := PyData.noDict_hsm (as := as) nd
  have viaRef : ∀ a, u = .ref a → wpAny (model X.prog X.w) X.A (call (.builtin "repr") [u]) (EP X pins σ Q) X.xe s := fun a e => by
    subst e
    exact repr_of_reads' hr h1 hsm hg (by omega) (fun _ _ z => z) (fun h' t tk k => ⟨.str _, H, I.kept k, ⟨_, rfl⟩, q⟩) h2
  cases hr with
  | none => exact PySem.P.repr_of_none ⟨.str "None", H, I.tok _, ⟨_, rfl⟩, q⟩
  | bool b => exact PySem.P.repr_of_bool ⟨.str (if b then "True" else "False"), H, I.tok _, ⟨_, rfl⟩, q⟩
  | int k t => exact PySem.P.repr_of_int (by simpa [PyData.showable] using h1) ⟨.str (toString k), H, I.tok _, ⟨_, rfl⟩, q⟩
  | str x t => exact PySem.P.repr_of_str ⟨.str (reprText x), H, I.tok _, ⟨_, rfl⟩, q⟩ h2
  | list _ _ _ _ => exact viaRef _ rfl
  | tuple _ _ _ _ => exact viaRef _ rfl
  | dict _ _ _ _ _ => exact viaRef _ rfl
theorem cd_repr (hg : X.A.guards = some []) (hu : X.A.units + 70 < cLine) : CallD X (.builtin "repr") rRepr := by
  refine ⟨_, call_reprP hg hu, fun M H Mo Ho vs ds Q QV m f l fin q => ?_⟩
  match ds, q with
  | [d], q =>
    obtain ⟨v, rfl, j⟩ := isL_one l
    obtain ⟨p, h1, h2, h3, h4, h5, q⟩ := q
    exact ⟨v, M, d, p, rfl, m, j, h1, h2, h3, h4, h5, fin _ _ _ _ ii_str m f q⟩
/-! isinstance of a thing and a built-in class -/
def tyName : D → Option String
  | .non => some "NoneType"
  | .bl _ => some "bool"
  | .int _ => some "int"
  | .str _ => some "str"
  | .tup _ => some "tuple"
  | .rl _ => some "list"
  | .tx _ => some "tuple"
  | _ => none
/-- the type of a thing, by the memory -/
def hasTy (M : Mem) (d : D) (T : String) : Prop := match d with
  | .ref a => (T = "list" ∧ ∃ xs, M a = some (.lst xs)) ∨ (T = "dict" ∧ ∃ kvs, M a = some (.dK kvs))
  | _ => tyName d = some T
theorem hasTy_low {M : Mem} {H : Hp} {d : D} {v : V} {T : String} (m : MRel X.K M H) (i : Is X.K H d v) (h : hasTy M d T) : TyX X.K H v (.type T) := by
  cases d with
  | non => cases h; rw [is_non] at i; subst i; exact .base .non
  | bl b => cases h; rw [is_bl] at i; subst i; exact .base (.bl b)
  | int b => cases h; rw [is_int] at i; subst i; exact .base (.int b)
  | str b => cases h; rw [is_str] at i; subst i; exact .base (.str b)
  | tup xs => cases h; rw [is_tup] at i; obtain ⟨a, vs, rfl, e, l⟩ := i; exact .base (.tup e)
  | rl xs =>
    cases h
    rw [is_rl] at i
    obtain ⟨a, vs, rfl, e, l⟩ := i
    rcases e with ⟨o, e⟩ | ⟨o, its, n, e, c, _⟩
    · exact .base (.frz e)
    · exact .kList e c
  | tx xs => cases h; rw [is_tx] at i; obtain ⟨a, vs, rfl, ⟨o, e, _⟩, l⟩ := i; exact .fTuple e
  | ref a =>
    rw [is_ref] at i
    subst i
    rcases h with ⟨rfl, xs, h⟩ | ⟨rfl, kvs, h⟩
    · obtain ⟨ws, e, _⟩ := m a _ h
      exact .base (.lst e)
    · obtain ⟨ws, e, _⟩ := m a _ h
      exact .base (.dK e)
  | ty n => cases h
def rIsiD : RnD := fun ds M Q => match ds with
  | [d, .ty c] => ∃ T, hasTy M d T ∧ ∃ b, kitB T c = some b ∧ Q (.bl b) M
  | _ => False
theorem cd_isi : CallD X (.builtin "isinstance") rIsiD := by
  refine ⟨_, call_isi, fun M H Mo Ho vs ds Q QV m f l fin q => ?_⟩
  match ds, q with
  | [d, .ty c], q =>
    obtain ⟨v, u, rfl, i, j⟩ := isL_two l
    rw [is_ty] at j
    subst j
    obtain ⟨T, h, b, e, q⟩ := q
    exact ⟨v, .ty c, _, _, b, rfl, .ty c, hasTy_low m i h, kit_ty e, fin _ _ _ _ ii_bl m f q⟩
/-! ### methods -/
def mJoin : RmD := fun x ds M Q => match x with
  | .str a => (match ds with
    | [d] => (match d with
      | .tup xs => ∃ ys : List Str, xs = ys.map D.str ∧ (ys.map (·.length)).sum + ys.length * a.length ≤ 16777216 ∧ Q (.str (Txt.join a ys)) M
      | d => listAt M d fun xs => ∃ ys : List Str, xs = ys.map D.str ∧ (ys.map (·.length)).sum + ys.length * a.length ≤ 16777216 ∧ Q (.str (Txt.join a ys)) M)
    | _ => False)
  | _ => False
theorem md_join : MtD X "str" "join" "str.join" mJoin := by
  refine ⟨PySem.F.plainAttrs_str, PySem.F.slot_str_join, PySem.F.type_str_join, _, mt_join, fun M H Mo Ho x a vs ds Q QV m f i l fin q => ?_⟩
  cases a with
  | str a =>
    rw [is_str] at i
    match ds, q with
    | [d], q =>
      obtain ⟨v, rfl, j⟩ := isL_one l
      cases d with
      | tup xs =>
        obtain ⟨ys, rfl, hz, q⟩ := q
        rw [is_tup] at j
        obtain ⟨p, ws, rfl, e, l1⟩ := j
        exact ⟨a, p, ys, i, rfl, .inr (by rw [← isL_strs l1]; exact SqT.of e), hz, fin _ _ _ _ ii_str m f q⟩
      | rl xs =>
        have q : listAt M (.rl xs) fun xs => ∃ ys : List Str, xs = ys.map D.str ∧ (ys.map (·.length)).sum + ys.length * a.length ≤ 16777216 ∧ Q (.str (Txt.join a ys)) M := q
        obtain ⟨p, ws, zs, rfl, s, l1, ys, rfl, hz, q⟩ := listAt_low m j q
        exact ⟨a, p, ys, i, rfl, .inl (by rw [← isL_strs l1]; exact s), hz, fin _ _ _ _ ii_str m f q⟩
      | ref b =>
        have q : listAt M (.ref b) fun xs => ∃ ys : List Str, xs = ys.map D.str ∧ (ys.map (·.length)).sum + ys.length * a.length ≤ 16777216 ∧ Q (.str (Txt.join a ys)) M := q
        obtain ⟨p, ws, zs, rfl, s, l1, ys, rfl, hz, q⟩ := listAt_low m j q
        exact ⟨a, p, ys, i, rfl, .inl (by rw [← isL_strs l1]; exact s), hz, fin _ _ _ _ ii_str m f q⟩
      | _ => exact q.elim
  | _ => exact q.elim
def mUpper : RmD := fun x ds M Q => match x with
  | .str a => ds = [] ∧ a.length ≤ 5592405 ∧ Q (.str (Txt.upper a)) M
  | _ => False
theorem md_upper : MtD X "str" "upper" "str.upper" mUpper := by
  refine ⟨PySem.F.plainAttrs_str, PySem.F.slot_str_upper, PySem.F.type_str_upper, _, mt_upper, fun M H Mo Ho x a vs ds Q QV m f i l fin q => ?_⟩
  cases a with
  | str a =>
    rw [is_str] at i
    obtain ⟨rfl, hz, q⟩ := q
    rw [isL_nil] at l
    exact ⟨a, i, l, hz, fin _ _ _ _ ii_str m f q⟩
  | _ => exact q.elim
def mAppend : RmD := fun x ds M Q => match x with
  | .ref a => (match ds with | [d] => ∃ xs, M a = some (.lst xs) ∧ xs.length < sizeLine ∧ Q .non (wr M a (.lst (xs ++ [d]))) | _ => False)
  | _ => False
theorem md_append : MtD X "list" "append" "list.append" mAppend := by
  refine ⟨PySem.F.plainAttrs_list, PySem.F.slot_list_append, PySem.F.type_list_append, _, mt_append, fun M H Mo Ho x a vs ds Q QV m f i l fin q => ?_⟩
  cases a with
  | ref a =>
    rw [is_ref] at i
    match ds, q with
    | [d], q =>
      obtain ⟨v, rfl, j⟩ := isL_one l
      obtain ⟨xs, h, hz, q⟩ := q
      obtain ⟨ws, e, l1⟩ := m a _ h
      exact ⟨a, ws, v, i, rfl, e, by rw [l1.length]; exact hz, fin.setL m f h (l1.append (IsL.mk j (isL_nil.mpr rfl))) ii_non q⟩
  | _ => exact q.elim
def mExtend : RmD := fun x ds M Q => match x with
  | .ref a => (match ds with
    | [.ref b] => ∃ xs zs, M a = some (.lst xs) ∧ M b = some (.lst zs) ∧ xs.length + zs.length ≤ sizeLine ∧ Q .non (wr M a (.lst (xs ++ zs)))
    | [.tup zs] => ∃ xs, M a = some (.lst xs) ∧ xs.length + zs.length ≤ sizeLine ∧ Q .non (wr M a (.lst (xs ++ zs)))
    | [.tx zs] => ∃ xs, M a = some (.lst xs) ∧ xs.length + zs.length ≤ sizeLine ∧ Q .non (wr M a (.lst (xs ++ zs)))
    | [.rl zs] => ∃ xs, M a = some (.lst xs) ∧ xs.length + zs.length ≤ sizeLine ∧ Q .non (wr M a (.lst (xs ++ zs)))
    | _ => False)
  | _ => False
theorem md_extend : MtD X "list" "extend" "list.extend" mExtend := by
  refine ⟨PySem.F.plainAttrs_list, PySem.F.slot_list_extend, PySem.F.type_list_extend, _, MtR.or mt_extend (MtR.or mt_extendT mt_extendL), fun M H Mo Ho x a vs ds Q QV m f i l fin q => ?_⟩
  cases a with
  | ref a =>
    rw [is_ref] at i
    match ds, q with
    | [.ref b], q =>
      obtain ⟨v, rfl, j⟩ := isL_one l
      rw [is_ref] at j
      subst j
      obtain ⟨xs, zs, h, h2, hz, q⟩ := q
      obtain ⟨ws, e, l1⟩ := m a _ h
      obtain ⟨us, e2, l2⟩ := m b _ h2
      exact .inl ⟨a, b, ws, us, i, rfl, e, e2, by rw [l1.length, l2.length]; exact hz, fin.setL m f h (l1.append l2) ii_non q⟩
    | [.tup zs], q =>
      obtain ⟨v, rfl, j⟩ := isL_one l
      rw [is_tup] at j
      obtain ⟨b, us, rfl, e2, l2⟩ := j
      obtain ⟨xs, h, hz, q⟩ := q
      obtain ⟨ws, e, l1⟩ := m a _ h
      exact .inr (.inl ⟨a, b, ws, us, i, rfl, e, .inl (.inl e2), by rw [l1.length, l2.length]; exact hz, fin.setL m f h (l1.append l2) ii_non q⟩)
    | [.tx zs], q =>
      obtain ⟨v, rfl, j⟩ := isL_one l
      rw [is_tx] at j
      obtain ⟨b, us, rfl, e2, l2⟩ := j
      obtain ⟨xs, h, hz, q⟩ := q
      obtain ⟨ws, e, l1⟩ := m a _ h
      exact .inr (.inl ⟨a, b, ws, us, i, rfl, e, e2.sq, by rw [l1.length, l2.length]; exact hz, fin.setL m f h (l1.append l2) ii_non q⟩)
    | [.rl zs], q =>
      obtain ⟨v, rfl, j⟩ := isL_one l
      rw [is_rl] at j
      obtain ⟨b, us, rfl, e2, l2⟩ := j
      obtain ⟨xs, h, hz, q⟩ := q
      obtain ⟨ws, e, l1⟩ := m a _ h
      exact .inr (.inr ⟨a, b, ws, us, i, rfl, e, e2.sq, by rw [l1.length, l2.length]; exact hz, fin.setL m f h (l1.append l2) ii_non q⟩)
  | _ => exact q.elim
/-- pop(), pop(i) of a list -/
def mPop : RmD := fun x ds M Q => match x with
  | .ref a => (match ds with
    | [] => ∃ xs d, M a = some (.lst xs) ∧ xs[xs.length - 1]? = some d ∧ Q d (wr M a (.lst xs.dropLast))
    | [.int i] => ∃ xs k d, M a = some (.lst xs) ∧ -(2 ^ 63) ≤ i ∧ i < 2 ^ 63 ∧ seqIndex? i xs.length = some k ∧ xs[k]? = some d ∧ Q d (wr M a (.lst (xs.eraseIdx k)))
    | _ => False)
  | _ => False
theorem md_pop : MtD X "list" "pop" "list.pop" mPop := by
  refine ⟨PySem.F.plainAttrs_list, PySem.F.slot_list_pop, PySem.F.type_list_pop, _, MtR.or mt_pop mt_popAt, fun M H Mo Ho x a vs ds Q QV m f i l fin q => ?_⟩
  cases a with
  | ref a =>
    rw [is_ref] at i
    match ds, q with
    | [], q =>
      rw [isL_nil] at l
      obtain ⟨xs, d, h, e1, q⟩ := q
      obtain ⟨ws, e, l1⟩ := m a _ h
      obtain ⟨v, e2, j⟩ := l1.get e1
      refine .inl ⟨a, ws, v, i, l, e, by rw [l1.length]; exact e2, fin.setL m f h l1.dropLast j q⟩
    | [.int k], q =>
      obtain ⟨v, rfl, j⟩ := isL_one l
      rw [is_int] at j
      subst j
      obtain ⟨xs, n, d, h, b1, b2, e1, e3, q⟩ := q
      obtain ⟨ws, e, l1⟩ := m a _ h
      obtain ⟨u, e2, j⟩ := l1.get e3
      exact .inr ⟨a, ws, k, n, u, i, rfl, e, b1, b2, by rw [l1.length]; exact e1, e2, fin.setL m f h (l1.eraseIdx n) j q⟩
  | _ => exact q.elim
end
/-! ### a new list that is handed to a built-in at once, and dropped -/
/-- what a call reads of a list that nothing else knows -/
abbrev RtD := List D → Mem → QE → Prop
def TmpOk (r : RnD) (rt : RtD) : Prop := ∀ ds M Q, rt ds M Q → ∀ p, M p = none → r [.ref p] (wr M p (.lst ds)) (fun d M3 => ∃ M4, Sub M4 M3 ∧ Q d M4)
def dTmp (rt : RtD) (t : DTA) : DTE := fun e M Q E => t e M (fun ds M1 => rt ds M1 Q) E
theorem sub_wr {M : Mem} {p : Addr} {o : MO} (h : M p = none) : Sub M (wr M p o) := fun a u e => by
  have ne : a ≠ p := fun z => by subst z; rw [h] at e; cases e
  rw [wr_ne ne]; exact e
section
variable {g : Gd} {x : Expr} {t : DTA} {pos p apos : Pos} {n : Str} {id T : String} {r : RnD} {rt : RtD}
theorem tmp_low {r' : List V → Hp → VK → Prop} (k : CallK g.X.K r r') (ht : TmpOk r rt) {M M' : Mem} {H H' : Hp} {a : Addr} {vs : List V} {ds : List D} {Q : QE} (h : H' a = some (.lst vs)) (l : IsL g.X.K H' ds vs) (n : M' a = none) (n0 : H a = none) (m : MRel g.X.K M' H') (f : Fr M H M' H') (q : rt ds M' Q) :
    r' [.ref a] H' (lowQ g.X.K M H Q) := by
  obtain ⟨m2, f2⟩ := new_in h l n n0 m f
  refine k _ H' M H [.ref a] [.ref a] _ _ m2 f2 (IsL.mk ii_ref (isL_nil.mpr rfl)) (fun v d M3 H3 i3 m3 f3 q3 => ?_) (ht ds M' Q q a n)
  obtain ⟨M4, s4, q4⟩ := q3
  exact lowQ.mk i3 (m3.sub s4) (f3.sub s4) q4
theorem de_tmpB (hc : CallD g.X (.builtin id) r) (ht : TmpOk r rt) (hg : Gl g.X n) (hm : g.X.mg n = none) (hv : bootBuiltins n = some (.builtin id)) (hx : DLE g x t) (ns : isStar x = false) (hn : n ≠ "__name__") (hdb : (n == ("__debug__" : Str)) = false) :
    DE g (.Call (.Name n p) [x] [] pos) (dTmp rt t) := by
  obtain ⟨r', h, k⟩ := hc
  obtain ⟨t', pe, kk⟩ := hx.pe
  refine DE.of (pe_callB h hg hm hv (pa_cons pe pa_nil (star_cons ns)) hn hdb (star_cons ns) rfl) fun σ H e M Q sl mr fr q => ?_
  exact kk σ H e M _ _ sl mr fr q fun a vs ds M' H' h1 l n n0 m f q => tmp_low k ht h1 l n n0 m f q
theorem de_tmpT (hc : CallD g.X (.type T) r) (ht : TmpOk r rt) (hg : Gl g.X n) (hm : g.X.mg n = none) (hv : bootBuiltins n = some (.type T)) (hx : DLE g x t) (ns : isStar x = false) (hn : n ≠ "__name__") (hdb : (n == ("__debug__" : Str)) = false) :
    DE g (.Call (.Name n p) [x] [] pos) (dTmp rt t) := by
  obtain ⟨r', h, k⟩ := hc
  obtain ⟨t', pe, kk⟩ := hx.pe
  refine DE.of (pe_callTy h hg hm hv (pa_cons pe pa_nil (star_cons ns)) hn hdb (star_cons ns) rfl) fun σ H e M Q sl mr fr q => ?_
  exact kk σ H e M _ _ sl mr fr q fun a vs ds M' H' h1 l n n0 m f q => tmp_low k ht h1 l n n0 m f q
end
def tTuple : RtD := fun ds M Q => Q (.tup ds) M
theorem ok_tTuple : TmpOk rTuple tTuple := fun ds M Q q p hp => ⟨ds, wr_same, M, sub_wr hp, q⟩
def tBools (c : List Bool → Bool) : RtD := fun ds M Q => ∃ bs, ds = bs.map D.bl ∧ Q (.bl (c bs)) M
theorem ok_tBools {c : List Bool → Bool} : TmpOk (rBools c) (tBools c) := fun ds M Q ⟨bs, e, q⟩ p hp => ⟨ds, wr_same, bs, e, M, sub_wr hp, q⟩
def tLen : RtD := fun ds M Q => Q (.int ds.length) M
theorem ok_tLen : TmpOk rLenD tLen := fun ds M Q q p hp => .inl ⟨ds, wr_same, M, sub_wr hp, q⟩
def tSum : RtD := fun ds M Q => ∃ ns : List Int, ds = ns.map D.int ∧ Q (.int ns.sum) M
theorem ok_tSum : TmpOk rSumD tSum := fun ds M Q ⟨bs, e, q⟩ p hp => ⟨ds, wr_same, bs, e, M, sub_wr hp, q⟩
end DL

/-! What the syntax alone says. -/
namespace DL
open PySem PySem.Spec PyProof.Rows L2
def isSlice : Expr → Bool
  | .Slice .. => true
  | _ => false
theorem plainIx_of {b : Expr} (h : isSlice b = false) : PlainIx b := fun o i => by cases b <;> first | rfl | cases h
def plainT : Expr → Bool
  | .UnaryOp .Not _ _ => false
  | .BoolOp .. => false
  | .IfExp .. => false
  | .Compare .. => false
  | _ => true
theorem truth_of {a : Expr} (h : plainT a = true) (env : PySem.Env) (whole : Sem Value) : isTrue a env whole = (do let v ← whole; standAt a.pos; holding [v] (truthy v)) := by
  cases a with
  | UnaryOp op _ _ => cases op <;> first | rfl | cases h
  | BoolOp => cases h
  | IfExp => cases h
  | Compare => cases h
  | _ => rfl
def noSup : Expr → Bool
  | .Call _ [] [] _ => false
  | _ => true
theorem base_of {o : Expr} {n : Str} {env : PySem.Env} {w : Sem Value} (h : noSup o = true) : attributeBase o n env w = w := by
  cases o with
  | Call f xs ks p =>
    cases xs with
    | cons => cases f <;> rfl
    | nil =>
      cases ks with
      | cons => cases f <;> rfl
      | nil => cases h
  | _ => rfl
def notComp : Expr → Bool
  | .ListComp .. => false
  | .SetComp .. => false
  | .DictComp .. => false
  | _ => true
theorem swaps_of {x : Expr} {t : Option Expr} {l : Nat} {env : PySem.Env} (h : notComp x = true) : swapsWith x t l env = pure false := by
  cases x <;> first | rfl | cases h
theorem sole_of {t x : Expr} {l : Nat} {env : PySem.Env} (h : notComp x = true) : swapsWithSole [t] x l env = pure false := swaps_of h
def noPair : Expr → Expr → Bool
  | .Tuple .., .Tuple .. => false
  | .List .., .Tuple .. => false
  | _, _ => true
theorem stores_of {t x : Expr} {env : PySem.Env} (h : noPair t x = true) : swappedStores [t] x env = pure none := by
  cases t <;> first | rfl | (cases x <;> first | rfl | cases h)
def isSetD : Expr → Bool
  | .Set .. => true
  | _ => false
theorem folded_of {x : Expr} (h : isSetD x = false) (env : PySem.Env) (v : Value) : foldedSetIterable x env v = pure v := by
  cases x <;> first | rfl | cases h
theorem behind_of {x : Expr} {op : CmpOp} (h : isSetD x = false) : behindInMarks op x = false := by
  cases x <;> first | rfl | cases h
theorem sub_of {o i : Expr} {pos : Pos} {env : PySem.Env} (h : isSlice i = false) (v : Value) : assign (.Subscript o i pos) env v = (do
      let ov ← holding [v] (eval o env)
      let iv ← holding [v, ov] (eval i env)
      standAt pos
      holding [v, ov, iv] (setItem ov iv v)
      release [v, ov, iv] []) := by
  cases i <;> first | rfl | cases h
/-- [..] on one line, or not -/
theorem sw_false {elt : Expr} {gs : List Comprehension} {scope : Scope} {pos py : Pos} {y : Str} {l : Nat} {env : PySem.Env} (hl : (py.line == pos.line) = false) : swapsWith (.ListComp elt gs scope pos) (some (.Name y py)) l env = pure false := by
  unfold swapsWith
  simp only [Expr.pos, hl, Bool.and_false, Bool.false_and]
theorem kind_of {env : PySem.Env} (h : env.scope.kind = .function) : env.blockKind = .function := by
  unfold Env.blockKind
  rw [h]
  rfl
theorem star_match (a : Expr) : (match a with | .Starred .. => true | _ => false) = isStar a := by cases a <;> rfl
/-- name, name = a, b: from the right -/
def dPar (i j : Nat) (ta tb : DTE) : DTS := fun D E e M => ta e M (fun x M1 => tb e M1 (fun y M2 => D.nx (setS (setS e i (some x)) j (some y)) M2) E) E
/-- x, y = a, b by plain local names on one line -/
theorem pair_of {x y : Str} {px py pt pt2 : Pos} {kt k2 : Nat} {a b : Expr} {env : PySem.Env} (hk : env.scope.kind = .function) (hx : env.scope.names.lookup x = some .local) (hy : env.scope.names.lookup y = some .local) (hl : (py.line == px.line) = true) (hne : x ≠ y)
    (sa : isStar a = false) (sb : isStar b = false) (hf : (foldedForSure 8 a && foldedForSure 8 b) = false) (hc : (constantsAlone 8 a && constantsAlone 8 b) = false) :
    swappedStores [.Tuple [.Name x px, .Name y py] kt pt] (.Tuple [a, b] k2 pt2) env = pure (some [x, y]) := by
  have h1 : env.kindOf x = some .local := hx
  have h2 : env.kindOf y = some .local := hy
  have hyx : (y == x) = false := by simpa using fun z : y = x => hne z.symm
  have hf' : [a, b].all (foldedForSure 8) = false := by simpa using hf
  have hc' : [a, b].all (constantsAlone 8) = false := by simpa using hc
  have hxy : (x == y) = false := by simpa using hne
  unfold swappedStores
  have hl' : py.line = px.line := by simpa using hl
  have ne2 : y ≠ x := fun z => hne z.symm
  simp [kind_of hk, h1, h2, Expr.pos, hl', List.eraseDups_cons, ne2, hyx, star_match, sa, sb, hf', hc', List.filterMap_cons]
  intro z
  rcases z with z | z
  · cases a <;> first | (exact nomatch (show false = true from z)) | cases sa
  · cases b <;> first | (exact nomatch (show false = true from z)) | cases sb
/-- two names, not both plain locals: no exchange -/
theorem nopair_of {x y : Str} {px py pt : Pos} {kt : Nat} {v : Expr} {env : PySem.Env} (h : (decide (env.kindOf x = some .local) && decide (env.kindOf y = some .local)) = false) : swappedStores [.Tuple [.Name x px, .Name y py] kt pt] v env = pure none := by
  unfold swappedStores
  cases v with
  | Tuple vs k p =>
    show (if _ then _ else _) = _
    split
    · rfl
    · show (if _ then _ else _) = _
      split
      · rfl
      · refine if_pos ?_
        rw [Bool.or_eq_true]
        left
        by_cases hx : env.kindOf x = some .local
        · have h2 : ¬ env.kindOf y = some .local := fun z => by simp [hx, z] at h
          by_cases hl : py.line = px.line <;> simp [List.filterMap_cons, hx, hl, h2, Expr.pos]
        · by_cases hy : env.kindOf y = some .local <;> by_cases hl : py.line = px.line <;> simp [List.filterMap_cons, hx, hl, hy, Expr.pos]
  | _ => rfl
section
variable {g : Gd} {a b : Expr} {ta tb : DTE}
theorem ds_par {i j : Nat} {x y : Str} {px py pt pt2 pos : Pos} {kt k2 : Nat} (hc : g.X.calm = true) (hN : g.X.N.Nodup) (hi : g.X.N[i]? = some x) (hj : g.X.N[j]? = some y) (hij : i ≠ j)
    (hx : g.X.env.scope.names.lookup x = some .local) (hy : g.X.env.scope.names.lookup y = some .local) (ha : DE g a ta) (hb : DE g b tb) (sa : isStar a = false) (sb : isStar b = false)
    (hw : swappedStores [.Tuple [.Name x px, .Name y py] kt pt] (.Tuple [a, b] k2 pt2) g.X.env = pure (some [x, y])) :
    DS g (.Assign [.Tuple [.Name x px, .Name y py] kt pt] (.Tuple [a, b] k2 pt2) pos) (dPar i j ta tb) := by
  obtain ⟨t', pa, ka⟩ := (da_cons ha (da_cons hb da_nil sb) sa).pa
  refine ⟨⟨_, ps_par hc hN hi hj hij hx hy pa hw, fun P hP σ H e M D DV sl mr hp le q => ?_⟩⟩
  refine ka σ H e M (fun ds M2 => match ds with | [d1, d2] => D.nx (setS (setS e i (some d1)) j (some d2)) M2 | _ => False) _ sl mr (hP.base _ _ hp) q fun ds vs M2 H2 l m f q => ?_
  match ds, q with
  | [d1, d2], q =>
    obtain ⟨v1, v2, rfl, i1, i2⟩ := isL_two l
    exact ⟨v1, v2, rfl, le.nx _ _ _ _ (SRel.set i2 j (SRel.set i1 i (sl.ext (f.ext mr)))) m (hP.step _ _ _ _ hp f) q⟩
end
section
variable {g : Gd} {a b c : Expr} {ta tb tc : DTE} {pos : Pos}
theorem dt_chain {op op' : CmpOp} {r r' : R2D} (ho : OpD g.X (compareOp op) r) (ho' : OpD g.X (compareOp op') r') (ha : DE g a ta) (hb : DE g b tb) (hc : DE g c tc)
    (hm : lastMarks [op, op'] [b, c] = false) : DT g (.Compare a [op, op'] [b, c] pos) (dTest (dChain r r' ta tb tc)) := by
  obtain ⟨s, o1, k1⟩ := ho
  obtain ⟨s', o2, k2⟩ := ho'
  refine DT.of (pt_chain o1 o2 ha.pe hb.pe hc.pe hm) fun σ H e M Q sl mr fr q => ?_
  refine low_start sl mr fr q fun v d M1 H1 i m f q => ?_
  refine low_start (sl.ext (f.ext mr)) m (fr.trans f) q fun v2 d2 M2 H2 i2 m2 f2 q => ?_
  have f12 := f.trans f2
  refine k1 M2 H2 M2 H2 v v2 d d2 _ _ m2 Fr.refl (Is.ext (f2.ext m) _ _ i) i2 ?_ q
  intro v3 d3 M3 H3 i3 m3 f3 q
  cases d3 with
  | bl b =>
    rw [is_bl] at i3
    refine ⟨b, i3, ?_⟩
    have f13 := f12.trans f3
    cases b with
    | true =>
      refine low_start (sl.ext (f13.ext mr)) m3 (fr.trans f13) q fun v4 d4 M4 H4 i4 m4 f4 q => ?_
      exact k2 M4 H4 M H v2 v4 d2 d4 _ _ m4 (f13.trans f4) (Is.ext ((f3.trans f4).ext m2) _ _ i2) i4 (bQ_out fun b M' H' m f q => ⟨M', m, f, q⟩) q
    | false => exact ⟨false, rfl, M3, m3, f13, q⟩
  | _ => exact q.elim
end
end DL

/-! A list that nobody writes any more becomes a tree; what no rule is needed for. -/
namespace DL
open PySem PySem.Spec PyProof.Rows L2
section
variable {X : Cx} {pins : List (Addr × Obj)} {σ : L2.St} {H : Hp} {s : Shared}
theorem inv_freeze (I : Inv X pins σ H s) {p : Addr} {xs : List V} (h : H p = some (.lst xs)) : ∃ o, Inv X pins σ (upd H p (.frz o (.lst xs))) s := by
  have hk : ObjOk X.prog X.w H s.heap p (.lst xs) := I.hok p _ h
  obtain ⟨z, its, n, r, e⟩ := hk
  refine ⟨_, I.un (t' := s.toks) (H' := upd H p (.frz { cls := .type "list", data := .seq its.toArray n } (.lst xs))) (h' := s.heap) ?_ ?_⟩
  · have ne : ∀ {b : Addr} {u : HO}, H b = some u → (∀ ys, u ≠ .lst ys) → b ≠ p := fun {b u} q k z => by
      subst z; rw [h] at q; cases q; exact k _ rfl
    refine ⟨fun b o q _ _ _ => q, fun b o q _ _ _ => ⟨o.slots, q⟩, fun b o q nb _ => ?_, fun b o q _ => ⟨o, q⟩, fun b ys q => ?_, fun b o u q => ?_, fun b ps q => ⟨#[], ?_⟩⟩
    · have : b ≠ p := fun z => by subst z; rw [h] at nb; cases nb
      rw [upd_ne this]; exact nb
    · rw [upd_ne (ne q fun _ z => by cases z)]; exact q
    · rw [upd_ne (ne q fun _ z => by cases z)]; exact q
    · rw [upd_ne (ne q fun _ z => by cases z), q]; simp
  · intro a o q
    by_cases ha : a = p
    · subst ha
      rw [upd_same] at q
      cases q
      exact ⟨e, z, its, n, r, e⟩
    · rw [upd_ne ha] at q
      refine (show ObjOk X.prog X.w H s.heap a o from I.hok a o q).stay (fun b u _ k => k) (fun b k => ?_) fun b ys k => ?_
      · have : b ≠ p := fun z => by subst z; rw [h] at k; cases k
        rw [upd_ne this]; exact k
      · have : b ≠ p := fun z => by subst z; rw [h] at k; cases k
        rw [upd_ne this]; exact k
end
section
variable {K : PySem.W.Frag} {M : Mem} {H : Hp} {p : Addr} {ds : List D} {vs : List V} {o : Obj}
theorem mdel_same : mdel M p p = none := by unfold mdel; rw [if_pos rfl]
theorem mdel_ne {b : Addr} (h : b ≠ p) : mdel M p b = M b := by unfold mdel; rw [if_neg h]
theorem ext_frz (h : H p = some (.lst vs)) : Ext K H (upd H p (.frz o (.lst vs))) := by
  refine ⟨fun a xs q => ?_, fun a xs q => ?_, fun a xs ⟨u, q, hd⟩ => ⟨u, by
    have : a ≠ p := fun z => by subst z; rw [h] at q; cases q
    rw [upd_ne this]; exact q, hd⟩⟩
  · have : a ≠ p := fun z => by subst z; rw [h] at q; cases q
    rw [upd_ne this]; exact q
  · rcases q with ⟨u, q⟩ | q
    · have : a ≠ p := fun z => by subst z; rw [h] at q; cases q
      exact .inl ⟨u, by rw [upd_ne this]; exact q⟩
    · exact .inr q
theorem fr_frz (h : M p = some (.lst ds)) : Fr M H (mdel M p) (upd H p (.frz o (.lst vs))) := by
  refine ⟨fun b u q n => ?_, fun b q => ?_⟩
  · have : b ≠ p := fun z => by subst z; rw [h] at n; cases n
    exact ⟨by rw [upd_ne this]; exact q, by rw [mdel_ne this]; exact n⟩
  · exact upd_none q
theorem mr_frz (r : MRel K M H) (hH : H p = some (.lst vs)) : MRel K (mdel M p) (upd H p (.frz o (.lst vs))) := fun a u e => by
  have ne : a ≠ p := fun z => by subst z; rw [mdel_same] at e; cases e
  rw [mdel_ne ne] at e
  exact (r a u e).ext (ext_frz hH) (upd_ne ne)
theorem is_frz (l : IsL K H ds vs) (hH : H p = some (.lst vs)) : Is K (upd H p (.frz o (.lst vs))) (.rl ds) (.ref p) :=
  is_rl.mpr ⟨p, vs, rfl, .inl ⟨o, upd_same⟩, IsL.ext (ext_frz hH) _ _ l⟩
end
/-- a new list as a tree -/
def dFz (t : DTE) : DTE := fun e M Q E => t e M (fun x M1 => match x with | .ref p => ∃ xs, M1 p = some (.lst xs) ∧ Q (.rl xs) (mdel M1 p) | _ => False) E
theorem de_fz {g : Gd} {x : Expr} {t : DTE} (h : DE g x t) : DE g x (dFz t) := by
  refine ⟨fun pins s σ H e M Q I q => thn (h.run pins s σ H e M _ I q) fun u s' z => ?_⟩
  obtain ⟨v, d, H', M', r, i, J, f, q⟩ := z
  cases d with
  | ref p =>
    obtain ⟨xs, hM, q⟩ := q
    obtain ⟨vs, hH, l⟩ := J.mr p _ hM
    obtain ⟨o, J2⟩ := inv_freeze J.inv hH
    rw [is_ref] at i
    subst i
    exact ⟨.ref p, .rl xs, _, mdel M' p, r, is_frz l hH, J.next J2 (mr_frz J.mr hH) (fr_frz hM), f.trans (fr_frz hM), q⟩
  | _ => exact q.elim
/-- a list comprehension as a tree -/
def dLcF (t : DTA) : DTE := fun e M Q E => t e M (fun ds M1 => Q (.rl ds) M1) E
theorem mdel_wr {M : Mem} {p : Addr} {o : MO} (h : M p = none) : mdel (wr M p o) p = M := by
  funext b
  by_cases e : b = p
  · subst e; rw [mdel_same, h]
  · rw [mdel_ne e, wr_ne e]
theorem de_lcF {g : Gd} {x : Expr} {t : DTA} (h : DLE g x t) : DE g x (dLcF t) := by
  obtain ⟨t', pe, k⟩ := h.pe
  refine ⟨fun pins s σ H e M Q I q => ?_⟩
  refine thn (pe.run pins s σ H _ I.inv (k σ H e M (fun ds M1 => Q (.rl ds) M1) (fun v H' => ∃ a vs ds M', v = V.ref a ∧ H' a = some (.lst vs) ∧ IsL g.X.K H' ds vs ∧ M' a = none ∧ MRel g.X.K M' H' ∧ Fr M H M' H' ∧ H a = none ∧ Q (.rl ds) M') I.sl I.mr I.fr q fun a vs ds M' H' h l n n0 m f q => ⟨a, vs, ds, M', rfl, h, l, n, m, f, n0, q⟩)) fun u s' z => ?_
  obtain ⟨v, H', J, r, a, vs, ds, M', rfl, hH, l, n, m, f, n0, q⟩ := z
  obtain ⟨o, J2⟩ := inv_freeze J hH
  have m2 : MRel g.X.K M' (upd H' a (.frz o (.lst vs))) := fun b u e => by
    have ne : b ≠ a := fun z => by subst z; rw [n] at e; cases e
    exact (m b u e).ext (ext_frz hH) (upd_ne ne)
  have f2 : Fr M H M' (upd H' a (.frz o (.lst vs))) := ⟨fun b u q nb => by
    have ne : b ≠ a := fun z => by subst z; rw [n0] at q; cases q
    obtain ⟨q1, q2⟩ := f.keep b u q nb
    exact ⟨by rw [upd_ne ne]; exact q1, q2⟩, fun b q => f.there b (upd_none q)⟩
  exact ⟨.ref a, .rl ds, _, M', r, is_frz l hH, I.next J2 m2 f2, f2, q⟩
/-- .. behind a statement: slot i -/
def dFrz (i : Nat) (t : DTS) : DTS := fun D E e M => match getS e i with
  | some (.ref p) => ∃ xs, M p = some (.lst xs) ∧ t D E (setS e i (some (.rl xs))) (mdel M p)
  | _ => False
def tFrz (t : TS) : TS := fun D σ H => ∃ p xs, H p = some (.lst xs) ∧ ∀ o, t D σ (upd H p (.frz o (.lst xs)))
theorem pss_frz {X : Cx} {sts : List Stmt} {t : TS} (h : PSs X sts t) : PSs X sts (tFrz t) := ⟨fun pins s σ H D I q => by
  obtain ⟨p, xs, hp, q⟩ := q
  obtain ⟨o, J⟩ := inv_freeze I hp
  exact h.run pins s σ _ D J (q o)⟩
theorem set_id {α : Type} : ∀ {l : List α} {i : Nat} {x : α}, l[i]? = some x → l.set i x = l
  | [], _, _, e => by simp at e
  | y :: l, 0, x, e => by simp at e; subst e; rfl
  | y :: l, i + 1, x, e => by
    rw [List.getElem?_cons_succ] at e
    rw [List.set_cons_succ, set_id e]
theorem ds_frz {g : Gd} {sts : List Stmt} {t : DTS} (i : Nat) (h : DSs g sts t) : DSs g sts (dFrz i t) := by
  obtain ⟨t', ps, k⟩ := h.ps
  refine ⟨⟨tFrz t', pss_frz ps, fun P hP σ H e M D DV sl mr pm le q => ?_⟩⟩
  have q : (match getS e i with
    | some (.ref p) => ∃ xs, M p = some (.lst xs) ∧ t D g.E (setS e i (some (.rl xs))) (mdel M p)
    | _ => False) := q
  cases eg : getS e i with
  | none => rw [eg] at q; exact q.elim
  | some d =>
    rw [eg] at q
    cases d with
    | ref p =>
      obtain ⟨xs, hM, q⟩ := q
      obtain ⟨vs, hH, l⟩ := mr p _ hM
      obtain ⟨v, hv, iv⟩ := sl.get eg
      rw [is_ref] at iv
      subst iv
      refine ⟨p, vs, hH, fun o => k P hP σ _ _ _ D DV ?_ (mr_frz mr hH) (hP.step _ _ _ _ pm (fr_frz hM)) le q⟩
      have s2 := SRel.set (is_frz (o := o) l hH) i (sl.ext (ext_frz (o := o) hH))
      rwa [set_id hv] at s2
    | _ => exact q.elim
/-- no rule, no reading -/
def dBadE : DTE := fun _ _ _ _ => False
def dBadT : DTT := fun _ _ _ _ => False
def dBadS : DTS := fun _ _ _ _ => False
theorem de_bad {g : Gd} {x : Expr} : DE g x dBadE := ⟨fun _ _ _ _ _ _ _ _ q => q.elim⟩
theorem dt_bad {g : Gd} {x : Expr} : DT g x dBadT := ⟨fun _ _ _ _ _ _ _ _ q => q.elim⟩
theorem ds_bad {g : Gd} {st : Stmt} : DS g st dBadS := ⟨⟨fun _ _ _ => False, ⟨fun _ _ _ _ _ _ q => q.elim⟩, fun _ _ _ _ _ _ _ _ _ _ _ _ q => q.elim⟩⟩
end DL

/-! Calls of any form: defs, classes, methods, by place and by name; fields. -/
namespace DL
open PySem PySem.Spec PyProof.Rows L2
/-- the value fv, called with n values by place, the others by the names ks, keeps sp -/
def CallOk (P : Program) (w : World) (K : PySem.W.Frag) (mg : Str → Option Value) (base : Heap) (k : Nat) (fv : Value) (n : Nat) (ks : List Str) (sp : DSp) : Prop :=
  ∀ (g : Gd), g.X.prog = P → g.X.w = w → g.X.K = K → g.X.mg = mg → g.X.base = base → Gok g k →
    ∀ (pins : List (Addr × Obj)) (σ : L2.St) (H : Hp) (s : Shared) (e : Sl) (M : Mem) (us ws : List Value) (vs zs : List V) (ds cs : List D) (Q : QE), SI g pins σ H s e M → Vals vs us → Vals zs ws → IsL g.X.K H ds vs → IsL g.X.K H cs zs →
      ds.length = n → cs.length = ks.length → sp (ds ++ cs) M Q g.E → wpAny (model g.X.prog g.X.w) g.X.A (call fv us (ks.zip ws)) (DEP g pins σ e M H Q) g.X.xe s
theorem CallOk.mono {P : Program} {w : World} {K : PySem.W.Frag} {mg : Str → Option Value} {base : Heap} {k k' : Nat} {fv : Value} {n : Nat} {ks : List Str} {sp : DSp} (h : CallOk P w K mg base k fv n ks sp) (l : k ≤ k') : CallOk P w K mg base k' fv n ks sp :=
  fun g e1 e2 e3 e4 e5 G => h g e1 e2 e3 e4 e5 ⟨G.room.mono l, G.gu, G.tk⟩
theorem CallOk.imp {P : Program} {w : World} {K : PySem.W.Frag} {mg : Str → Option Value} {base : Heap} {k : Nat} {fv : Value} {n : Nat} {ks : List Str} {sp sp' : DSp} (h : CallOk P w K mg base k fv n ks sp) (l : ∀ ds M Q E, sp' ds M Q E → sp ds M Q E) : CallOk P w K mg base k fv n ks sp' :=
  fun g e1 e2 e3 e4 e5 G pins σ H s e M us ws vs zs ds cs Q I r rz il iz hn hk q => h g e1 e2 e3 e4 e5 G pins σ H s e M us ws vs zs ds cs Q I r rz il iz hn hk (l _ _ _ _ q)
/-- what a call binds, on trees: gD puts the given ones and the defaults in the parameters' order -/
structure KBd (K : PySem.W.Frag) (fd : FuncData) (ps : List Str) (n : Nat) (ks : List Str) (gD : List D → List D → List D) : Prop where
  ex : ∃ (g : List Value → List Value → List Value) (gV : List V → List V → List V), KBn K fd ps n ks g gV ∧ ∀ H ds vs cs zs, IsL K H ds vs → IsL K H cs zs → ds.length = n → cs.length = ks.length → IsL K H (gD ds cs) (gV vs zs)
theorem callOk_fn {P : Program} {w : World} {K : PySem.W.Frag} {mg : Str → Option Value} {base : Heap} {k : Nat} {f : Addr} {fd : FuncData} {ps : List Str} {sp sp' : DSp} {n : Nat} {ks : List Str} {gD : List D → List D → List D}
    (F : FnG P w K mg base k f fd ps sp) (B : KBd K fd ps n ks gD) (imp : ∀ ds cs M Q E, ds.length = n → cs.length = ks.length → sp' (ds ++ cs) M Q E → sp (gD ds cs) M Q E) : CallOk P w K mg base k (.ref f) n ks sp' := by
  intro g e1 e2 e3 e4 e5 G pins σ H s e M us ws vs zs ds cs Q I r rz il iz hn hk q
  subst e1 e2 e3 e4 e5
  obtain ⟨g0, gV, kb, kd⟩ := B.ex
  have q := imp ds cs _ _ _ hn hk q
  have hl := kd H ds vs cs zs il iz hn hk
  exact fnG_run F G I (kb.to s us ws I.inv.kIn (by rw [← r.length, il.length, hn]) (by rw [← rz.length, iz.length, hk])) (kb.rel r rz) hl q
/-- a class that is called -/
theorem callOk_mk {P : Program} {w : World} {K : PySem.W.Frag} {mg : Str → Option Value} {base : Heap} {k : Nat} {C f : Addr} {fd : FuncData} {ps : List Str} {sp sp' : DSp} {n : Nat} {ks : List Str} {gD : List D → List D → List D}
    (Mm : Mk K C f) (F : FnG P w K mg base k f fd ps sp) (B : KBd K fd ps (n + 1) ks gD)
    (imp : ∀ ds cs M Q E, ds.length = n → cs.length = ks.length → sp' (ds ++ cs) M Q E → ∀ x, M x = none → sp (gD (.ref x :: ds) cs) (wr M x (.ins C [])) (fun v M' => v = .non ∧ Q (.ref x) M') E) : CallOk P w K mg base (k + 1) (.ref C) n ks sp' := by
  intro g e1 e2 e3 e4 e5 G pins σ H s e M us ws vs zs ds cs Q I r rz il iz hn hk q
  subst e1 e2 e3 e4 e5
  obtain ⟨g0, gV, kb, kd⟩ := B.ex
  have hx : H (s.heap.objs.size + 1) = none := I.inv.hok.fresh (Nat.le_succ _)
  have hdx : H s.heap.objs.size = none := I.inv.hok.fresh (Nat.le_refl _)
  have q := imp ds cs _ _ _ hn hk q _ (I.mr.none_of hx)
  have I2 := Inv.made (C := C) I.inv
  have m1 : MRel g.X.K M (upd H s.heap.objs.size (.own (s.heap.objs.size + 1))) := mr_new I.mr hdx
  have f1 : Fr M H M (upd H s.heap.objs.size (.own (s.heap.objs.size + 1))) := fr_new I.mr hdx
  have hx2 : upd H s.heap.objs.size (.own (s.heap.objs.size + 1)) (s.heap.objs.size + 1) = none := by rw [upd_ne (Nat.succ_ne_self _)]; exact hx
  have m2 : MRel g.X.K (wr M (s.heap.objs.size + 1) (.ins C [])) (upd (upd H s.heap.objs.size (.own (s.heap.objs.size + 1))) (s.heap.objs.size + 1) (.ins C s.heap.objs.size [])) :=
    mr_alloc m1 hx2 ⟨s.heap.objs.size, [], upd_same, rfl, isL_nil.mpr rfl⟩
  have f2 : Fr M H (wr M (s.heap.objs.size + 1) (.ins C [])) (upd (upd H s.heap.objs.size (.own (s.heap.objs.size + 1))) (s.heap.objs.size + 1) (.ins C s.heap.objs.size [])) := f1.trans (fr_alloc m1 hx2)
  have ex := f2.ext I.mr
  have J := I.next I2 m2 f2
  have rl : Vals (V.ref (s.heap.objs.size + 1) :: vs) (Value.ref (s.heap.objs.size + 1) :: us) := .cons rfl r
  have ll := kd _ (.ref (s.heap.objs.size + 1) :: ds) (V.ref (s.heap.objs.size + 1) :: vs) cs zs (IsL.mk ii_ref (IsL.ext ex _ _ il)) (IsL.ext ex _ _ iz) (by rw [List.length_cons, hn]) hk
  refine wpAny_call (make_map (f := f) I.inv.kIn Mm.makes Mm.init (beq_iff_eq.mp Mm.fn) (codeAny_mono (F.run _ g.X.stack _ _ ⟨Value.ref (s.heap.objs.size + 1) :: us, ks.zip ws⟩ (g0 (Value.ref (s.heap.objs.size + 1) :: us) ws) _ _ _ _ g.E _ (wxOf g.X.K _ _ g.E) (G.room.make C us (ks.zip ws)) G.gu
    (I2.env0.make C us (ks.zip ws)) (kb.to _ (Value.ref (s.heap.objs.size + 1) :: us) ws I2.kIn (by rw [List.length_cons, ← r.length, il.length, hn]) (by rw [← rz.length, iz.length, hk])) (kb.rel rl rz) ll m2 fin_low (fun _ _ _ z => z) q) fun rr s' hq => ?_))
  cases rr with
  | error err => exact passes_call G.tk (fun c d σ' H' z => by
      obtain ⟨M', fs, f', m', x', q⟩ := z
      exact ⟨M', fs, J.fr.trans f', m', x', q⟩) pins σ _ _ err s' I2 hq
  | ok fl =>
    cases fl with
    | ret u =>
      obtain ⟨v, H', J2, rv, d, M', i, m, f', ev, q3⟩ := I2.after hq
      subst ev
      rw [is_non] at i
      subst i
      exact ⟨rv, ⟨V.ref (s.heap.objs.size + 1), .ref (s.heap.objs.size + 1), H', M', rfl, ii_ref, J.next J2 m f', f2.trans f', q3⟩⟩
    | next => exact False.elim hq
    | brk => exact False.elim hq
    | cont => exact False.elim hq
end DL

/-! Calls as expressions; fields. -/
namespace DL
open PySem PySem.Spec PyProof.Rows L2
def dApp (r1 r2 : DTA) : DTA := fun e M Q E => r1 e M (fun xs M1 => r2 e M1 (fun ys M2 => Q (xs ++ ys) M2) E) E
/-- the keywords' values -/
structure DKs (g : Gd) (kws : List Keyword) (t : DTA) (ks : List Str) : Prop where
  pk : ∃ t' : TA, PK g.X kws t' ∧ ∀ σ H e M Q (QV : List V → Hp → Prop), SRel g.X.K H e σ → MRel g.X.K M H → Fr g.M0 g.H0 M H → t e M Q g.E →
    (∀ ds vs M' H', IsL g.X.K H' ds vs → MRel g.X.K M' H' → Fr M H M' H' → Q ds M' → QV vs H') → t' σ H QV
  names : ∀ pos, (backToKw pos (keywordEach kws g.X.env)).filterMap (·.1) = ks
  all : ∀ pos, (backToKw pos (keywordEach kws g.X.env)).all (·.1.isSome) = true
theorem dks_nil {g : Gd} : DKs g [] dNil [] := ⟨⟨_, pk_nil, fun σ H e M Q QV sl mr fr q k => k [] [] M H (isL_nil.mpr rfl) mr Fr.refl q⟩, fun _ => rfl, fun _ => rfl⟩
theorem dks_cons {g : Gd} {n : Str} {x : Expr} {p : Pos} {kws : List Keyword} {t : DTE} {r : DTA} {ks : List Str} (h : DE g x t) (hr : DKs g kws r ks) : DKs g (⟨some n, x, p⟩ :: kws) (dCons t r) (n :: ks) := by
  obtain ⟨t', pk, k⟩ := hr.pk
  refine ⟨⟨_, pk_cons h.pe pk, fun σ H e M Q QV sl mr fr q kk => ?_⟩, fun pos => ?_, fun pos => ?_⟩
  · refine low_start sl mr fr q fun v d M1 H1 i m f q => ?_
    refine k σ H1 e M1 _ _ (sl.ext (f.ext mr)) m (fr.trans f) q fun ds vs M2 H2 l m2 f2 q => ?_
    exact kk (d :: ds) (v :: vs) M2 H2 (IsL.mk (Is.ext (f2.ext m) _ _ i) l) m2 (f.trans f2) q
  · have := hr.names pos
    show n :: (backToKw pos (keywordEach kws g.X.env)).filterMap (·.1) = _
    rw [this]
  · exact hr.all pos
theorem DKs.none {g : Gd} {kws : List Keyword} {t : DTA} {ks : List Str} (h : DKs g kws t ks) (pos : Pos) : (backToKw pos (keywordEach kws g.X.env)).any (·.1.isNone) = false := by
  have := h.all pos
  rw [List.all_eq_true] at this
  rw [List.any_eq_false]
  intro x hx
  have := this x hx
  intro hN
  cases hx1 : x.1 <;> simp [hx1] at this hN
theorem DKs.run {g : Gd} {kws : List Keyword} {t : DTA} {ks : List Str} (h : DKs g kws t ks) (pos : Pos) {pins : List (Addr × Obj)} {s : Shared} {σ : L2.St} {H : Hp} {e : Sl} {M : Mem} {Q : List D → Mem → Prop} (I : SI g pins σ H s e M) (q : t e M Q g.E) :
    wpAny (model g.X.prog g.X.w) g.X.A (evalAll ((backToKw pos (keywordEach kws g.X.env)).map (·.2))) (DAP g pins σ e M H Q) g.X.xe s := by
  obtain ⟨t', pk, ka⟩ := h.pk
  refine thn (pk.run pos pins s σ H (fun vs H' => ∃ ds M', IsL g.X.K H' ds vs ∧ MRel g.X.K M' H' ∧ Fr M H M' H' ∧ Q ds M') I.inv (ka σ H e M Q _ I.sl I.mr I.fr q fun ds vs M' H' l m f q => ⟨ds, M', l, m, f, q⟩)) fun us s' z => ?_
  obtain ⟨vs, H', J, r, ds, M', l, m, f, q⟩ := z
  exact ⟨vs, ds, H', M', r, l, I.next J m f, f, q⟩
/-- a call: n values by place, m by name -/
def dFnN (sp : DSp) (n m : Nat) (r rk : DTA) : DTE := fun e M Q E => r e M (fun xs M1 => rk e M1 (fun ys M2 => xs.length = n ∧ ys.length = m ∧ sp (xs ++ ys) M2 Q E) E) E
section
variable {g : Gd} {k : Nat} {fv : Value} {ks : List Str} {sp : DSp} {n : Str} {p pos apos : Pos} {es : List Expr} {kws : List Keyword} {x o : Expr} {t to : DTE} {r rk : DTA} {first : List Value} {fd : List D} {fvs : List V} {nn n1 : Nat}
theorem call_fin (G : Gok g k) (hkw : DKs g kws rk ks) (hf : Vals fvs first) (hn : nn + fd.length = n1) (hc : CallOk g.X.prog g.X.w g.X.K g.X.mg g.X.base k fv n1 ks sp) {pins : List (Addr × Obj)} {σ : L2.St} {H H1 : Hp} {s s1 : Shared} {e : Sl} {M M1 : Mem} {Q : QE} (I : SI g pins σ H s e M) (il : IsL g.X.K H fd fvs)
    {us : List Value} {vs : List V} {ds : List D} (rv : Vals vs us) (l : IsL g.X.K H1 ds vs) (J : SI g pins σ H1 s1 e M1) (f : Fr M H M1 H1) (q : rk e M1 (fun ys M2 => ds.length = nn ∧ ys.length = ks.length ∧ sp (fd ++ (ds ++ ys)) M2 Q g.E) g.E) :
    wpAny (model g.X.prog g.X.w) g.X.A (evalAll ((backToKw pos (keywordEach kws g.X.env)).map (·.2))) (fun ws s₂ => g.X.K.In s₂.heap ∧ wpAny (model g.X.prog g.X.w) g.X.A (call fv (first ++ us) (((backToKw pos (keywordEach kws g.X.env)).filterMap (·.1)).zip ws)) (DEP g pins σ e M H Q) g.X.xe s₂) g.X.xe s1 := by
  refine thn (hkw.run pos J q) fun ws s2 z => ?_
  obtain ⟨zs, cs, H2, M2, rz, lz, J2, f2, hd, hcs, q⟩ := z
  refine ⟨J2.inv.kIn, ?_⟩
  rw [hkw.names pos]
  have l' : IsL g.X.K H2 (fd ++ ds) (fvs ++ vs) := (IsL.ext ((f.trans f2).ext I.mr) _ _ il).append (IsL.ext (f2.ext J.mr) _ _ l)
  refine thn (hc g rfl rfl rfl rfl rfl G pins σ H2 s2 e M2 (first ++ us) ws (fvs ++ vs) zs (fd ++ ds) cs Q J2 (hf.append rv) rz l' lz (by rw [List.length_append]; omega) hcs (by rw [List.append_assoc]; exact q)) fun u s3 z => ?_
  obtain ⟨v, d, H', M', r', i, J3, f3, q⟩ := z
  exact ⟨v, d, H', M', r', i, J3, (f.trans f2).trans f3, q⟩
/-- the arguments and the call itself -/
theorem call_args (G : Gok g k) (hk : PySem.W.keepIn g.X.K fv = true) (ha : DA g (x :: es) r) (hkw : DKs g kws rk ks) (ns : isStar x = false) (hf : Vals fvs first) (hn : nn + fd.length = n1) (hc : CallOk g.X.prog g.X.w g.X.K g.X.mg g.X.base k fv n1 ks sp) {pins : List (Addr × Obj)} {σ : L2.St} {H : Hp} {s : Shared} {e : Sl} {M : Mem} {Q : QE} (I : SI g pins σ H s e M) (il : IsL g.X.K H fd fvs)
    (q : r e M (fun xs M1 => rk e M1 (fun ys M2 => xs.length = nn ∧ ys.length = ks.length ∧ sp (fd ++ (xs ++ ys)) M2 Q g.E) g.E) g.E) :
    wpAny (model g.X.prog g.X.w) g.X.A (callWith pos fv first (backTo pos (starEach (x :: es) g.X.env)) (backToKw pos (keywordEach kws g.X.env))) (DEP g pins σ e M H Q) g.X.xe s := by
  refine PySem.W.callWith_KW (h₀ := g.X.base) I.inv.ok.mod.kin hk (hkw.all pos) (thn (ha.run pos I q) fun us s1 z => ?_) (by rw [hkw.none pos, Bool.or_false]; exact bt_any ha) (star_cons ns)
  obtain ⟨vs, ds, H1, M1, rv, l, J, f, q⟩ := z
  exact call_fin G hkw hf hn hc I il rv l J f q
theorem call_args0 (G : Gok g k) (hk : PySem.W.keepIn g.X.K fv = true) (hkw : DKs g kws rk ks) (hf : Vals fvs first) (hn : fd.length = n1) (hc : CallOk g.X.prog g.X.w g.X.K g.X.mg g.X.base k fv n1 ks sp) {pins : List (Addr × Obj)} {σ : L2.St} {H : Hp} {s : Shared} {e : Sl} {M : Mem} {Q : QE} (I : SI g pins σ H s e M) (il : IsL g.X.K H fd fvs)
    (q : rk e M (fun ys M2 => 0 = 0 ∧ ys.length = ks.length ∧ sp (fd ++ ([] ++ ys)) M2 Q g.E) g.E) :
    wpAny (model g.X.prog g.X.w) g.X.A (callWith pos fv first (backTo pos (starEach [] g.X.env)) (backToKw pos (keywordEach kws g.X.env))) (DEP g pins σ e M H Q) g.X.xe s := by
  refine PySem.W.callWith_KW0 (h₀ := g.X.base) I.inv.ok.mod.kin hk (hkw.all pos) ?_ (by rw [hkw.none pos]; rfl)
  exact call_fin (nn := 0) (us := []) (vs := []) (ds := []) G hkw hf (by omega) hc I il .nil (isL_nil.mpr rfl) I Fr.refl q
/-- f(.., k = v) of a global -/
theorem de_cal (G : Gok g k) (hg : Gl g.X n) (hm : g.X.mg n = some fv) (hk : PySem.W.keepIn g.X.K fv = true) (hc : CallOk g.X.prog g.X.w g.X.K g.X.mg g.X.base k fv nn ks sp) (ha : DA g (x :: es) r) (hkw : DKs g kws rk ks) (ns : isStar x = false) (hdb : (n == ("__debug__" : Str)) = false) :
    DE g (.Call (.Name n p) (x :: es) kws pos) (dFnN sp nn ks.length r rk) :=
  ⟨fun pins s σ H e M Q I q => wpAny_Call_Name_kw (ld_glob I.inv hg hm (call_args (first := []) (fd := []) (fvs := []) G hk ha hkw ns .nil rfl hc I (isL_nil.mpr rfl) q) hdb)⟩
theorem de_cal0 (G : Gok g k) (hg : Gl g.X n) (hm : g.X.mg n = some fv) (hk : PySem.W.keepIn g.X.K fv = true) (hc : CallOk g.X.prog g.X.w g.X.K g.X.mg g.X.base k fv 0 ks sp) (hkw : DKs g kws rk ks) (hdb : (n == ("__debug__" : Str)) = false) :
    DE g (.Call (.Name n p) [] kws pos) (dFnN sp 0 ks.length dNil rk) :=
  ⟨fun pins s σ H e M Q I q => wpAny_Call_Name_kw (ld_glob I.inv hg hm (call_args0 (first := []) (fd := []) (fvs := []) G hk hkw .nil rfl hc I (isL_nil.mpr rfl) q) hdb)⟩
/-! methods -/
/-- an instance of C without an own m -/
def isIns (C : Addr) (m : Str) (x : D) (M : Mem) : Prop := match x with | .ref a => ∃ fs, M a = some (.ins C fs) ∧ fs.lookup m = none | _ => False
def dMth (C : Addr) (m : Str) (sp : DSp) (nn mm : Nat) (to : DTE) (r rk : DTA) : DTE := fun e M Q E => to e M (fun x M1 => isIns C m x M1 ∧ r e M1 (fun xs M2 => rk e M2 (fun ys M3 => xs.length = nn ∧ ys.length = mm ∧ sp (x :: (xs ++ ys)) M3 Q E) E) E) E
theorem lookup_kr {K : PySem.W.Frag} {H : Hp} {f : Str} : ∀ {fs : List (Str × D)} {ws : List (Str × V)}, ws.map (·.1) = fs.map (·.1) → IsL K H (fs.map (·.2)) (ws.map (·.2)) → (match fs.lookup f with | some d => ∃ v, ws.lookup f = some v ∧ Is K H d v | none => ws.lookup f = none)
  | [], ws, h, _ => by
    have : ws = [] := by simpa using h
    subst this
    rfl
  | (y, d) :: fs, ws, h, l => by
    cases ws with
    | nil => simp at h
    | cons z ws =>
      obtain ⟨z1, z2⟩ := z
      simp only [List.map_cons, List.cons.injEq] at h
      obtain ⟨h1, h2⟩ := h
      have h1 : z1 = y := h1
      subst h1
      rw [List.map_cons, List.map_cons, isL_cons] at l
      obtain ⟨v, rr, e, i, l⟩ := l
      rw [List.cons.injEq] at e
      obtain ⟨e1, e2⟩ := e
      subst e2
      have e1 : z2 = v := e1
      subst e1
      have ih := lookup_kr (f := f) h2 l
      rw [List.lookup_cons, List.lookup_cons]
      cases hb : f == z1 with
      | true => exact ⟨_, rfl, i⟩
      | false => exact ih
theorem ins_at {K : PySem.W.Frag} {M : Mem} {H : Hp} {a C : Addr} {fs : List (Str × D)} (m : MRel K M H) (h : M a = some (.ins C fs)) (f : Str) : ∃ dx ws, H a = some (.ins C dx ws) ∧ (match fs.lookup f with | some d => ∃ v, ws.lookup f = some v ∧ Is K H d v | none => ws.lookup f = none) := by
  obtain ⟨dx, ws, e, h1, h2⟩ := m a _ h
  exact ⟨dx, ws, e, lookup_kr h1 h2⟩
/-- the tree of a method's call with few arguments on one line -/
theorem meth_tree {env : PySem.Env} {m : Str} (hb : attributeBase o m env (eval o env) = eval o env) (hfew : methodCallForm (es.length + kws.length) (backTo pos (starEach es env)) (backToKw pos (keywordEach kws env)) = true) (hl : (apos.endLine == pos.line) = true) :
    eval (.Call (.Attribute o m apos) es kws pos) env = (do
      let ov ← eval o env
      standAt apos.atName
      let (f, first) ← holding [ov] (getMethod ov m (do return (← importBound o env).getD true))
      callWith pos f first (backTo pos (starEach es env)) (backToKw pos (keywordEach kws env))) := by
  refine mcall_of hb fun ov => ?_
  unfold methodCall
  rw [hfew]
  unfold calleeOf methodCallPos
  rw [if_pos rfl, hl]
  simp only [Bool.not_true, Bool.false_or, if_true, pure_bind]
theorem form_of (ha : DA g es r) (hkw : DKs g kws rk ks) (hn : es.length + kws.length + 1 < 30) : methodCallForm (es.length + kws.length) (backTo pos (starEach es g.X.env)) (backToKw pos (keywordEach kws g.X.env)) = true := by
  unfold methodCallForm
  have h1 : (backTo pos (starEach es g.X.env)).all (fun z => !z.1) = true := by
    have h := bt_any (pos := pos) ha
    rw [List.all_eq_true]
    intro z hz
    rw [List.any_eq_false] at h
    simpa using h z hz
  rw [h1, hkw.all pos]
  simp only [Bool.true_and, decide_eq_true_eq]
  split <;> omega
theorem de_mth {C f : Addr} {m : Str} (G : Gok g k) (ho : DE g o to) (c : Cls g.X.K C) (hm : Meth g.X.K C m f) (hc : CallOk g.X.prog g.X.w g.X.K g.X.mg g.X.base k (.ref f) (nn + 1) ks sp) (ha : DA g (x :: es) r) (hkw : DKs g kws rk ks) (ns : isStar x = false)
    (hb : attributeBase o m g.X.env (eval o g.X.env) = eval o g.X.env) (hn : (x :: es).length + kws.length + 1 < 30) (hl : (apos.endLine == pos.line) = true) : DE g (.Call (.Attribute o m apos) (x :: es) kws pos) (dMth C m sp nn ks.length to r rk) := by
  refine ⟨fun pins s σ H e M Q I q => ?_⟩
  refine PySem.W.methodCall_KW (thn (ho.run pins s σ H e M _ I q) fun u s1 z => ?_) (meth_tree hb (form_of ha hkw hn) hl)
  obtain ⟨v, d, H1, M1, rv, i, J, f1, hi, q⟩ := z
  cases d with
  | ref a =>
    obtain ⟨fs, hM, hlk⟩ := hi
    rw [is_ref] at i
    subst i
    obtain rfl : u = Value.ref a := rv
    obtain ⟨dx, ws, hH, lk⟩ := ins_at J.mr hM m
    rw [hlk] at lk
    refine getmeth_ok J.inv hH c hm lk ?_
    refine thn (call_args (first := [.ref a]) (fd := [.ref a]) (fvs := [.ref a]) G hm.kp ha hkw ns (.cons rfl .nil) rfl hc J (IsL.mk ii_ref (isL_nil.mpr rfl)) q) fun u' s' z => ?_
    obtain ⟨v, d, H', M', r', i, J3, f3, q⟩ := z
    exact ⟨v, d, H', M', r', i, J3, f1.trans f3, q⟩
  | _ => exact hi.elim
theorem de_mth0 {C f : Addr} {m : Str} (G : Gok g k) (ho : DE g o to) (c : Cls g.X.K C) (hm : Meth g.X.K C m f) (hc : CallOk g.X.prog g.X.w g.X.K g.X.mg g.X.base k (.ref f) 1 ks sp) (hkw : DKs g kws rk ks)
    (hb : attributeBase o m g.X.env (eval o g.X.env) = eval o g.X.env) (hn : kws.length + 1 < 30) (hl : (apos.endLine == pos.line) = true) : DE g (.Call (.Attribute o m apos) [] kws pos) (dMth C m sp 0 ks.length to dNil rk) := by
  refine ⟨fun pins s σ H e M Q I q => ?_⟩
  refine PySem.W.methodCall_KW (thn (ho.run pins s σ H e M _ I q) fun u s1 z => ?_) (meth_tree hb (form_of da_nil hkw (by simpa using hn)) hl)
  obtain ⟨v, d, H1, M1, rv, i, J, f1, hi, q⟩ := z
  cases d with
  | ref a =>
    obtain ⟨fs, hM, hlk⟩ := hi
    rw [is_ref] at i
    subst i
    obtain rfl : u = Value.ref a := rv
    obtain ⟨dx, ws, hH, lk⟩ := ins_at J.mr hM m
    rw [hlk] at lk
    refine getmeth_ok J.inv hH c hm lk ?_
    refine thn (call_args0 (first := [.ref a]) (fd := [.ref a]) (fvs := [.ref a]) G hm.kp hkw (.cons rfl .nil) rfl hc J (IsL.mk ii_ref (isL_nil.mpr rfl)) q) fun u' s' z => ?_
    obtain ⟨v, d, H', M', r', i, J3, f3, q⟩ := z
    exact ⟨v, d, H', M', r', i, J3, f1.trans f3, q⟩
  | _ => exact hi.elim
/-! fields -/
def dFld (C : Addr) (f : Str) (t : DTE) : DTE := fun e M Q E => t e M (fun x M1 => match x with | .ref a => ∃ fs d, M1 a = some (.ins C fs) ∧ fs.lookup f = some d ∧ Q d M1 | _ => False) E
theorem de_fld {C : Addr} {f : Str} (ho : DE g o to) (c : Cls g.X.K C) (na : NoAttr g.X.K C f) (hb : attributeBase o f g.X.env (eval o g.X.env) = eval o g.X.env) : DE g (.Attribute o f pos) (dFld C f to) := by
  refine DE.of (pe_fld ho.pe hb) fun σ H e M Q sl mr fr q => ?_
  refine low_start sl mr fr q fun v d M1 H1 i m f1 q => ?_
  cases d with
  | ref a =>
    obtain ⟨fs, d, hM, hlk, q⟩ := q
    rw [is_ref] at i
    subst i
    obtain ⟨dx, ws, hH, lk⟩ := ins_at m hM f
    rw [hlk] at lk
    obtain ⟨v, lv, iv⟩ := lk
    exact ⟨a, C, dx, ws, v, rfl, hH, c, na, lv, lowQ.mk iv m f1 q⟩
  | _ => exact q.elim
/-- fields with one more, or one anew -/
def putFD (f : Str) (d : D) : List (Str × D) → List (Str × D)
  | [] => [(f, d)]
  | (y, e) :: r => if y = f then (y, d) :: r else (y, e) :: putFD f d r
def dSfl (C : Addr) (f : Str) (to tv : DTE) : DTS := fun D E e M => tv e M (fun v M1 => to e M1 (fun x M2 => match x with | .ref a => ∃ fs, M2 a = some (.ins C fs) ∧ fs.length < 1000 ∧ D.nx e (wr M2 a (.ins C (putFD f v fs))) | _ => False) E) E
theorem putF_rel {K : PySem.W.Frag} {H : Hp} {d : D} {v : V} (iv : Is K H d v) : ∀ {fs : List (Str × D)} {ws : List (Str × V)}, ws.map (·.1) = fs.map (·.1) → IsL K H (fs.map (·.2)) (ws.map (·.2)) → (putF f v ws).map (·.1) = (putFD f d fs).map (·.1) ∧ IsL K H ((putFD f d fs).map (·.2)) ((putF f v ws).map (·.2))
  | [], ws, h, _ => by
    have : ws = [] := by simpa using h
    subst this
    exact ⟨rfl, IsL.mk iv (isL_nil.mpr rfl)⟩
  | (y, b) :: fs, ws, h, l => by
    cases ws with
    | nil => simp at h
    | cons z ws =>
      obtain ⟨z1, z2⟩ := z
      simp only [List.map_cons, List.cons.injEq] at h
      obtain ⟨h1, h2⟩ := h
      have h1 : z1 = y := h1
      subst h1
      rw [List.map_cons, List.map_cons, isL_cons] at l
      obtain ⟨v', rr, e, i, l⟩ := l
      rw [List.cons.injEq] at e
      obtain ⟨e1, e2⟩ := e
      subst e2
      have e1 : z2 = v' := e1
      subst e1
      unfold putF putFD
      by_cases hz : z1 = f
      · rw [if_pos hz, if_pos hz]
        exact ⟨by rw [List.map_cons, List.map_cons, h2], IsL.mk iv l⟩
      · rw [if_neg hz, if_neg hz]
        obtain ⟨k1, k2⟩ := putF_rel iv h2 l
        exact ⟨by rw [List.map_cons, List.map_cons, k1], IsL.mk i k2⟩
theorem ds_sfl {C : Addr} {f : Str} {tv : DTE} {value : Expr} {p2 : Pos} (ho : DE g o to) (hv : DE g value tv) (c : Cls g.X.K C) (na : NoAttr g.X.K C f) (hs : swapsWith value (some (.Attribute o f p2)) pos.line g.X.env = pure false) : DS g (.Assign [.Attribute o f p2] value pos) (dSfl C f to tv) := by
  refine ⟨⟨_, ps_fld ho.pe hv.pe hs, fun P hP σ H e M D DV sl mr pm le q => ?_⟩⟩
  have fr := hP.base _ _ pm
  refine low_start sl mr fr q fun v d M1 H1 i m f1 q => ?_
  refine low_start (sl.ext (f1.ext mr)) m (fr.trans f1) q fun x dx M2 H2 ix m2 f2 q => ?_
  cases dx with
  | ref a =>
    obtain ⟨fs, hM, hl, q⟩ := q
    rw [is_ref] at ix
    subst ix
    obtain ⟨dx, ws, hH, h1, h2⟩ := m2 a _ hM
    have i2 := Is.ext (f2.ext m) _ _ i
    have hl2 : ws.length < 1000 := by
      have := congrArg List.length h1
      rw [List.length_map, List.length_map] at this
      omega
    refine ⟨a, C, dx, ws, rfl, hH, c, na, hl2, ?_⟩
    obtain ⟨k1, k2⟩ := putF_rel (f := f) i2 h1 h2
    have ew : Ext g.X.K H2 (upd H2 a (.ins C dx (putF f v ws))) := ext_write m2 hM
    obtain ⟨m3, f3⟩ := set_mem m2 (Mo := M2) (Ho := H2) Fr.refl hM (u' := .ins C (putFD f d fs)) (o := .ins C dx (putF f v ws)) ⟨dx, _, upd_same, k1, IsL.ext ew _ _ k2⟩
    exact le.nx _ _ _ _ (sl.ext (((f1.trans f2).trans f3).ext mr)) m3 (hP.step _ _ _ _ pm ((f1.trans f2).trans f3)) q
  | _ => exact q.elim
end
end DL

/-! Slices with a step. -/
namespace DL
open PySem PySem.Spec PyProof.Rows L2
/-- the items of xs[lo:hi:st] -/
def pickG {α : Type} (xs : List α) (lo hi : Option Int) (st : Int) : List α :=
  (sliceRange (sliceBounds lo hi (some st) xs.length).1 (sliceBounds lo hi (some st) xs.length).2.1 (sliceBounds lo hi (some st) xs.length).2.2).filterMap (xs[·]?)
theorem pick_arr (items : Array Value) (lo hi : Option Int) (st : Int) : slicePick items lo hi (some st) = (pickG items.toList lo hi st).toArray := by
  unfold slicePick pickG
  rw [Array.length_toList]
  congr 1
  congr 1
  funext i
  rw [Array.getElem?_toList]
theorem vals_at : ∀ {vs : List V} {us : List Value}, Vals vs us → ∀ i : Nat, (vs[i]? = none ∧ us[i]? = none) ∨ ∃ v u, vs[i]? = some v ∧ us[i]? = some u ∧ RelV v u
  | _, _, .nil, i => .inl ⟨by simp, by simp⟩
  | _, _, .cons r t, 0 => .inr ⟨_, _, by simp, by simp, r⟩
  | _, _, .cons r t, i + 1 => by simpa using vals_at t i
theorem vals_pick {vs : List V} {us : List Value} (h : Vals vs us) : ∀ is : List Nat, Vals (is.filterMap (vs[·]?)) (is.filterMap (us[·]?))
  | [] => .nil
  | i :: is => by
    rcases vals_at h i with ⟨e1, e2⟩ | ⟨v, u, e1, e2, r⟩
    · rw [List.filterMap_cons_none e1, List.filterMap_cons_none e2]; exact vals_pick h is
    · rw [List.filterMap_cons_some e1, List.filterMap_cons_some e2]; exact .cons r (vals_pick h is)
theorem Vals.pickG {vs : List V} {us : List Value} (h : Vals vs us) (lo hi : Option Int) (st : Int) : Vals (pickG vs lo hi st) (DL.pickG us lo hi st) := by
  unfold DL.pickG
  rw [h.length]
  exact vals_pick h _
theorem isL_pick {K : PySem.W.Frag} {H : Hp} {ds : List D} {vs : List V} (h : IsL K H ds vs) : ∀ is : List Nat, IsL K H (is.filterMap (ds[·]?)) (is.filterMap (vs[·]?))
  | [] => isL_nil.mpr rfl
  | i :: is => by
    cases e : ds[i]? with
    | none =>
      have hl := h.length
      have e2 : vs[i]? = none := by
        rw [List.getElem?_eq_none_iff] at e ⊢
        omega
      rw [List.filterMap_cons_none e, List.filterMap_cons_none e2]; exact isL_pick h is
    | some d =>
      obtain ⟨v, e2, i2⟩ := h.get e
      rw [List.filterMap_cons_some e, List.filterMap_cons_some e2]; exact IsL.mk i2 (isL_pick h is)
theorem IsL.pickG {K : PySem.W.Frag} {H : Hp} {ds : List D} {vs : List V} (h : IsL K H ds vs) (lo hi : Option Int) (st : Int) : IsL K H (pickG ds lo hi st) (DL.pickG vs lo hi st) := by
  unfold DL.pickG
  rw [h.length]
  exact isL_pick h _
theorem cnt_pos {l u st : Int} {n : Nat} (hs : 0 < st) (h1 : 0 ≤ l) (h2 : u ≤ n) : (if l < u then (u - l + st - 1) / st else 0).toNat ≤ n := by
  by_cases h : l < u
  · rw [if_pos h]
    have := ceilDiv_le (u - l) st (by omega) (by omega)
    omega
  · rw [if_neg h]; simp
theorem cnt_neg {l u st : Int} {n : Nat} (hs : st < 0) (h1 : l ≤ n - 1) (h2 : -1 ≤ u) : (if l > u then (l - u - st - 1) / (-st) else 0).toNat ≤ n := by
  by_cases h : l > u
  · rw [if_pos h]
    have := ceilDiv_le (l - u) (-st) (by omega) (by omega)
    rw [show l - u - st - 1 = l - u + -st - 1 by omega]
    omega
  · rw [if_neg h]; simp
theorem bounds_pos {lo hi : Option Int} {st : Int} {n : Nat} (hs : 0 < st) : 0 ≤ (sliceBounds lo hi (some st) n).1 ∧ (sliceBounds lo hi (some st) n).2.1 ≤ n := by
  have hp : st > 0 := hs
  cases lo <;> cases hi <;> simp only [sliceBounds, Option.getD_some, hp, if_true] <;> omega
theorem bounds_neg {lo hi : Option Int} {st : Int} {n : Nat} (hs : st < 0) : (sliceBounds lo hi (some st) n).1 ≤ (n : Int) - 1 ∧ -1 ≤ (sliceBounds lo hi (some st) n).2.1 := by
  have hp : ¬ st > 0 := by omega
  cases lo <;> cases hi <;> simp only [sliceBounds, Option.getD_some, hp, if_false] <;> omega
theorem bounds_le {lo hi : Option Int} {st : Int} {n : Nat} (h0 : st ≠ 0) : (sliceRange (sliceBounds lo hi (some st) n).1 (sliceBounds lo hi (some st) n).2.1 (sliceBounds lo hi (some st) n).2.2).length ≤ n := by
  have e3 : (sliceBounds lo hi (some st) n).2.2 = st := rfl
  rw [e3]
  unfold sliceRange
  rw [List.length_map, List.length_range]
  by_cases hs : 0 < st
  · obtain ⟨h1, h2⟩ := bounds_pos (lo := lo) (hi := hi) (n := n) hs
    have hp : st > 0 := hs
    simp only [hp, if_true]
    exact cnt_pos hs h1 h2
  · have hs : st < 0 := by omega
    obtain ⟨h1, h2⟩ := bounds_neg (lo := lo) (hi := hi) (n := n) hs
    have hp : ¬ st > 0 := by omega
    simp only [hp, if_false]
    exact cnt_neg hs h1 h2
theorem pickG_len {α : Type} {xs : List α} {lo hi : Option Int} {st : Int} (h0 : st ≠ 0) : (pickG xs lo hi st).length ≤ xs.length := by
  unfold pickG
  exact Nat.le_trans (List.length_filterMap_le _ _) (bounds_le h0)
theorem pickG_mem {α : Type} {xs : List α} {lo hi : Option Int} {st : Int} {x : α} (h : x ∈ pickG xs lo hi st) : x ∈ xs := by
  unfold pickG at h
  obtain ⟨i, _, e⟩ := List.mem_filterMap.mp h
  exact List.mem_of_getElem? e
theorem range_all {α : Type} (xs : List α) : (List.range xs.length).filterMap (xs[·]?) = xs := by
  have := PySem.W.krv_all xs.toArray
  simpa using this
theorem pickG_one {α : Type} (xs : List α) : pickG xs none none 1 = xs := by
  unfold pickG
  have e : sliceRange (sliceBounds none none (some 1) xs.length).1 (sliceBounds none none (some 1) xs.length).2.1 (sliceBounds none none (some 1) xs.length).2.2 = List.range xs.length := by
    unfold sliceBounds sliceRange
    simp only [Option.getD_some]
    rw [if_pos (by decide)]
    simp only [show ((1 : Int) > 0) from by decide, if_true]
    have : ((if (0 : Int) < xs.length then ((xs.length : Int) - 0 + 1 - 1) / 1 else 0)).toNat = xs.length := by
      split <;> simp_all <;> omega
    rw [this]
    rw [show (fun k : Nat => ((0 : Int) + 1 * (k : Int)).toNat) = id from funext fun k => by simp, List.map_id]
  rw [e]
  exact range_all xs
theorem pickG_rev {α : Type} (xs : List α) : pickG xs none none (-1) = xs.reverse := by
  unfold pickG
  rw [PySem.W.krv_bounds]
  show (sliceRange ((xs.length : Int) - 1) (-1) (-1)).filterMap (xs[·]?) = _
  rw [PySem.W.krv_sliceRange, PySem.W.krv_range, List.filterMap_reverse, range_all]
/-! the rules -/
section
variable {g : Gd} {a c : Expr} {lo hi : Option Expr} {ta tc : DTE} {tl th : DTO} {pos p2 : Pos}
def dSlS (x : D) (lo hi : Option Int) (st : Int) (M : Mem) (Q : QE) : Prop := st ≠ 0 ∧ match x with
  | .rl xs => ∀ p, M p = none → Q (.ref p) (wr M p (.lst (pickG xs lo hi st)))
  | .ref a => ∃ xs, M a = some (.lst xs) ∧ ∀ p, M p = none → Q (.ref p) (wr M p (.lst (pickG xs lo hi st)))
  | .tup xs => lo = none ∧ hi = none ∧ st = -1 ∧ Q (.tup xs.reverse) M
  | _ => False
def dSliS (t : DTE) (tl th tc : DTO) : DTE := fun e M Q E => t e M (fun x M1 => tl e M1 (fun l M2 => th e M2 (fun h M3 => tc e M3 (fun c M4 => match c with | some st => dSlS x l h st M4 Q | none => False) E) E) E) E
def rSlS (K : PySem.W.Frag) (x : V) (lo hi : Option Int) (st : Int) (H : Hp) (Q : VK) : Prop := st ≠ 0 ∧ ((∃ a xs, x = .ref a ∧ SqL K H a xs ∧ ∀ p, H p = none → Q (.ref p) (upd H p (.lst (pickG xs lo hi st)))) ∨
  ∃ a xs, x = .ref a ∧ SqT K H a xs ∧ lo = none ∧ hi = none ∧ st = -1 ∧ ∀ p, H p = none → Q (.ref p) (upd H p (.tup xs.reverse)))
section
variable {prog : Program} {w : World} {A : Around} {E : Value → Shared → Prop} {s : Shared}
theorem applied_rev {sl : Addr} {vl vu vs : Value} {n : Nat} {Q : Int × Int × Nat → Shared → Prop} (hs : s.heap.IsSliceOf sl vl vu vs) (pl : IsPart vl none) (pu : IsPart vu none) (ps : IsPart vs (some (-1)))
    (h : Q ((n : Int) - 1, -1, n) s) : wpAny (model prog w) A (Builtin.Slice.sliceApplied (.ref sl) (pure (n : Int))) Q E s := by
  obtain ⟨os, hos, hcs, hds⟩ := id hs
  unfold Builtin.Slice.sliceApplied Builtin.Slice.sliceFields
  refine wpAny_bind (wpAny_bind (wpAny_field hos hds (x := vl) rfl (wpAny_bind (wpAny_field hos hds (x := vu) rfl (wpAny_bind (wpAny_field hos hds (x := vs) rfl (wpAny_pure ?_)))))))
  refine wpAny_bind (HT.slicePart_ ps ?_)
  show wpAny _ _ (if ((-1 : Int) == 0) = true then _ else _) _ _ s
  rw [if_neg (by decide)]
  refine wpAny_bind (HT.slicePart_ pl (wpAny_bind (HT.slicePart_ pu (wpAny_bind (wpAny_pure ?_)))))
  show wpAny _ _ (match Builtin.Slice.sliceAdjust none none (-1) (n : Int) with | (lo, hi) => pure (lo, (-1 : Int), Builtin.Slice.slicePlaces lo hi (-1))) _ _ s
  have e : Builtin.Slice.sliceAdjust none none (-1) (n : Int) = ((n : Int) - 1, -1) := rfl
  rw [e]
  have e2 : Builtin.Slice.slicePlaces ((n : Int) - 1) (-1) (-1) = n := by
    unfold Builtin.Slice.slicePlaces
    rw [if_neg (by decide)]
    split
    · have : ((n : Int) - 1 - -1 - 1) / - -1 + 1 = n := by
        rw [show (- -1 : Int) = 1 from rfl, Int.ediv_one]; omega
      rw [this]; simp
    · have : n = 0 := by omega
      subst this; rfl
  show wpAny _ _ (pure ((n : Int) - 1, (-1 : Int), Builtin.Slice.slicePlaces ((n : Int) - 1) (-1) (-1))) _ _ s
  rw [e2]
  exact wpAny_pure h
theorem rev_items (xs : Array Value) : ((List.range xs.size).filterMap fun (m : Nat) => xs[((xs.size : Int) - 1 + (m : Int) * (-1)).toNat]?).toArray = xs.toList.reverse.toArray := by
  have e : (List.range xs.size).filterMap (fun (m : Nat) => xs[((xs.size : Int) - 1 + (m : Int) * (-1)).toNat]?) = ((List.range xs.size).map fun k => xs.size - 1 - k).filterMap (xs[·]?) := by
    rw [List.filterMap_map]
    have aux : ∀ l : List Nat, (∀ m ∈ l, m < xs.size) → l.filterMap (fun (m : Nat) => xs[((xs.size : Int) - 1 + (m : Int) * (-1)).toNat]?) = l.filterMap ((xs[·]?) ∘ fun k => xs.size - 1 - k) := by
      intro l
      induction l with
      | nil => intro _; rfl
      | cons m l ih =>
        intro h
        have hm := h m List.mem_cons_self
        have e : ((xs.size : Int) - 1 + (m : Int) * (-1)).toNat = xs.size - 1 - m := by omega
        rw [List.filterMap_cons, List.filterMap_cons, ih fun k hk => h k (List.mem_cons_of_mem _ hk)]
        simp only [e, Function.comp_apply]
    exact aux _ fun m hm => List.mem_range.mp hm
  rw [e, PySem.W.krv_range, List.filterMap_reverse, PySem.W.krv_all]
theorem getItem_tuple_rev {t sl : Addr} {items : Array Value} {vl vu vs : Value} {Q : Value → Shared → Prop} (ht : IsTup s.heap t items) (hs : s.heap.IsSliceOf sl vl vu vs) (pl : IsPart vl none) (pu : IsPart vu none) (ps : IsPart vs (some (-1)))
    (h : Q (.ref s.heap.objs.size) { s with heap := s.heap.push { cls := .type "tuple", data := .seq items.toList.reverse.toArray } }) (hsz : items.size ≤ sizeLine) : wpAny (model prog w) A (getItem (.ref t) (.ref sl)) Q E s := by
  have hsz2 : sizeOk (.seq items.toList.reverse.toArray) := by
    show items.toList.reverse.toArray.size ≤ sizeLine
    rw [List.size_toArray, List.length_reverse, Array.length_toList]
    exact hsz
  obtain ⟨os, hos, hcs, hds⟩ := id hs
  have hTs : s.TypeIs (.ref sl) "slice" := ⟨os, hos, hcs⟩
  unfold getItem
  try with_reducible refine wpAny_holding ?_
  first | refine wpAny_bind (wpAny_pure ?_) | skip
  refine wpAny_bind (wpAny_sequenceKey ht.typeIs (by decide) ?_)
  refine wpAny_bind (wpAny_callSpecial?_slot (name := Str.ofString "__getitem__") ht.typeIs PyProof.Rows.slot_tuple_getitem
    (wpAny_call_entry PyProof.Rows.slot_tuple_getitem ht.typeIs PySem.F.entry_tuple_getitem ?_ (PySem.F.args_tuple_getitem_2 _ _)))
  show wpAny _ _ (Builtin.Tuple.tupleItemsOf (.ref t) >>= _) _ _ s
  refine wpAny_bind (PyProof.Rows.tupleItemsOf_ ht ?_)
  refine wpAny_bind (wpAny_typeOf hTs ?_)
  rw [if_pos (by decide)]
  refine wpAny_bind (applied_rev hs pl pu ps ?_)
  have hno : ¬ ((((items.size : Int) - 1) == 0 && (-1 : Int) == 1 && items.size == items.size) = true) := by
    intro q
    rw [Bool.and_eq_true, Bool.and_eq_true] at q
    exact absurd q.1.2 (by decide)
  show wpAny _ _ (if (((items.size : Int) - 1) == 0 && (-1 : Int) == 1 && items.size == items.size) = true then _ else _) _ _ s
  rw [if_neg hno, rev_items]
  first
    | exact wpAny_bind (m := Builtin.Tuple.tupleExact _) (wpAny_newObj_type (wpAny_pure ⟨_, rfl, wpAny_pure h⟩) hsz2)
    | exact wpAny_bind (m := Builtin.Tuple.tupleExact _) (wpAny_newObj_type (wpAny_bind (wpAny_pure (wpAny_pure ⟨_, rfl, wpAny_pure h⟩))) hsz2)
    | exact wpAny_bind (wpAny_bind (m := Builtin.Tuple.tupleExact _) (wpAny_newObj_type (wpAny_pure (wpAny_pure ⟨_, rfl, wpAny_pure h⟩)) hsz2))
    | exact wpAny_bind (wpAny_bind (m := Builtin.Tuple.tupleExact _) (wpAny_newObj_type (wpAny_pure ⟨_, rfl, wpAny_pure h⟩) hsz2))
end
theorem pe_sliceS {X : Cx} {te : TE} {tl th ts : TO} (he : PE X a te) (hl : PO X lo tl) (hu : PO X hi th) (hst : PO X (some c) ts) : PE X (.Subscript a (.Slice lo hi (some c) p2) pos)
    (fun σ H Q => te σ H fun x H1 => tl σ H1 fun l H2 => th σ H2 fun u H3 => ts σ H3 fun z H4 => ∃ st, z = some st ∧ rSlS X.K x l u st H4 Q) := by
  refine ⟨fun pins s σ H Q I h => ?_⟩
  refine Subscript_ (thn (he.run pins s σ H _ I h) fun v s1 ⟨x, H1, I1, r1, q1⟩ => ?_)
  refine wpAny_Slice (thn (hl.run pins s1 σ H1 _ I1 q1) fun vl s2 ⟨l, H2, I2, pl, q2⟩ => thn (hu.run pins s2 σ H2 _ I2 q2) fun vu s3 ⟨u, H3, I3, pu, q3⟩ => thn (hst.run pins s3 σ H3 _ I3 q3) fun vs s4 ⟨o, H4, I4, ps, q4⟩ => ?_)
  obtain ⟨st, rfl, h0, q⟩ := q4
  have I5 : Inv X pins σ H4 { s4 with heap := s4.heap.push { cls := .type "slice", data := .fields #[vl, vu, vs] } } := I4.kept (t' := s4.toks) fun b ob q => Heap.get?_push_of_some _ q
  show wpAny (model X.prog X.w) X.A (subscriptTail a (.Slice lo hi (some c) p2) v (.ref s4.heap.objs.size)) (EP X pins σ Q) X.xe { s4 with heap := s4.heap.push { cls := .type "slice", data := .fields #[vl, vu, vs] } }
  rcases q with ⟨p, xs, rfl, hx, q⟩ | ⟨p, xs, rfl, hx, rfl, rfl, rfl, q⟩
  · cases r1
    obtain ⟨its, r, ht, hz⟩ := I5.list hx
    have hlen := r.length
    refine tail_any (ops := [.ref p, .ref s4.heap.objs.size]) ht.isList.typeIs (PySem.slot_list_getitem.lookup) ?_ (by with_unfolding_all rfl)
    refine wpAny_getItem_list_slice ht.isList (Heap.IsSliceOf.new _ vl vu vs) pl pu ps (fun z => h0 (Option.some.inj z)) ?_ (by rw [List.size_toArray]; omega)
    rw [pick_arr]
    refine ⟨.ref _, _, I5.laid (t' := s4.toks) (o := .lst (pickG xs l u st)) (fun b ob q => Heap.get?_push_of_some _ q) (Nat.le_refl _) ?_, rfl, q _ (I5.hok.fresh (Nat.le_refl _))⟩
    exact ⟨Nat.le_trans (pickG_len h0) hz, _, 0, Vals.pickG r l u st, Heap.get?_push_size _ rfl⟩
  · cases r1
    obtain ⟨its, r, ht, hz⟩ := I5.tuple hx
    have hlen := r.length
    refine tail_any (ops := [.ref p, .ref s4.heap.objs.size]) ht.typeIs PyProof.Rows.slot_tuple_getitem.lookup ?_ (by with_unfolding_all rfl)
    refine getItem_tuple_rev ht (Heap.IsSliceOf.new _ vl vu vs) pl pu ps ?_ (by rw [List.size_toArray]; omega)
    refine ⟨.ref _, _, I5.laid (t' := s4.toks) (o := .tup xs.reverse) (fun b ob q => Heap.get?_push_of_some _ q) (Nat.le_refl _) ?_, rfl, q _ (I5.hok.fresh (Nat.le_refl _))⟩
    exact ⟨by rw [List.length_reverse]; exact hz, _, r.reverse, IsTup.new _ _⟩
theorem de_sliceS {tcc : DTO} (ha : DE g a ta) (hl : DO g lo tl) (hh : DO g hi th) (hc : DO g (some c) tcc) : DE g (.Subscript a (.Slice lo hi (some c) p2) pos) (dSliS ta tl th tcc) := by
  obtain ⟨tl', pl, kl⟩ := hl.po
  obtain ⟨th', ph, kh⟩ := hh.po
  obtain ⟨tc', pc, kc⟩ := hc.po
  refine DE.of (pe_sliceS ha.pe pl ph pc) fun σ H e M Q sl mr fr q => ?_
  refine low_start sl mr fr q fun v d M1 H1 i m f q => ?_
  refine kl σ H1 e M1 _ _ (sl.ext (f.ext mr)) m (fr.trans f) q fun l M2 H2 m2 f2 q => ?_
  have f12 := f.trans f2
  refine kh σ H2 e M2 _ _ (sl.ext (f12.ext mr)) m2 (fr.trans f12) q fun u M3 H3 m3 f3 q => ?_
  have f13 := f12.trans f3
  refine kc σ H3 e M3 _ _ (sl.ext (f13.ext mr)) m3 (fr.trans f13) q fun o M4 H4 m4 f4 q => ?_
  have f14 := f13.trans f4
  cases o with
  | none => exact q.elim
  | some st =>
    obtain ⟨h0, q⟩ := q
    have i4 := Is.ext (((f2.trans f3).trans f4).ext m) _ _ i
    refine ⟨st, rfl, h0, ?_⟩
    cases d with
    | rl xs =>
      rw [is_rl] at i4
      obtain ⟨p, vs, rfl, h1, l1⟩ := i4
      exact .inl ⟨p, vs, rfl, h1.sq, Fin.newL fin_low m4 f14 (IsL.pickG l1 l u st) q⟩
    | ref p =>
      rw [is_ref] at i4
      subst i4
      obtain ⟨xs, hM, q⟩ := q
      obtain ⟨vs, hH, l1⟩ := m4 p _ hM
      exact .inl ⟨p, vs, rfl, SqL.of hH, Fin.newL fin_low m4 f14 (IsL.pickG l1 l u st) q⟩
    | tup xs =>
      rw [is_tup] at i4
      obtain ⟨p, vs, rfl, h1, l1⟩ := i4
      obtain ⟨e1, e2, e3, q⟩ := q
      exact .inr ⟨p, vs, rfl, SqT.of h1, e1, e2, e3, Fin.newT fin_low m4 f14 l1.reverse q⟩
    | _ => exact q.elim
end
end DL

/-! Sets of keys, made of a list or a tuple. -/
namespace DL
open PySem PySem.Spec PyProof.Rows L2
/-- each once, as they come -/
def dstep {κ : Type} [DecidableEq κ] (l : List κ) (x : κ) : List κ := if x ∈ l then l else l ++ [x]
def ddup {κ : Type} [DecidableEq κ] (xs : List κ) : List κ := xs.foldl dstep []
def memB {κ : Type} [DecidableEq κ] (y : κ) (l : List κ) : Bool := decide (y ∈ l)
theorem memB_iff {κ : Type} [DecidableEq κ] {y : κ} {l : List κ} : memB y l = true ↔ y ∈ l := by unfold memB; exact decide_eq_true_iff
section
variable {κ : Type} [DecidableEq κ]
theorem mem_dstep {l : List κ} {x y : κ} : y ∈ dstep l x ↔ y ∈ l ∨ y = x := by
  unfold dstep
  split
  · rename_i h
    exact ⟨.inl, fun z => z.elim id fun e => e ▸ h⟩
  · simp
theorem foldl_dstep (xs : List κ) : ∀ l : List κ, (∀ y, y ∈ xs.foldl dstep l ↔ y ∈ l ∨ y ∈ xs) ∧ (l.Nodup → (xs.foldl dstep l).Nodup) ∧ (xs.foldl dstep l).length ≤ l.length + xs.length := by
  induction xs with
  | nil => intro l; exact ⟨fun y => by simp, id, by simp⟩
  | cons x xs ih =>
    intro l
    obtain ⟨h1, h2, h3⟩ := ih (dstep l x)
    refine ⟨fun y => ?_, fun h => h2 ?_, ?_⟩
    · rw [List.foldl_cons, h1, mem_dstep, List.mem_cons, or_assoc]
    · unfold dstep
      split
      · exact h
      · rename_i hx
        rw [List.nodup_append]
        exact ⟨h, by simp, fun a ha b hb => by rw [List.mem_singleton] at hb; subst hb; intro e; subst e; exact hx ha⟩
    · have : (dstep l x).length ≤ l.length + 1 := by
        unfold dstep
        split <;> simp
      rw [List.foldl_cons, List.length_cons]
      omega
theorem mem_ddup {xs : List κ} {y : κ} : y ∈ ddup xs ↔ y ∈ xs := by rw [ddup, (foldl_dstep xs []).1]; simp
theorem nodup_ddup (xs : List κ) : (ddup xs).Nodup := (foldl_dstep xs []).2.1 List.nodup_nil
theorem ddup_le (xs : List κ) : (ddup xs).length ≤ xs.length := by
  have h := (foldl_dstep xs []).2.2
  rw [List.length_nil, Nat.zero_add] at h
  exact h
theorem ddup_snoc (xs : List κ) (x : κ) : ddup (xs ++ [x]) = dstep (ddup xs) x := by unfold ddup; rw [List.foldl_append]; rfl
theorem ddup_of_nodup : ∀ {xs : List κ}, xs.Nodup → ddup xs = xs := by
  intro xs
  have key : ∀ (ys l : List κ), (l ++ ys).Nodup → ys.foldl dstep l = l ++ ys := by
    intro ys
    induction ys with
    | nil => intro l _; simp
    | cons y ys ih =>
      intro l h
      have hy : y ∉ l := fun z => by
        rw [List.nodup_append] at h
        exact h.2.2 y z y (by simp) rfl
      rw [List.foldl_cons]
      have e : dstep l y = l ++ [y] := by unfold dstep; rw [if_neg hy]
      rw [e, ih _ (by rw [List.append_assoc]; exact h), List.append_assoc]; rfl
  intro h
  exact key xs [] h
theorem nodup_len_le : ∀ (l m : List κ), l.Nodup → (∀ x ∈ l, x ∈ m) → l.length ≤ m.length
  | [], _, _, _ => Nat.zero_le _
  | x :: l, m, h, s => by
    rw [List.nodup_cons] at h
    have ih := nodup_len_le l (m.erase x) h.2 fun y hy => (List.mem_erase_of_ne (fun e : y = x => h.1 (e ▸ hy))).mpr (s y (List.mem_cons_of_mem _ hy))
    have hx := s x List.mem_cons_self
    rw [List.length_erase_of_mem hx] at ih
    have := List.length_pos_of_mem hx
    rw [List.length_cons]
    omega
/-- as many: all unlike -/
theorem ddup_len {xs : List κ} : (ddup xs).length = xs.length ↔ xs.Nodup := by
  refine ⟨fun h => ?_, fun h => by rw [ddup_of_nodup h]⟩
  induction xs with
  | nil => exact List.nodup_nil
  | cons x xs ih =>
    by_cases hx : x ∈ xs
    · exfalso
      have : (ddup (x :: xs)).length ≤ xs.length := by
        refine nodup_len_le _ _ (nodup_ddup _) fun y hy => ?_
        rw [mem_ddup, List.mem_cons] at hy
        exact hy.elim (fun e => e ▸ hx) id
      rw [List.length_cons] at h
      omega
    · rw [List.nodup_cons]
      refine ⟨hx, ih ?_⟩
      have h1 : (ddup (x :: xs)).length ≤ (x :: ddup xs).length := nodup_len_le _ _ (nodup_ddup _) fun y hy => by
        rw [mem_ddup, List.mem_cons] at hy
        rw [List.mem_cons, mem_ddup]
        exact hy
      rw [List.length_cons] at h h1
      have := ddup_le xs
      omega
end
/-- the values are these keys -/
def KeysAre {prog : Program} {w : World} {κ : Type} [DecidableEq κ] (knd : KeyKind prog w κ) (us : List Value) (xs : List κ) : Prop := us.length = xs.length ∧ ∀ (i : Nat) (v : Value), us[i]? = some v → ∃ k, xs[i]? = some k ∧ knd.is k v = true ∧ v.scannable = true
abbrev setO (led : Bool) : Obj := { cls := .type "set", dict := none, data := .set #[] 0 (.fresh 0 0 led) }
section
variable {prog : Program} {w : World} {κ : Type} [DecidableEq κ] {knd : KeyKind prog w κ} {A : Around} {R : Result → Shared → Prop} {it : Addr} {fp wr : List Addr} {G : Array GenState → Array GenState → Prop} {n : Nat} {P : Nat → Value → Prop} {St : Nat → Shared → Prop}
theorem setOf_eq {h : Heap} {a : Addr} {S S' : κ → Bool} {m m' : Nat} (q : h.SetOf knd a S m) (e : ∀ k, S k = S' k) (en : m = m') : h.SetOf knd a S' m' := by
  obtain rfl : S = S' := funext e
  subst en
  exact q
theorem loopKey (W : WalksS prog w A.in1 it fp wr G n P St) (D : Addr) (hDf : D ∉ fp) (xs : List κ) (hn : xs.length = n) (hb : n + 1 < scanBound)
    (hval : ∀ i v, P i v → ∃ k, xs[i]? = some k ∧ knd.is k v = true ∧ v.scannable = true) :
    ∀ (m i : Nat) (s : Shared), n - i = m → i ≤ n → St i s → s.heap.SetOf knd D (fun y => memB y (ddup (xs.take i))) (ddup (xs.take i)).length →
      (∀ s', Moved (D :: wr) G s s' → s'.heap.SetOf knd D (fun y => memB y (ddup xs)) (ddup xs).length → R (.ok (.ret .none)) s') →
      codeAny (model prog w) A (.builtin "set.update.loop" ⟨[.ref D, .ref it], []⟩) R s := by
  have nDw : D ∉ wr := fun h => hDf (W.sub _ h)
  have wsub : ∀ b ∈ wr, b ∈ D :: wr := fun b h => List.mem_cons_of_mem _ h
  intro m
  induction m with
  | zero =>
    intro i s hm hi st hS fin
    obtain rfl : i = n := by omega
    rw [← hn, List.take_length] at hS
    refine codeAny_builtin PyProof.Rows.F.entry_set_update_loop ?_
    rw [Around.under_plainId PyProof.Rows.F.plain_set_update_loop _]
    show wpAny _ A.in1 (pyNext (.ref it) >>= _) _ _ s
    refine wpAny_bind (W.done s _ _ st fun s' mv => ?_)
    show wpAny _ A.in1 (ret Value.none) _ _ s'
    refine wpAny_pure (fin s' (mv.mono wsub) ?_)
    obtain ⟨o, es, ep, tb, ho, q⟩ := hS
    exact ⟨o, es, ep, tb, mv.heap D _ nDw ho, q⟩
  | succ m ih =>
    intro i s hm hi st hS fin
    have lt : i < n := by omega
    refine codeAny_builtin PyProof.Rows.F.entry_set_update_loop ?_
    rw [Around.under_plainId PyProof.Rows.F.plain_set_update_loop _]
    show wpAny _ A.in1 (pyNext (.ref it) >>= _) _ _ s
    refine wpAny_bind (W.item i s _ _ lt st fun v s' hP st' mv => ?_)
    obtain ⟨k, hk, kis, sc⟩ := hval i v hP
    have hS' : s'.heap.SetOf knd D (fun y => memB y (ddup (xs.take i))) (ddup (xs.take i)).length := by
      obtain ⟨o, es, ep, tb, ho, q⟩ := hS
      exact ⟨o, es, ep, tb, mv.heap D _ nDw ho, q⟩
    show wpAny _ A.in1 (holding [v] (setAdd D v) >>= _) _ _ s'
    refine wpAny_bind (wpAny_holding ?_)
    unfold setAdd
    refine wpAny_holding ?_
    refine wpAny_bind (knd.pyHash (k := k) kis ?_)
    have room : (ddup (xs.take i)).length + 1 < scanBound := by
      have := ddup_le (xs.take i)
      rw [List.length_take] at this
      omega
    refine wpAny_setAddHashed_of (knd := knd) (s := { s' with toks := s'.toks + 1 }) kis sc hS' room fun h' same hS2 => ?_
    have e1 : ddup (xs.take (i + 1)) = dstep (ddup (xs.take i)) k := by
      rw [List.take_add_one, hk]
      exact ddup_snoc _ _
    have hS3 : h'.SetOf knd D (fun y => memB y (ddup (xs.take (i + 1)))) (ddup (xs.take (i + 1))).length := by
      refine setOf_eq hS2 (fun y => ?_) ?_
      · rw [e1, Bool.eq_iff_iff]
        rw [Bool.or_eq_true, memB_iff, memB_iff, decide_eq_true_eq]
        exact mem_dstep.symm
      · rw [e1]
        unfold dstep
        by_cases hc : k ∈ ddup (xs.take i)
        · rw [if_pos hc, if_pos (memB_iff.mpr hc)]
        · rw [if_neg hc, if_neg (fun z => hc (memB_iff.mp z)), List.length_append, List.length_singleton]
    refine wpAny_pure ⟨plainId_quiet PyProof.Rows.F.plain_set_update_loop _, ih (i + 1) _ (by omega) lt (W.frame _ s' _ _ st' (Nat.le_succ _) fun b hbf o e => ?_) hS3 fun s2 mv2 hSS => ?_⟩
    · rw [same.2 b (fun z : b = D => hDf (z ▸ hbf))]; exact e
    · refine fin s2 (Moved.trans W.gtrans ((mv.mono wsub).then_heap (Nat.le_succ _) fun b o hbf e => ?_) mv2) hSS
      rw [same.2 b (fun z : b = D => hbf (z ▸ List.mem_cons_self))]; exact e
end
section
variable {prog : Program} {w : World} {κ : Type} [DecidableEq κ] {knd : KeyKind prog w κ} {A : Around} {E : Value → Shared → Prop} {s : Shared}
theorem set_of_list {l : Addr} {its : Array Value} {xs : List κ} {Q : Value → Shared → Prop} (hA : A.handled = none) (hl : s.heap.IsList l its) (hi : KeysAre knd its.toList xs) (hb : xs.length + 1 < scanBound)
    (h : ∀ (h' : Heap) (tk : Nat), h'.SetOf knd s.heap.objs.size (fun y => memB y (ddup xs)) (ddup xs).length → (∀ b o, b < s.heap.objs.size → s.heap.get? b = some o → h'.get? b = some o) → Q (.ref s.heap.objs.size) { s with heap := h', toks := tk }) :
    wpAny (model prog w) A (call (.type "set") [.ref l]) Q E s := by
  obtain ⟨cc, tl, hmro⟩ := PySem.F.called_set.mro
  have hmade := PySem.F.called_set.made
  have hsub := PySem.F.called_set.sub
  refine wpAny_call (codeAny_of_tree ?_)
  show wpAny _ _ (callAny (.type "set") _) _ _ _
  refine wpAny_pure ⟨Code.quiet_builtin _ (by decide +kernel), codeAny_builtin PySem.F.entry_type_call ?_⟩
  rw [Around.under_plain (weight_type_call_type "set" [.ref l] []) rfl]
  have q1 := PySem.F.called_set.notType
  have q2 := PySem.F.called_set.canCreate
  have q3 := PySem.F.typeCall_set_1 (.ref l)
  repeat (any_goals (first | assumption | wp_step))
  refine codeAny_mono (code_set_new_1 (.ref l) (E := E) (Q₁ := fun obj z => ∃ led : Bool, obj = .ref s.heap.objs.size ∧ z = { s with heap := s.heap.push (setO led) }) fun led => ⟨led, rfl, rfl⟩) fun r z hr => ?_
  cases r with
  | error e => exact hr
  | ok fl =>
    cases fl with
    | ret obj =>
      obtain ⟨led, rfl, rfl⟩ := hr
      have hS : (s.heap.push (setO led)).get? s.heap.objs.size = some (setO led) := Heap.get?_push_size _ rfl
      have hT : Shared.TypeIs { s with heap := s.heap.push (setO led) } (.ref s.heap.objs.size) "set" := ⟨_, hS, rfl⟩
      have q4 := PySem.F.called_set.init.lookup
      have q5 := PySem.F.called_set.init.bind (.ref s.heap.objs.size)
      repeat (any_goals (first | assumption | wp_step))
      refine codeAny_mono (codeAny_call_builtin (R := wants (fun r z => r = .none ∧ ∃ h' tk, z = { s with heap := h', toks := tk } ∧ h'.SetOf knd s.heap.objs.size (fun y => memB y (ddup xs)) (ddup xs).length ∧ (∀ b o, b < s.heap.objs.size → s.heap.get? b = some o → h'.get? b = some o)) E)
        PySem.F.called_set.init.plain PySem.F.entry_set_init (check_set_init_1 hT ?_)) fun r2 z hr2 => ?_
      · obtain ⟨ol, hol, hcl, nl, hdl⟩ := hl
        obtain ⟨ocls, odict, odata, oslots⟩ := ol
        simp only at hcl hdl
        subst hcl; subst hdl
        have hol' : (s.heap.push (setO led)).get? l = some { cls := .type "list", dict := odict, data := .seq its nl, slots := oslots } := Heap.get?_push_of_some _ hol
        have q6 := PySem.F.sub_list_set
        have q7 := PySem.F.sub_list_frozenset
        have q8 : (Value.type "list" == Value.type "dict") = false := by decide
        have hl1 : (s.heap.push (setO led)).IsList l its := ⟨_, hol', rfl, nl, rfl⟩
        unfold Builtin.«set.__init__» noKeywords Builtin.Frozenset.updateFrom
        generalize hPI : pyIter = PI
        wp_walk
        subst hPI
        refine wpAny_pyIter_list hl1 ?_
        refine wpAny_bind (wpAny_runValue ?_)
        have lS : l < s.heap.objs.size := Heap.lt_size hol
        have hA3 : A.in1.in1.in1.handled = none := by simp [hA]
        have sz : (s.heap.push (setO led)).objs.size = s.heap.objs.size + 1 := Heap.size_push _ _
        have neI : l ≠ (s.heap.push (setO led)).objs.size := by rw [sz]; exact Nat.ne_of_lt (Nat.lt_succ_of_lt lS)
        have nDf : s.heap.objs.size ∉ [(s.heap.push (setO led)).objs.size, l] := by
          rw [sz]
          simp only [List.mem_cons, List.not_mem_nil, or_false, not_or]
          exact ⟨Nat.ne_of_lt (Nat.lt_succ_self _), Nat.ne_of_gt lS⟩
        refine loopKey (knd := knd) ((Walks.list hA3 _ l neI its).toS) s.heap.objs.size nDf xs (by rw [← hi.1, Array.length_toList]) (by rw [← Array.length_toList, hi.1]; exact hb)
          (fun i v hv => hi.2 i v (by rw [Array.getElem?_toList]; exact hv)) (its.size - 0) 0 _ (by omega) (Nat.zero_le _) ⟨⟨_, Heap.get?_push_size _ rfl, rfl, rfl⟩, (hl1.push _)⟩ ?c0 ?cR
        case c0 =>
          have hg : ((s.heap.push (setO led)).push { cls := .type "list_iterator", data := .fields #[.ref l, .int 0 0] }).get? s.heap.objs.size = some (setO led) := Heap.get?_push_of_some _ hS
          exact setOf_eq ((PyProof.Rows.setObjOf_fresh (knd := knd) led).setOf hg (by unfold scanBound; omega)) (fun _ => rfl) rfl
        case cR =>
          intro z mv hSS
          obtain ⟨h', g', d', tk', os'⟩ := z
          obtain rfl : g' = s.gens := mv.gens
          obtain rfl : d' = s.drawn := mv.drawn
          obtain rfl : os' = s.os := mv.os
          show wpAny _ _ _ _ _ _
          refine wpAny_pure ?_
          show wpAny _ _ (ret Value.none) _ _ _
          refine wpAny_pure ⟨rfl, h', tk', rfl, hSS, fun b o hbl e => mv.heap b o ?_ (Heap.get?_push_of_some _ (Heap.get?_push_of_some _ e))⟩
          rw [sz]
          simp only [List.mem_cons, List.not_mem_nil, or_false, not_or]
          exact ⟨Nat.ne_of_lt hbl, Nat.ne_of_lt (Nat.lt_succ_of_lt hbl)⟩
      · cases r2 with
        | error e => exact hr2
        | ok fl2 =>
          cases fl2 with
          | ret r =>
            obtain ⟨rfl, h', tk, rfl, hSS, hk⟩ := hr2
            repeat (any_goals (first | assumption | wp_step))
            exact h _ _ hSS hk
          | _ => exact hr2.elim
    | _ => exact hr.elim
theorem set_of_tuple {l : Addr} {its : Array Value} {xs : List κ} {Q : Value → Shared → Prop} (hA : A.handled = none) (hl : s.heap.IsTuple l its) (hi : KeysAre knd its.toList xs) (hb : xs.length + 1 < scanBound)
    (h : ∀ (h' : Heap) (tk : Nat), h'.SetOf knd s.heap.objs.size (fun y => memB y (ddup xs)) (ddup xs).length → (∀ b o, b < s.heap.objs.size → s.heap.get? b = some o → h'.get? b = some o) → Q (.ref s.heap.objs.size) { s with heap := h', toks := tk }) :
    wpAny (model prog w) A (call (.type "set") [.ref l]) Q E s := by
  obtain ⟨cc, tl, hmro⟩ := PySem.F.called_set.mro
  have hmade := PySem.F.called_set.made
  have hsub := PySem.F.called_set.sub
  refine wpAny_call (codeAny_of_tree ?_)
  show wpAny _ _ (callAny (.type "set") _) _ _ _
  refine wpAny_pure ⟨Code.quiet_builtin _ (by decide +kernel), codeAny_builtin PySem.F.entry_type_call ?_⟩
  rw [Around.under_plain (weight_type_call_type "set" [.ref l] []) rfl]
  have q1 := PySem.F.called_set.notType
  have q2 := PySem.F.called_set.canCreate
  have q3 := PySem.F.typeCall_set_1 (.ref l)
  repeat (any_goals (first | assumption | wp_step))
  refine codeAny_mono (code_set_new_1 (.ref l) (E := E) (Q₁ := fun obj z => ∃ led : Bool, obj = .ref s.heap.objs.size ∧ z = { s with heap := s.heap.push (setO led) }) fun led => ⟨led, rfl, rfl⟩) fun r z hr => ?_
  cases r with
  | error e => exact hr
  | ok fl =>
    cases fl with
    | ret obj =>
      obtain ⟨led, rfl, rfl⟩ := hr
      have hS : (s.heap.push (setO led)).get? s.heap.objs.size = some (setO led) := Heap.get?_push_size _ rfl
      have hT : Shared.TypeIs { s with heap := s.heap.push (setO led) } (.ref s.heap.objs.size) "set" := ⟨_, hS, rfl⟩
      have q4 := PySem.F.called_set.init.lookup
      have q5 := PySem.F.called_set.init.bind (.ref s.heap.objs.size)
      repeat (any_goals (first | assumption | wp_step))
      refine codeAny_mono (codeAny_call_builtin (R := wants (fun r z => r = .none ∧ ∃ h' tk, z = { s with heap := h', toks := tk } ∧ h'.SetOf knd s.heap.objs.size (fun y => memB y (ddup xs)) (ddup xs).length ∧ (∀ b o, b < s.heap.objs.size → s.heap.get? b = some o → h'.get? b = some o)) E)
        PySem.F.called_set.init.plain PySem.F.entry_set_init (check_set_init_1 hT ?_)) fun r2 z hr2 => ?_
      · obtain ⟨ol, hol, hcl, nl, hdl⟩ := hl
        obtain ⟨ocls, odict, odata, oslots⟩ := ol
        simp only at hcl hdl
        subst hcl; subst hdl
        have hol' : (s.heap.push (setO led)).get? l = some { cls := .type "tuple", dict := odict, data := .seq its nl, slots := oslots } := Heap.get?_push_of_some _ hol
        have q6 := PySem.F.sub_tuple_set
        have q7 := PySem.F.sub_tuple_frozenset
        have q8 : (Value.type "tuple" == Value.type "dict") = false := by decide
        have hl1 : (s.heap.push (setO led)).IsTuple l its := ⟨_, hol', rfl, nl, rfl⟩
        unfold Builtin.«set.__init__» noKeywords Builtin.Frozenset.updateFrom
        generalize hPI : pyIter = PI
        wp_walk
        subst hPI
        refine wpAny_pyIter_tuple hl1 ?_
        refine wpAny_bind (wpAny_runValue ?_)
        have lS : l < s.heap.objs.size := Heap.lt_size hol
        have hA3 : A.in1.in1.in1.handled = none := by simp [hA]
        have sz : (s.heap.push (setO led)).objs.size = s.heap.objs.size + 1 := Heap.size_push _ _
        have neI : l ≠ (s.heap.push (setO led)).objs.size := by rw [sz]; exact Nat.ne_of_lt (Nat.lt_succ_of_lt lS)
        have nDf : s.heap.objs.size ∉ [(s.heap.push (setO led)).objs.size, l] := by
          rw [sz]
          simp only [List.mem_cons, List.not_mem_nil, or_false, not_or]
          exact ⟨Nat.ne_of_lt (Nat.lt_succ_self _), Nat.ne_of_gt lS⟩
        refine loopKey (knd := knd) ((Walks.tuple hA3 _ l neI its).toS) s.heap.objs.size nDf xs (by rw [← hi.1, Array.length_toList]) (by rw [← Array.length_toList, hi.1]; exact hb)
          (fun i v hv => hi.2 i v (by rw [Array.getElem?_toList]; exact hv)) (its.size - 0) 0 _ (by omega) (Nat.zero_le _) ⟨⟨_, Heap.get?_push_size _ rfl, rfl, rfl⟩, (hl1.push _)⟩ ?c0 ?cR
        case c0 =>
          have hg : ((s.heap.push (setO led)).push { cls := .type "tuple_iterator", data := .fields #[.ref l, .int 0 0] }).get? s.heap.objs.size = some (setO led) := Heap.get?_push_of_some _ hS
          exact setOf_eq ((PyProof.Rows.setObjOf_fresh (knd := knd) led).setOf hg (by unfold scanBound; omega)) (fun _ => rfl) rfl
        case cR =>
          intro z mv hSS
          obtain ⟨h', g', d', tk', os'⟩ := z
          obtain rfl : g' = s.gens := mv.gens
          obtain rfl : d' = s.drawn := mv.drawn
          obtain rfl : os' = s.os := mv.os
          show wpAny _ _ _ _ _ _
          refine wpAny_pure ?_
          show wpAny _ _ (ret Value.none) _ _ _
          refine wpAny_pure ⟨rfl, h', tk', rfl, hSS, fun b o hbl e => mv.heap b o ?_ (Heap.get?_push_of_some _ (Heap.get?_push_of_some _ e))⟩
          rw [sz]
          simp only [List.mem_cons, List.not_mem_nil, or_false, not_or]
          exact ⟨Nat.ne_of_lt hbl, Nat.ne_of_lt (Nat.lt_succ_of_lt hbl)⟩
      · cases r2 with
        | error e => exact hr2
        | ok fl2 =>
          cases fl2 with
          | ret r =>
            obtain ⟨rfl, h', tk, rfl, hSS, hk⟩ := hr2
            repeat (any_goals (first | assumption | wp_step))
            exact h _ _ hSS hk
          | _ => exact hr2.elim
    | _ => exact hr.elim
end
end DL

/-! Dicts: of pairs, got and set; how many unlike keys. -/
namespace DL
open PySem PySem.Spec PyProof.Rows L2
def keyV : Key → D
  | .inl i => .int i
  | .inr s => .str s
theorem keyD_V (k : Key) : keyD (keyV k) = some k := by cases k <;> rfl
theorem is_keyV {K : PySem.W.Frag} {H : Hp} (k : Key) {v : V} : Is K H (keyV k) v ↔ v = kV k := by
  cases k with
  | inl i => exact is_int
  | inr s => exact is_str
def mergeG {α : Type} (kvs more : List (Key × α)) : List (Key × α) := more.foldl (fun acc kv => putG acc kv.1 kv.2) kvs
theorem KRel.merge {K : PySem.W.Frag} {H : Hp} : ∀ {more : List (Key × D)} {ms : List (Key × V)} {kvs : List (Key × D)} {ws : List (Key × V)}, KRel K H more ms → KRel K H kvs ws → KRel K H (mergeG kvs more) (mergeK ws ms)
  | [], ms, kvs, ws, h, h2 => by
    have := h.nil_of
    subst this
    exact h2
  | (k, d) :: more, ms, kvs, ws, h, h2 => by
    obtain ⟨v, r, rfl, i, t⟩ := h.inv
    exact KRel.merge (kvs := putG kvs k d) (ws := putK ws k v) t (h2.put i)
/-- pairs laid as tuples -/
def pairD (kv : Key × D) : D := .tup [keyV kv.1, kv.2]
theorem isL_pairs {K : PySem.W.Frag} {H : Hp} : ∀ {kvs : List (Key × D)} {vs : List V}, IsL K H (kvs.map pairD) vs → ∃ (ps : List Addr) (ws : List (Key × V)), vs = ps.map V.ref ∧ Paired (fun p kv => SqT K H p [kV kv.1, kv.2]) ps ws ∧ KRel K H kvs ws
  | [], vs, h => by rw [List.map_nil, isL_nil] at h; subst h; exact ⟨[], [], rfl, .nil, KRel.nil⟩
  | (k, d) :: kvs, vs, h => by
    rw [List.map_cons, isL_cons] at h
    obtain ⟨v, r, rfl, i, t⟩ := h
    unfold pairD at i
    rw [is_tup] at i
    obtain ⟨a, us, rfl, h1, l⟩ := i
    rw [isL_cons] at l
    obtain ⟨u1, r1, rfl, i1, l⟩ := l
    rw [isL_cons] at l
    obtain ⟨u2, r2, rfl, i2, l⟩ := l
    rw [isL_nil] at l
    subst l
    rw [is_keyV] at i1
    subst i1
    obtain ⟨ps, ws, rfl, hp, hk⟩ := isL_pairs t
    exact ⟨a :: ps, (k, u2) :: ws, rfl, .cons (SqT.of h1) hp, hk.mk i2⟩

section
variable {X : Cx}
/-- dict(x), x a tuple whose very object is known -/
theorem call_dictTx (hc : X.calm = true) : CallR X (.type "dict") (fun xs H Q => ∃ (a : Addr) (ps : List Addr) (kvs : List (Key × V)), xs = [.ref a] ∧ TxA H a (ps.map V.ref) ∧ Paired (fun p kv => SqT X.K H p [kV kv.1, kv.2]) ps kvs ∧
    ∀ p, H p = none → Q (.ref p) (upd H p (.dK (mergeK [] kvs)))) := by
  intro pins s σ H xs us Q I r q
  obtain ⟨a, ps, kvs, rfl, hq, hp, q⟩ := q
  obtain ⟨u, rfl, rx⟩ := vals1 r
  cases rx
  obtain ⟨o, ho, hd⟩ := hq
  obtain ⟨hg, hz, its, rv, ⟨o2, ho2, hc2, n, hdat⟩⟩ : s.heap.get? a = some o ∧ (ps.map V.ref).length ≤ sizeLine ∧ ∃ its : List Value, Vals (ps.map V.ref) its ∧ IsTup s.heap a its.toArray := I.hok a _ ho
  rw [hg] at ho2
  cases ho2
  obtain rfl := refs_at rv
  rw [List.length_map] at hz
  obtain ⟨prs, rel, hl, hpr⟩ := pairs_of I hp
  have hu : ∀ j (hj : j < prs.length), ∃ u : Value, ∃ b : Addr, ps[j]? = some b ∧ IsTup s.heap b #[u, prs[j].2] ∧ keyIs prs[j].1 u = true := fun j hj => by
    obtain ⟨b, u, e1, e2, e3⟩ := hpr j _ (List.getElem?_eq_getElem hj)
    exact ⟨u, b, e1, e2, e3⟩
  let us : List (Value × Value) := (List.range prs.length).attach.map fun j => (Classical.choose (hu j.1 (List.mem_range.mp j.2)), (prs[j.1]'(List.mem_range.mp j.2)).2)
  have ul : us.length = prs.length := by simp [us]
  have ua : ∀ j (hj : j < prs.length), us[j]? = some (Classical.choose (hu j hj), prs[j].2) := fun j hj => by simp [us, hj]
  have P := PairArg.tuple (prog := X.prog) (w := X.w) a (ps.map Value.ref).toArray (fun j => ps.getD j 0) us
  refine PySem.call_dict_pairs (knd := mixKind X.prog X.w) (kvs := prs) P (I.ok.hd hc) ⟨⟨o, n, hg, hc2, hd, hdat⟩, ?_, fun j k v e => ?_⟩ ⟨ul.symm, fun j k v e => ?_⟩ (by rw [ul, hl]; exact hz) fun h' tk hd' hk => ?_
  · simp [ul, hl]
  · have hj : j < prs.length := by rw [← ul]; exact (List.getElem?_eq_some_iff.mp e).1
    rw [ua j hj] at e
    simp only [Option.some.injEq, Prod.mk.injEq] at e
    obtain ⟨b, e1, e2, e3⟩ := Classical.choose_spec (hu j hj)
    have eb : ps.getD j 0 = b := by rw [List.getD_eq_getElem?_getD, e1]; rfl
    show _ ∧ PairAt s.heap (ps.getD j 0) k v
    rw [eb, ← e.1, ← e.2]
    exact ⟨by simp [e1], .inl e2⟩
  · have hj : j < prs.length := by rw [← ul]; exact (List.getElem?_eq_some_iff.mp e).1
    have e : us[j]? = some (k, v) := e
    rw [ua j hj] at e
    simp only [Option.some.injEq, Prod.mk.injEq] at e
    obtain ⟨b, e1, e2, e3⟩ := Classical.choose_spec (hu j hj)
    exact ⟨prs[j].1, by rw [List.getElem?_eq_getElem hj, ← e.2], by rw [← e.1]; exact e3⟩
  · have hm : (s.heap.objs.size == sysModules) = false := beq_eq_false_iff_ne.mpr (Nat.ne_of_gt I.big)
    have hlen : (mergeK [] kvs).length ≤ sizeLine := by
      have := length_mergeK kvs []
      have := rel.length
      rw [List.length_nil] at *
      omega
    exact ⟨.ref s.heap.objs.size, _, I.laid (t' := tk) (fun b o e => hk b o (by simp) e) (Nat.le_refl _) (show ObjOk X.prog X.w _ _ _ (.dK (mergeK [] kvs)) from ⟨hlen, hm, merged [] prs, KV.merge rel .nil, hd'⟩), rfl, q _ (I.hok.fresh (Nat.le_refl _))⟩
/-- dict(x) of pairs -/
def rDict : RnD := fun ds M Q => match ds with
  | [.tx xs] => ∃ kvs, xs = kvs.map pairD ∧ ∀ p, M p = none → Q (.ref p) (wr M p (.dK (mergeG [] kvs)))
  | [.rl xs] => ∃ kvs, xs = kvs.map pairD ∧ ∀ p, M p = none → Q (.ref p) (wr M p (.dK (mergeG [] kvs)))
  | [.ref a] => ∃ kvs, M a = some (.lst (kvs.map pairD)) ∧ ∀ p, M p = none → Q (.ref p) (wr M p (.dK (mergeG [] kvs)))
  | _ => False
theorem Fin.newK {K : PySem.W.Frag} {M Mo : Mem} {H Ho : Hp} {Q : QE} {QV : VK} (fin : Fin K Mo Ho Q QV) (m : MRel K M H) (f : Fr Mo Ho M H) {kvs : List (Key × D)} {ws : List (Key × V)} (l : KRel K H kvs ws) (q : ∀ p, M p = none → Q (.ref p) (wr M p (.dK kvs))) :
    ∀ p, H p = none → QV (.ref p) (upd H p (.dK ws)) := fun p hp => by
  have hm : M p = none := m.none_of hp
  have q' : MOk K (upd H p (.dK ws)) p (.dK kvs) := ⟨ws, upd_same, l.1, IsL.ext ((fr_new (o := HO.dK ws) m hp).ext m) _ _ l.2⟩
  exact fin _ _ _ _ ii_ref (mr_alloc m hp q') (f.trans (fr_alloc m hp)) (q p hm)
theorem cd_dict (hc : X.calm = true) : CallD X (.type "dict") rDict := by
  refine ⟨_, (call_dictTx hc).or (call_dictP hc), fun M H Mo Ho vs ds Q QV m f l fin q => ?_⟩
  match ds, q with
  | [.tx xs], q =>
    obtain ⟨v, rfl, j⟩ := isL_one l
    rw [is_tx] at j
    obtain ⟨a, ws, rfl, e, l1⟩ := j
    obtain ⟨kvs, rfl, q⟩ := q
    obtain ⟨ps, ws, rfl, hp, hk⟩ := isL_pairs l1
    exact .inl ⟨a, ps, ws, rfl, e, hp, Fin.newK fin m f (KRel.merge hk KRel.nil) q⟩
  | [.rl xs], q =>
    obtain ⟨v, rfl, j⟩ := isL_one l
    rw [is_rl] at j
    obtain ⟨a, ws, rfl, e, l1⟩ := j
    obtain ⟨kvs, rfl, q⟩ := q
    obtain ⟨ps, ws, rfl, hp, hk⟩ := isL_pairs l1
    exact .inr ⟨a, ps, ws, rfl, e.sq, hp, Fin.newK fin m f (KRel.merge hk KRel.nil) q⟩
  | [.ref a], q =>
    obtain ⟨v, rfl, j⟩ := isL_one l
    rw [is_ref] at j
    subst j
    obtain ⟨kvs, h, q⟩ := q
    obtain ⟨ws, e, l1⟩ := m a _ h
    obtain ⟨ps, ws, rfl, hp, hk⟩ := isL_pairs l1
    exact .inr ⟨a, ps, ws, rfl, SqL.of e, hp, Fin.newK fin m f (KRel.merge hk KRel.nil) q⟩
/-! get, setdefault -/
/-- what the dict at a has at x -/
def dAt (M : Mem) (a : Addr) (x : D) (R : Option D → Prop) : Prop := (∃ kvs k, M a = some (.dK kvs) ∧ keyD x = some k ∧ R (valG kvs k)) ∨ ∃ kvs k ks, M a = some (.dT kvs) ∧ x = .tup k ∧ keysD k = some ks ∧ R (valG kvs ks)
theorem dAt_low {K : PySem.W.Frag} {M : Mem} {H : Hp} (m : MRel K M H) {a : Addr} {x : D} {v : V} (i : Is K H x v) {R : Option D → Prop} (q : dAt M a x R) : ∃ (o : Option D) (u : Option V), DGet H a v u ∧ R o ∧ (match o with | some d => ∃ w, u = some w ∧ Is K H d w | none => u = none) := by
  rcases q with ⟨kvs, k, h, hk, q⟩ | ⟨kvs, k, ks, h, rfl, hk, q⟩
  · obtain ⟨ws, e, r⟩ := m a _ h
    have := keyD_is i hk
    subst this
    refine ⟨_, _, DGet.k e, q, ?_⟩
    cases hv : valG kvs k with
    | none => exact KRel.none r hv
    | some d => obtain ⟨w, e1, e2⟩ := KRel.some r hv; exact ⟨w, e1, e2⟩
  · obtain ⟨ws, e, r⟩ := m a _ h
    obtain ⟨b, rfl, eb⟩ := keyTup m i hk
    refine ⟨_, _, DGet.t e eb, q, ?_⟩
    cases hv : valG kvs ks with
    | none => exact KRel.none r hv
    | some d => obtain ⟨w, e1, e2⟩ := KRel.some r hv; exact ⟨w, e1, e2⟩
def mGet : RmD := fun x ds M Q => match x with
  | .ref a => (match ds with
    | [y] => dAt M a y fun o => Q (o.getD .non) M
    | [y, z] => dAt M a y fun o => Q (o.getD z) M
    | _ => False)
  | _ => False
theorem mt_get (hu : X.A.units + 1 < cLine) : MtR X "dict.get" (fun x xs H Q => (∃ a y o, x = .ref a ∧ xs = [y] ∧ DGet H a y o ∧ Q (o.getD .non) H) ∨ ∃ a y z o, x = .ref a ∧ xs = [y, z] ∧ DGet H a y o ∧ Q (o.getD z) H) := by
  intro pins s σ H x xs v us Q I rx r q
  rcases q with ⟨a, y, o, rfl, rfl, g, q⟩ | ⟨a, y, z, o, rfl, rfl, g, q⟩
  · cases rx
    obtain ⟨u, rfl, ry⟩ := vals1 r
    exact d_get1 hu I g ry fun w' s' I' rw' => ⟨_, H, I', rw', q⟩
  · cases rx
    obtain ⟨u, u2, rfl, ry, rz⟩ := vals2 r
    exact d_get2 hu I g ry rz fun w' s' I' rw' => ⟨_, H, I', rw', q⟩
theorem md_get (hu : X.A.units + 1 < cLine) : MtD X "dict" "get" "dict.get" mGet := by
  refine ⟨PySem.F.plainAttrs_dict, PySem.F.slot_dict_get, PySem.F.type_dict_get, _, mt_get hu, fun M H Mo Ho x a vs ds Q QV m f i l fin q => ?_⟩
  cases a with
  | ref p =>
    rw [is_ref] at i
    subst i
    match ds, q with
    | [y], q =>
      obtain ⟨v, rfl, iy⟩ := isL_one l
      have q : dAt M p y fun o => Q (o.getD .non) M := q
      obtain ⟨o, u, g, q, hr⟩ := dAt_low m iy q
      refine .inl ⟨p, v, u, rfl, rfl, g, ?_⟩
      cases o with
      | none => subst hr; exact fin _ _ _ _ ii_non m f q
      | some d => obtain ⟨w, rfl, iw⟩ := hr; exact fin _ _ _ _ iw m f q
    | [y, z], q =>
      obtain ⟨v, v2, rfl, iy, iz⟩ := isL_two l
      have q : dAt M p y fun o => Q (o.getD z) M := q
      obtain ⟨o, u, g, q, hr⟩ := dAt_low m iy q
      refine .inr ⟨p, v, v2, u, rfl, rfl, g, ?_⟩
      cases o with
      | none => subst hr; exact fin _ _ _ _ iz m f q
      | some d => obtain ⟨w, rfl, iw⟩ := hr; exact fin _ _ _ _ iw m f q
  | _ => exact q.elim
def mSetd : RmD := fun x ds M Q => match x with
  | .ref a => (match ds with
    | [y, z] => ∃ kvs k, M a = some (.dK kvs) ∧ keyD y = some k ∧ kvs.length < sizeLine ∧ (match valG kvs k with | some d => Q d M | none => Q z (wr M a (.dK (putG kvs k z))))
    | _ => False)
  | _ => False
theorem mt_setd : MtR X "dict.setdefault" (fun x xs H Q => ∃ (a : Addr) (kvs : List (Key × V)) (k : Key) (z : V), x = .ref a ∧ xs = [kV k, z] ∧ H a = some (.dK kvs) ∧ kvs.length < sizeLine ∧ (∀ v, valV kvs k = some v → Q v H) ∧ (valV kvs k = none → Q z (upd H a (.dK (putK kvs k z))))) := by
  intro pins s σ H x xs v us Q I rx r q
  obtain ⟨a, kvs, k, z, rfl, rfl, e, hl, q1, q2⟩ := q
  cases rx
  obtain ⟨u, u2, rfl, ry, rz⟩ := vals2 r
  exact d_setd I e ry rz hl (fun v hv w' s' I' rw' => ⟨_, H, I', rw', q1 v hv⟩) fun hn w' s' I' rw' => ⟨_, _, I', rw', q2 hn⟩
theorem md_setd : MtD X "dict" "setdefault" "dict.setdefault" mSetd := by
  refine ⟨PySem.F.plainAttrs_dict, PySem.F.slot_dict_setdefault, PySem.F.type_dict_setdefault, _, mt_setd, fun M H Mo Ho x a vs ds Q QV m f i l fin q => ?_⟩
  cases a with
  | ref p =>
    rw [is_ref] at i
    subst i
    match ds, q with
    | [y, z], q =>
      obtain ⟨kvs, k, h, hk, hl, q⟩ := q
      obtain ⟨v, v2, rfl, iy, iz⟩ := isL_two l
      have := keyD_is iy hk
      subst this
      obtain ⟨ws, e, r⟩ := m p _ h
      have r : KRel X.K H kvs ws := r
      refine ⟨p, ws, k, v2, rfl, rfl, e, by rw [KRel.length r]; exact hl, fun v hv => ?_, fun hn => ?_⟩
      · cases hg : valG kvs k with
        | none => rw [KRel.none r hg] at hv; cases hv
        | some d =>
          obtain ⟨w, e1, e2⟩ := KRel.some r hg
          rw [hv] at e1
          cases e1
          rw [hg] at q
          exact fin _ _ _ _ e2 m f q
      · cases hg : valG kvs k with
        | some d =>
          obtain ⟨w, e1, e2⟩ := KRel.some r hg
          rw [hn] at e1
          cases e1
        | none =>
          rw [hg] at q
          have rp := r.put (k := k) iz
          obtain ⟨m2, f2⟩ := set_mem m f h (u' := .dK (putG kvs k z)) (o := .dK (putK ws k v2)) ⟨_, upd_same, rp.1, IsL.ext (ext_write m h) _ _ rp.2⟩
          exact fin _ _ _ _ (Is.ext (ext_write m h) _ _ iz) m2 f2 q
  | _ => exact q.elim
/-! len(set(x)) -/
def tLenK (K : PySem.W.Frag) (ta : TE) : TE := fun σ H Q => ta σ H fun x H1 => ∃ (l : Addr) (ks : List Key), x = V.ref l ∧ (SqL K H1 l (ks.map kV) ∨ SqT K H1 l (ks.map kV)) ∧ ks.length + 1 < scanBound ∧ Q (.int (ddup ks).length) H1
theorem keysAre_of {P : Program} {w : World} : ∀ {ks : List Key} {us : List Value}, Vals (ks.map kV) us → KeysAre (mixKind P w) us ks := by
  intro ks us r
  refine ⟨by rw [← r.length, List.length_map], ?_⟩
  induction ks generalizing us with
  | nil => rw [List.map_nil] at r; cases r; intro i v e; simp at e
  | cons k ks ih =>
    rw [List.map_cons] at r
    cases r with
    | cons h t =>
      intro i v e
      cases i with
      | zero => simp at e; subst e; exact ⟨k, rfl, kV_is h, key_scan h⟩
      | succ i => rw [List.getElem?_cons_succ] at e; exact ih t i v e
theorem pe_lenK {a : Expr} {ta : TE} {p p2 q pos : Pos} (hc : X.calm = true) (hg : Gl X "len") (hm : X.mg "len" = none) (hg2 : Gl X "set") (hm2 : X.mg "set" = none) (ha : PE X a ta) (na : isStar a = false) :
    PE X (.Call (.Name "len" p) [.Call (.Name "set" p2) [a] [] q] [] pos) (tLenK X.K ta) := by
  refine ⟨fun pins s σ H Q I h => ?_⟩
  refine Call_ (ld_blt I hg hm boot_len ?_)
  refine PyProof.Rows.callWith_builtin1 (PyProof.Rows.args_cons ?_ rfl) rfl rfl
  refine Call_ (ld_blt I hg2 hm2 boot_set ?_)
  refine PyProof.Rows.callWith_type1 (PyProof.Rows.args_cons (thn (ha.run pins s σ H _ I h) fun v s1 ⟨x, H1, I1, r1, q1⟩ => PyProof.Rows.args_nil ?_) (star_cons na)) (star_cons na) rfl
  obtain ⟨l, ks, rfl, hq, h1, q1⟩ := q1
  cases r1
  have fin : ∀ (h' : Heap) (tk : Nat), h'.SetOf (mixKind X.prog X.w) s1.heap.objs.size (fun y : Key => memB y (ddup ks)) (ddup ks).length → (∀ b o, b < s1.heap.objs.size → s1.heap.get? b = some o → h'.get? b = some o) →
      wpAny (model X.prog X.w) X.A (spliced (backTo pos (starEach [] X.env))) (fun vs s₂ => wpAny (model X.prog X.w) X.A (call (.builtin "len") (Value.ref s1.heap.objs.size :: vs)) (EP X pins σ Q) X.xe s₂) X.xe { s1 with heap := h', toks := tk } := fun h' tk hS hk => by
    refine PyProof.Rows.args_nil ?_
    obtain ⟨o, es, ep, t, ho, hex, hd, _, _, _, hf, hn⟩ := hS
    have I2 : Inv X pins σ H1 { s1 with heap := h', toks := tk } := I1.kept fun b o e => hk b o (Heap.lt_size e) e
    have hb : scanBound < 2 ^ 62 := by unfold scanBound; omega
    have hle := ddup_le ks
    refine call_len_set ho hex hd hf (by rw [hn]; omega) ⟨.int (ddup ks).length, H1, I2.tok _, ⟨_, by rw [hn]⟩, q1⟩
  rcases hq with hq | hq
  · obtain ⟨its, r, pl, hz⟩ := I1.list hq
    exact set_of_list (I1.ok.hd hc) pl.isList (by simpa using keysAre_of r) h1 fin
  · obtain ⟨its, r, pl, hz⟩ := I1.tuple hq
    exact set_of_tuple (I1.ok.hd hc) pl (by simpa using keysAre_of r) h1 fin
end
def dLenK (t : DTE) : DTE := fun e M Q E => t e M (fun x M1 => match x with
  | .tup xs => ∃ ks, keysD xs = some ks ∧ ks.length < 4000 ∧ Q (.int (ddup ks).length) M1
  | .tx xs => ∃ ks, keysD xs = some ks ∧ ks.length < 4000 ∧ Q (.int (ddup ks).length) M1
  | .rl xs => ∃ ks, keysD xs = some ks ∧ ks.length < 4000 ∧ Q (.int (ddup ks).length) M1
  | .ref a => ∃ xs ks, M1 a = some (.lst xs) ∧ keysD xs = some ks ∧ ks.length < 4000 ∧ Q (.int (ddup ks).length) M1
  | _ => False) E
theorem de_lenK {g : Gd} {a : Expr} {ta : DTE} {p p2 q pos : Pos} (hc : g.X.calm = true) (hg : Gl g.X "len") (hm : g.X.mg "len" = none) (hg2 : Gl g.X "set") (hm2 : g.X.mg "set" = none) (ha : DE g a ta) (na : isStar a = false) :
    DE g (.Call (.Name "len" p) [.Call (.Name "set" p2) [a] [] q] [] pos) (dLenK ta) := by
  have hb : 4000 + 1 < scanBound := by unfold scanBound; omega
  refine DE.of (pe_lenK hc hg hm hg2 hm2 ha.pe na) fun σ H e M Q sl mr fr q => ?_
  refine low_start sl mr fr q fun v d M1 H1 i m f q => ?_
  cases d with
  | tup xs =>
    rw [is_tup] at i
    obtain ⟨a, vs, rfl, h, l⟩ := i
    obtain ⟨ks, hk, hl, q⟩ := q
    have := keysD_is l hk
    subst this
    exact ⟨a, ks, rfl, .inr (SqT.of h), by omega, lowQ.mk ii_int m f q⟩
  | tx xs =>
    rw [is_tx] at i
    obtain ⟨a, vs, rfl, h, l⟩ := i
    obtain ⟨ks, hk, hl, q⟩ := q
    have := keysD_is l hk
    subst this
    exact ⟨a, ks, rfl, .inr h.sq, by omega, lowQ.mk ii_int m f q⟩
  | rl xs =>
    rw [is_rl] at i
    obtain ⟨a, vs, rfl, h, l⟩ := i
    obtain ⟨ks, hk, hl, q⟩ := q
    have := keysD_is l hk
    subst this
    exact ⟨a, ks, rfl, .inl h.sq, by omega, lowQ.mk ii_int m f q⟩
  | ref a =>
    rw [is_ref] at i
    subst i
    obtain ⟨xs, ks, h, hk, hl, q⟩ := q
    obtain ⟨vs, e, l⟩ := m a _ h
    have := keysD_is l hk
    subst this
    exact ⟨a, ks, rfl, .inl (SqL.of e), by omega, lowQ.mk ii_int m f q⟩
  | _ => exact q.elim
end DL

/-! Dict comprehensions of one clause; dict displays. -/
namespace DL
open PySem PySem.Spec PyProof.Rows L2
section
variable {K : PySem.W.Frag} {M M1 : Mem} {H H1 : Hp} {p : Addr} {acc acc' : List (Key × V)}
theorem ext_outK (h : H p = some (.dK acc)) : Ext K H (upd H p (.dK acc')) := by
  have ne : ∀ {a : Addr} {u : HO}, H a = some u → u ≠ .dK acc → a ≠ p := fun {a u} q k z => by subst z; rw [h] at q; cases q; exact k rfl
  refine ⟨fun a xs e => ?_, fun a xs e => ?_, fun a xs ⟨o, e, hd⟩ => ⟨o, by rw [upd_ne (ne e fun z => by cases z)]; exact e, hd⟩⟩
  · rw [upd_ne (ne e fun z => by cases z)]; exact e
  · rcases e with ⟨o, e⟩ | e
    · exact .inl ⟨o, by rw [upd_ne (ne e fun z => by cases z)]; exact e⟩
    · exact .inr e
theorem mr_outK (m : MRel K M H) (h : H p = some (.dK acc)) (n : M p = none) : MRel K M (upd H p (.dK acc')) := fun a o e => by
  have : a ≠ p := fun z => by subst z; rw [n] at e; cases e
  exact (m a o e).ext (ext_outK h) (upd_ne this)
end
abbrev DTD := Sl → Mem → (List (Key × D) → Mem → Prop) → EX → Prop
def dDc (w : DTI) (gt : DTG) (tt : DTT) (tk tv : DTE) (vs : List Nat) : DTD := fun e M Q E => w e M (fun src M1 => ∃ I : Nat → List (Key × D) → Mem → Prop, I 0 [] M1 ∧
  (∀ i d acc M', src.items[i]? = some d → I i acc M' → src.live M' ∧ gt d (wipeS e vs) M' (fun e2 M2 => tt e2 M2 (fun b M3 =>
    if b = true then tk e2 M3 (fun y M4 => tv e2 M4 (fun z M5 => acc.length < sizeLine ∧ ∃ k, keyD y = some k ∧ I (i + 1) (putG acc k z) M5) EF) EF else I (i + 1) acc M3) EF) EF) ∧
  ∀ acc M', I src.items.length acc M' → src.live M' ∧ Q acc M') E
/-- .. as a new dict -/
def dNewD (t : DTD) : DTE := fun e M Q E => t e M (fun kvs M1 => ∀ p, M1 p = none → Q (.ref p) (wr M1 p (.dK kvs))) E
section
variable {g : Gd} {kx vx tg iter : Expr} {ifs : List Expr} {scope : Scope} {own : List (Str × Nat)} {pos : Pos} {w : DTI} {gt : DTG} {tt : DTT} {tk tv : DTE} {ns : List Nat}
theorem dc_low {w' : TI} {g' : TG} {tt' : TT} (ki : ∀ σ H e M R (RV : It → Hp → Prop), SRel g.X.K H e σ → MRel g.X.K M H → Fr g.M0 g.H0 M H → w e M R g.E →
      (∀ J src M1 H1, JRel g.X.K H1 J src → MRel g.X.K M1 H1 → Fr M H M1 H1 → R src M1 → RV J H1) → w' σ H RV)
    (kg : ∀ σ H e M v d Q (QV : L2.St → Hp → Prop), SRel g.X.K H e σ → MRel g.X.K M H → Is g.X.K H d v → gt d e M Q EF →
      (∀ σ' H' e' M', SRel g.X.K H' e' σ' → MRel g.X.K M' H' → Fr M H M' H' → (∀ vs, (∀ i ∈ ns, i ∈ vs) → L2.wipe σ' vs = L2.wipe σ vs) → Q e' M' → QV σ' H') → g' v σ H QV)
    (kt : ∀ σ H e M Q (QV : Bool → Hp → Prop), SRel g.X.K H e σ → MRel g.X.K M H → tt e M Q EF → (∀ b M' H', MRel g.X.K M' H' → Fr M H M' H' → Q b M' → QV b H') → tt' σ H QV)
    (hns : ∀ i ∈ ns, i ∈ own.map (·.2)) {σ : L2.St} {H : Hp} {e : Sl} {M : Mem} {Q : List (Key × D) → Mem → Prop} {QV : VK} (sl : SRel g.X.K H e σ) (mr : MRel g.X.K M H) (fr : Fr g.M0 g.H0 M H) (q : dDc w gt tt tk tv (own.map (·.2)) e M Q g.E)
    (k : ∀ a ws kvs M' H', H' a = some (.dK ws) → KRel g.X.K H' kvs ws → M' a = none → H a = none → MRel g.X.K M' H' → Fr M H M' H' → Q kvs M' → QV (.ref a) H') : tDc w' g' tt' (lowAny g.X.K tk) (lowAny g.X.K tv) (own.map (·.2)) σ H QV := by
  refine ki σ H e M _ _ sl mr fr q fun J src M1 H1 jr m1 f1 q => ?_
  obtain ⟨I, h0, turn, last⟩ := q
  intro p hp
  have np1 : M1 p = none := m1.none_of hp
  have h0p : H p = none := f1.there p hp
  have fn := fr_new (o := HO.dK []) m1 hp
  refine ⟨fun i n H' => i + n = src.items.length ∧ ∃ acc ws M', H' p = some (.dK ws) ∧ KRel g.X.K H' acc ws ∧ M' p = none ∧ MRel g.X.K M' H' ∧ Fr M1 H1 M' H' ∧ I i acc M',
    ⟨src.items.length, by omega, [], [], M1, upd_same, KRel.nil, np1, mr_new m1 hp, fn, h0⟩, fun i n H' hw => ?_⟩
  obtain ⟨hn, acc, ws, M', hp', il, np, m', f', hw⟩ := hw
  cases n with
  | zero =>
    obtain rfl : i = src.items.length := by omega
    obtain ⟨lv, q⟩ := last acc M' hw
    exact .inl ⟨(jr _ M' H' m' (f'.ext m1) lv).2 (Nat.le_refl _), k p ws acc M' H' hp' il np h0p m' (f1.trans f') q⟩
  | succ n =>
    have hi : i < src.items.length := by omega
    have hd := List.getElem?_eq_getElem hi
    obtain ⟨lv, q⟩ := turn i _ acc M' hd hw
    obtain ⟨go, yl⟩ := (jr i M' H' m' (f'.ext m1) lv).1 _ hd
    refine .inr ⟨go, fun H2 => ∃ acc ws M', H2 p = some (.dK ws) ∧ KRel g.X.K H2 acc ws ∧ M' p = none ∧ MRel g.X.K M' H2 ∧ Fr M1 H1 M' H2 ∧ I (i + 1) acc M', fun H2 z => ⟨n, by omega, by omega, z⟩, fun x H2 y => ?_⟩
    obtain ⟨ix, m2, f2⟩ := yl x H2 y
    refine kg (wipe σ (own.map (·.2))) H2 (wipeS e (own.map (·.2))) M' x _ _ _ ((sl.ext ((f1.trans (f'.trans f2)).ext mr)).wipe _) m2 ix q fun σ3 H3 e3 M3 sl3 m3 f3 hwp q => ?_
    refine ⟨(hwp _ hns).trans (wipe_wipe σ _), ?_⟩
    refine kt σ3 H3 e3 M3 _ _ sl3 m3 q fun b M4 H4 m4 f4 q => ?_
    have f24 := f2.trans (f3.trans f4)
    cases b with
    | false =>
      obtain ⟨p4, np4⟩ := f24.keep p _ hp' np
      exact ⟨acc, ws, M4, p4, ⟨il.1, IsL.ext (f24.ext m') _ _ il.2⟩, np4, m4, f'.trans f24, q⟩
    | true =>
      have sl4 := sl3.ext (f4.ext m3)
      refine lowAny_start sl4 m4 q fun y dy M5 H5 i5 m5 f5 q => ?_
      refine lowAny_start (sl4.ext (f5.ext m4)) m5 q fun z dz M6 H6 i6 m6 f6 q => ?_
      have f26 := f24.trans (f5.trans f6)
      obtain ⟨p6, np6⟩ := f26.keep p _ hp' np
      have il6 : KRel g.X.K H6 acc ws := ⟨il.1, IsL.ext (f26.ext m') _ _ il.2⟩
      obtain ⟨hz, kk, hk, q⟩ := q
      have ey := keyD_is (Is.ext (f6.ext m5) _ _ i5) hk
      have eo : Ext g.X.K H6 (upd H6 p (.dK (putK ws kk z))) := ext_outK p6
      have rp := il6.put (k := kk) i6
      exact ⟨ws, kk, ey, p6, by rw [KRel.length il6]; exact hz, putG acc kk dz, putK ws kk z, M6, upd_same, ⟨rp.1, IsL.ext eo _ _ rp.2⟩, np6, mr_outK m6 p6 np6, fr_out (f'.trans f26) hp, q⟩
theorem new_inK {K : PySem.W.Frag} {M M' : Mem} {H H' : Hp} {a : Addr} {ws : List (Key × V)} {kvs : List (Key × D)} (h : H' a = some (.dK ws)) (l : KRel K H' kvs ws) (n : M' a = none) (n0 : H a = none) (m : MRel K M' H') (f : Fr M H M' H') :
    MRel K (wr M' a (.dK kvs)) H' ∧ Fr M H (wr M' a (.dK kvs)) H' := by
  refine ⟨fun b o e => ?_, ⟨fun b o hb nb => ?_, f.there⟩⟩
  · by_cases z : b = a
    · subst z; rw [wr_same] at e; cases e; exact ⟨ws, h, l.1, l.2⟩
    · rw [wr_ne z] at e; exact m b o e
  · have ne : b ≠ a := fun z => by subst z; rw [n0] at hb; cases hb
    obtain ⟨q1, q2⟩ := f.keep b o hb nb
    exact ⟨q1, by rw [wr_ne ne]; exact q2⟩
theorem de_dc (hc : g.X.calm = true) (hN : g.X.N.Nodup) (hi : DI g tg iter w) (ok : BlkOk g.X.N g.X.env.scope scope own) (hg : BlkG g scope tg gt ns) (ht : BlkT g scope ifs tt) (hk : BlkE g scope kx tk) (he : BlkE g scope vx tv) (hns : ∀ i ∈ ns, i ∈ own.map (·.2))
    (hs : ∀ x, foldedSetIterable iter g.X.env x = pure x) : DE g (.DictComp kx vx [⟨tg, iter, ifs, 0⟩] scope pos) (dNewD (dDc w gt tt tk tv (own.map (·.2)))) := by
  obtain ⟨w', pi, ki⟩ := hi.pi
  obtain ⟨g', pg, kg⟩ := hg
  obtain ⟨t', pt, kt⟩ := ht
  refine DE.of (pe_dc hc hN pi ok pg pt hk.pe he.pe hs) fun σ H e M Q sl mr fr q => ?_
  refine dc_low ki kg kt hns sl mr fr q fun a ws kvs M' H' h l n n0 m f q => ?_
  obtain ⟨m2, f2⟩ := new_inK h l n n0 m f
  exact lowQ.mk ii_ref m2 f2 (q a n)
end
/-- {} -/
def dNewK : DTE := fun _ M Q _ => ∀ p, M p = none → Q (.ref p) (wr M p (.dK []))
theorem de_newK {g : Gd} {pos : Pos} : DE g (.Dict [] [] pos) dNewK := DE.of pe_dnewK fun σ H e M Q sl mr fr q => Fin.newK fin_low mr Fr.refl KRel.nil q
def dNewT : DTE := fun _ M Q _ => ∀ p, M p = none → Q (.ref p) (wr M p (.dT []))
theorem de_newT {g : Gd} {pos : Pos} : DE g (.Dict [] [] pos) dNewT := DE.of pe_dnewT fun σ H e M Q sl mr fr q p hp => by
  have q' : MOk g.X.K (upd H p (.dT [])) p (.dT []) := ⟨[], upd_same, rfl, isL_nil.mpr rfl⟩
  exact lowQ.mk ii_ref (mr_alloc mr hp q') (fr_alloc mr hp) (q p (mr.none_of hp))
end DL

/-! x, *y as a target. -/
namespace DL
open PySem PySem.Spec PyProof.Rows L2
theorem WalksS.tail {prog : Program} {w : World} {A : Around} {I : Addr} {fp wr : List Addr} {G : Array GenState → Array GenState → Prop} {n : Nat} {P : Nat → Value → Prop} {St : Nat → Shared → Prop} (W : WalksS prog w A I fp wr G (n + 1) P St) :
    WalksS prog w A I fp wr G n (fun i => P (i + 1)) (fun i => St (i + 1)) where
  sub := W.sub
  grefl := W.grefl
  gtrans := W.gtrans
  frame := fun i => W.frame (i + 1)
  item := fun i s Q E hi st hQ => W.item (i + 1) s Q E (by omega) st hQ
  done := W.done
  self := fun i => W.self (i + 1)
section
variable {prog : Program} {w : World} {A : Around} {E : Value → Shared → Prop} {s : Shared}
theorem unpack_star {t : Addr} {x : Value} {rest : List Value} {targets : List (Bool × (Value → Sem Unit))} {Q : Unit → Shared → Prop} (hh : A.handled = none) (ht : IsTup s.heap t (x :: rest).toArray) (hz : rest.length ≤ sizeLine)
    (hn : targets.length = 2) (hstar : targets.findIdx? (·.1) = some 1)
    (h : ∀ (h' : Heap) (tk : Nat), (∀ b o, s.heap.get? b = some o → h'.get? b = some o) → wpAny (model prog w) A (assignInOrder (targets.map (·.2)) [x, .ref h'.objs.size]) Q E { s with heap := h'.push { cls := .type "list", data := .seq rest.toArray }, toks := tk }) :
    wpAny (model prog w) A (unpack (.ref t) targets) Q E s := by
  have htt : t < s.heap.objs.size := by obtain ⟨o, ho, _⟩ := ht; exact Heap.lt_size ho
  have hlt : t ≠ s.heap.objs.size := Nat.ne_of_lt htt
  unfold unpack
  rw [hn, hstar]
  refine wpAny_bind (wpAny_holding ?_)
  unfold unpackItems
  refine wpAny_bind ?_
  unfold notIterableAtAll
  refine wpAny_bind (wpAny_specialOf ht.typeIs slot_tuple_iter.lookup ?_)
  refine wpAny_pure ?_
  simp only [Bool.false_eq_true, if_false]
  refine wpAny_bind (wpAny_holding (iter_tuple ht ?_))
  show wpAny _ _ (holding [Value.ref s.heap.objs.size] (draw (.ref s.heap.objs.size) 1) >>= _) _ _ _
  refine wpAny_bind (wpAny_holding (draw_tuple hlt 1 0 _ _ ⟨_, Heap.get?_push_size _ rfl, rfl, rfl⟩ (ht.push _) (by simp) fun h1 it1 hs1 => ?_))
  have e1 : List.take 1 (List.drop 0 (x :: rest).toArray.toList) = [x] := by simp
  rw [e1]
  rw [if_neg (by simp)]
  have ht1 : IsTup h1 t (x :: rest).toArray := (ht.push _).extBut hs1.extBut hlt
  have W := (Walks.tuple (prog := prog) (w := w) (A := A.in1) (by simp [hh]) s.heap.objs.size t hlt (x :: rest).toArray).toS
  have W1 : WalksS prog w A.in1 s.heap.objs.size [s.heap.objs.size, t] [s.heap.objs.size] (fun a b => b = a) (rest.length + 1) (fun i v => (x :: rest).toArray[i]? = some v) (fun i s' => s'.heap.IsTupleIter s.heap.objs.size t i ∧ s'.heap.IsTuple t (x :: rest).toArray) := by
    have e : (x :: rest).toArray.size = rest.length + 1 := by simp
    rw [e] at W
    exact W
  have ltI : s.heap.objs.size < h1.objs.size := by
    obtain ⟨o, ho, _⟩ := it1
    exact Heap.lt_size ho
  have keep1 : ∀ b o, s.heap.get? b = some o → h1.get? b = some o := fun b o e => hs1.extBut b o (Nat.ne_of_lt (Heap.lt_size e)) (Heap.get?_push_of_some _ e)
  refine wpAny_bind (wpAny_holding (wpAny_collect_iter (T := "tuple_iterator") (.inr (.inr (.inr rfl))) (WalksS.tail W1) (fun i s' st => by obtain ⟨⟨o, ho, hc, _⟩, _⟩ := st; exact ⟨o, ho, hc⟩) ⟨it1, ht1⟩ (fun b hb => ?_) (List.mem_cons_self) (fun s2 acc mv hacc => ?_) hz))
  · show b < h1.objs.size
    rcases List.mem_cons.mp hb with e | hb
    · rw [e]; exact ltI
    · rw [List.mem_singleton.mp hb]; exact Nat.lt_trans htt ltI
  · have ea : acc.toList = rest := by
      obtain ⟨hl, hi⟩ := hacc
      refine List.ext_getElem? fun i => ?_
      cases hr : rest[i]? with
      | none =>
        rw [List.getElem?_eq_none_iff] at hr ⊢
        rw [Array.length_toList]
        omega
      | some v =>
        have hlt2 : i < rest.length := (List.getElem?_eq_some_iff.mp hr).1
        have hlt3 : i < acc.size := by omega
        have q : (x :: rest).toArray[i + 1]? = some acc[i] := hi i acc[i] (by simp [hlt3])
        have q2 : (x :: rest).toArray[i + 1]? = rest[i]? := by simp
        rw [q2, hr] at q
        rw [Array.getElem?_toList, Array.getElem?_eq_getElem hlt3]
        exact q.symm
    rw [ea]
    rw [if_neg (by simp)]
    obtain ⟨h2, g2, d2, tk2, os2⟩ := s2
    obtain rfl : g2 = s.gens := mv.gens
    obtain rfl : d2 = s.drawn := mv.drawn
    obtain rfl : os2 = s.os := mv.os
    have e2 : rest.take (rest.length - (2 - 1 - 1)) = rest := by simp
    have e3 : rest.drop (rest.length - (2 - 1 - 1)) = [] := by simp
    rw [e2]
    refine wpAny_bind (wpAny_newList ?_ hz)
    refine wpAny_pure ?_
    rw [e3]
    have keep2 : ∀ b o, s.heap.get? b = some o → h2.get? b = some o := fun b o e => mv.heap b o (by rw [List.mem_singleton]; exact Nat.ne_of_lt (Heap.lt_size e)) (keep1 b o e)
    exact h h2 tk2 keep2
end
end DL

/-! x, *y as a target: the rule; a slice of a list that is stored. -/
namespace DL
open PySem PySem.Spec PyProof.Rows L2
def gStar (K : PySem.W.Frag) (t0 t1 : TG) : TG := fun v σ H Q => ∃ t x xs, v = .ref t ∧ SqT K H t (x :: xs) ∧ ∀ p, H p = none → t0 x σ (upd H p (.lst xs)) fun σ1 H1 => t1 (.ref p) σ1 H1 Q
theorem each_star {a b : Expr} {p : Pos} {env : PySem.Env} (h : isStar a = false) : assignEach [a, .Starred b p] env = [(false, assign a env), (true, assign b env)] := by
  cases a <;> first | rfl | cases h
theorem pg_star {X : Cx} {a b : Expr} {p pos : Pos} {k : Nat} {t0 t1 : TG} (hc : X.calm = true) (ha : isStar a = false) (h0 : PG X a t0) (h1 : PG X b t1) : PG X (.Tuple [a, .Starred b p] k pos) (gStar X.K t0 t1) := by
  refine ⟨fun pins s σ H v u Q I r hw => ?_⟩
  obtain ⟨t, x, xs, rfl, hq, hw⟩ := hw
  cases r
  obtain ⟨its, rv, ht, hz⟩ := I.tuple hq
  cases rv with
  | @cons _ u0 _ us r0 rr =>
    have hl := rr.length
    rw [List.length_cons] at hz
    rw [assign_Tuple]
    refine wpAny_bind (wpAny_standAt (unpack_star (I.ok.hd hc) ht (by omega) (by rw [each_star ha]; rfl) (by rw [each_star ha]; rfl) fun h' tk hk => ?_))
    rw [each_star ha]
    have I0 : Inv X pins σ H { s with heap := h', toks := tk } := I.kept (t' := tk) hk
    have hn : H h'.objs.size = none := I0.hok.fresh (Nat.le_refl _)
    have I1 : Inv X pins σ (upd H h'.objs.size (.lst xs)) { s with heap := h'.push { cls := .type "list", data := .seq us.toArray }, toks := tk } := I0.laid (t' := tk) (a := h'.objs.size) (o := .lst xs) (fun b o e => Heap.get?_push_of_some _ e) (Nat.le_refl _) ⟨by omega, us, _, rr, Heap.get?_push_size _ rfl⟩
    refine assignInOrder_cons (thn (h0.run pins _ σ _ x u0 _ I1 r0 (hw _ hn)) fun _ s2 z => ?_)
    obtain ⟨σ2, H2, I2, z⟩ := z
    refine assignInOrder_cons (thn (h1.run pins s2 σ2 H2 (.ref h'.objs.size) (.ref h'.objs.size) _ I2 rfl z) fun _ s3 z => ?_)
    exact assignInOrder_nil z
/-- the rest is not looked at any more -/
def dgStar (i j : Nat) : DTG := fun d e M Q _ => match d with
  | .tup (x :: _) => Q (setS (setS e i (some x)) j none) M
  | _ => False
section
variable {K : PySem.W.Frag} {i j : Nat}
theorem star_low {σ : L2.St} {H : Hp} {e : Sl} {M : Mem} {v : V} {d : D} {Q : Sl → Mem → Prop} {E : EX} {QV : L2.St → Hp → Prop} (sl : SRel K H e σ) (mr : MRel K M H) (id : Is K H d v) (q : dgStar i j d e M Q E)
    (k : ∀ σ' H' e' M', SRel K H' e' σ' → MRel K M' H' → Fr M H M' H' → (∀ vs, (∀ z ∈ [i, j], z ∈ vs) → L2.wipe σ' vs = L2.wipe σ vs) → Q e' M' → QV σ' H') : gStar K (gName i) (gName j) v σ H QV := by
  cases d with
  | tup ds =>
    cases ds with
    | nil => exact q.elim
    | cons x xs =>
      rw [is_tup] at id
      obtain ⟨a, vs, rfl, h, l⟩ := id
      rw [isL_cons] at l
      obtain ⟨u, r, rfl, ix, l⟩ := l
      refine ⟨a, u, r, rfl, SqT.of h, fun p hp => ?_⟩
      have f1 : Fr M H M (upd H p (.lst r)) := fr_new mr hp
      have ex := f1.ext mr
      have s1 := SRel.set (Is.ext ex _ _ ix) i (sl.ext ex)
      exact k _ _ _ M (SRel.unset j (some (V.ref p)) s1) (mr_new mr hp) f1 (fun vs hv => (set_wipe _ j _ vs (hv j (by simp))).trans (set_wipe σ i _ vs (hv i (by simp)))) q
  | _ => exact q.elim
end
theorem dg_star {g : Gd} {a b : Expr} {p pos : Pos} {k i j : Nat} (hc : g.X.calm = true) (ha : isStar a = false) (h0 : PG g.X a (gName i)) (h1 : PG g.X b (gName j)) : DG g (.Tuple [a, .Starred b p] k pos) (dgStar i j) [i, j] :=
  ⟨⟨_, pg_star hc ha h0 h1, fun σ H e M v d Q QV sl mr fr id q kk => star_low sl mr id q kk⟩⟩
end DL

/-! Tuples whose very object is known: made. -/
namespace DL
open PySem PySem.Spec PyProof.Rows L2
section
variable {K : PySem.W.Frag} {M Mo : Mem} {H Ho : Hp} {Q : QE} {QV : VK}
theorem Fin.newX (fin : Fin K Mo Ho Q QV) (m : MRel K M H) (f : Fr Mo Ho M H) {ds : List D} {vs : List V} (l : IsL K H ds vs) (q : Q (.tx ds) M) :
    ∀ p, H p = none → ∀ o : Obj, o.dict = none → QV (.ref p) (upd H p (.frz o (.tup vs))) := fun p hp o ho =>
  fin _ _ _ _ (is_tx.mpr ⟨p, vs, rfl, ⟨o, upd_same, ho⟩, IsL.ext ((fr_new (o := HO.frz o (.tup vs)) m hp).ext m) _ _ l⟩) (mr_new m hp) (f.trans (fr_new m hp)) q
end
section
variable {X : Cx}
theorem laidX {pins : List (Addr × Obj)} {σ : L2.St} {H : Hp} {s : Shared} (I : Inv X pins σ H s) {xs : List V} {us : List Value} {tk : Nat} (r : Vals xs us) (z : xs.length ≤ sizeLine) :
    Inv X pins σ (upd H s.heap.objs.size (.frz { cls := .type "tuple", data := .seq us.toArray } (.tup xs))) { s with heap := s.heap.push { cls := .type "tuple", data := .seq us.toArray }, toks := tk } :=
  I.laid (t' := tk) (fun b o e => Heap.get?_push_of_some _ e) (Nat.le_refl _) ⟨Heap.get?_push_size _ rfl, z, us, r, ⟨_, Heap.get?_push_size _ rfl, rfl, _, rfl⟩⟩
theorem call_tupleX : CallR X (.type "tuple") (fun xs H Q => ∃ p ys, xs = [.ref p] ∧ SqL X.K H p ys ∧ ∀ l, H l = none → ∀ o : Obj, o.dict = none → Q (.ref l) (upd H l (.frz o (.tup ys)))) := by
  intro pins s σ H xs us Q I r h
  obtain ⟨p, ys, rfl, hq, q⟩ := h
  obtain ⟨u, rfl, rx⟩ := vals1 r
  cases rx
  obtain ⟨its, r', pl, hz⟩ := I.list hq
  have hlen := r'.length
  refine call_tuple_list pl.isList (fun h' kp => ?_) (by simp only [List.size_toArray] <;> omega)
  have I1 : Inv X pins σ H { s with heap := h' } := I.kept (t' := s.toks) kp
  exact ⟨.ref h'.objs.size, _, laidX (tk := s.toks) I1 r' hz, rfl, q _ (I1.hok.fresh (Nat.le_refl _)) _ rfl⟩
def rTupleX : RnD := fun ds M Q => match ds with
  | [.rl xs] => Q (.tx xs) M
  | [.ref a] => ∃ xs, M a = some (.lst xs) ∧ Q (.tx xs) M
  | _ => False
theorem cd_tupleX : CallD X (.type "tuple") rTupleX := by
  refine ⟨_, call_tupleX, fun M H Mo Ho vs ds Q QV m f l fin q => ?_⟩
  match ds, q with
  | [.rl xs], q =>
    obtain ⟨v, rfl, j⟩ := isL_one l
    rw [is_rl] at j
    obtain ⟨a, ws, rfl, e, l1⟩ := j
    exact ⟨a, ws, rfl, e.sq, Fin.newX fin m f l1 q⟩
  | [.ref a], q =>
    obtain ⟨v, rfl, j⟩ := isL_one l
    rw [is_ref] at j
    subst j
    obtain ⟨xs, h, q⟩ := q
    obtain ⟨ws, e, l1⟩ := m a _ h
    exact ⟨a, ws, rfl, SqL.of e, Fin.newX fin m f l1 q⟩
def tTupleX : RtD := fun ds M Q => Q (.tx ds) M
theorem ok_tTupleX : TmpOk rTupleX tTupleX := fun ds M Q q p hp => ⟨ds, wr_same, M, sub_wr hp, q⟩
def dTupX (r : DTA) : DTE := fun e M Q E => r e M (fun xs M1 => xs.length ≤ sizeLine ∧ Q (.tx xs) M1) E
theorem pe_tupX {es : List Expr} {t : TA} {x1 : Nat} {pos : Pos} (h : PA X es t) : PE X (.Tuple es x1 pos) (fun σ H Q => t σ H fun xs H1 => xs.length ≤ sizeLine ∧ ∀ p, H1 p = none → ∀ o : Obj, o.dict = none → Q (.ref p) (upd H1 p (.frz o (.tup xs)))) := by
  refine ⟨fun pins s σ H Q I hq => ?_⟩
  refine wpAny_Tuple_spliced (thn (h.run pos pins s σ H _ I hq) fun us s1 ⟨xs, H1, I1, r, z, q⟩ => ⟨by rw [← r.length]; exact z, ?_⟩)
  exact ⟨.ref s1.heap.objs.size, _, laidX (tk := s1.toks) I1 r z, rfl, q _ (I1.hok.fresh (Nat.le_refl _)) _ rfl⟩
end
theorem de_tupX {g : Gd} {xs : List Expr} {r : DTA} {n : Nat} {pos : Pos} (h : DA g xs r) : DE g (.Tuple xs n pos) (dTupX r) := by
  obtain ⟨t', pa, k⟩ := h.pa
  refine DE.of (pe_tupX pa) fun σ H e M Q sl mr fr q => ?_
  refine k σ H e M _ _ sl mr fr q fun ds vs M' H' l m f q => ?_
  exact ⟨by rw [l.length]; exact q.1, Fin.newX fin_low m f l q.2⟩
/-- t[::-1] of such a tuple -/
def dRevX (t : DTE) (tl th tc : DTO) : DTE := fun e M Q E => t e M (fun x M1 => tl e M1 (fun l M2 => th e M2 (fun h M3 => tc e M3 (fun c M4 => l = none ∧ h = none ∧ c = some (-1) ∧ match x with | .tx xs => Q (.tx xs.reverse) M4 | .tup xs => Q (.tx xs.reverse) M4 | _ => False) E) E) E) E
section
variable {g : Gd} {a c : Expr} {lo hi : Option Expr} {ta : DTE} {tl th tcc : DTO} {pos p2 : Pos}
theorem pe_revX {X : Cx} {te : TE} {tl th ts : TO} (he : PE X a te) (hl : PO X lo tl) (hu : PO X hi th) (hst : PO X (some c) ts) : PE X (.Subscript a (.Slice lo hi (some c) p2) pos)
    (fun σ H Q => te σ H fun x H1 => tl σ H1 fun l H2 => th σ H2 fun u H3 => ts σ H3 fun z H4 => l = none ∧ u = none ∧ z = some (-1) ∧ ∃ p xs, x = V.ref p ∧ SqT X.K H4 p xs ∧ ∀ q, H4 q = none → ∀ o : Obj, o.dict = none → Q (.ref q) (upd H4 q (.frz o (.tup xs.reverse)))) := by
  refine ⟨fun pins s σ H Q I h => ?_⟩
  refine Subscript_ (thn (he.run pins s σ H _ I h) fun v s1 ⟨x, H1, I1, r1, q1⟩ => ?_)
  refine wpAny_Slice (thn (hl.run pins s1 σ H1 _ I1 q1) fun vl s2 ⟨l, H2, I2, pl, q2⟩ => thn (hu.run pins s2 σ H2 _ I2 q2) fun vu s3 ⟨u, H3, I3, pu, q3⟩ => thn (hst.run pins s3 σ H3 _ I3 q3) fun vs s4 ⟨o, H4, I4, ps, q4⟩ => ?_)
  obtain ⟨rfl, rfl, rfl, p, xs, rfl, hx, q⟩ := q4
  have I5 : Inv X pins σ H4 { s4 with heap := s4.heap.push { cls := .type "slice", data := .fields #[vl, vu, vs] } } := I4.kept (t' := s4.toks) fun b ob q => Heap.get?_push_of_some _ q
  show wpAny (model X.prog X.w) X.A (subscriptTail a (.Slice lo hi (some c) p2) v (.ref s4.heap.objs.size)) (EP X pins σ Q) X.xe { s4 with heap := s4.heap.push { cls := .type "slice", data := .fields #[vl, vu, vs] } }
  cases r1
  obtain ⟨its, r, ht, hz⟩ := I5.tuple hx
  have hlen := r.length
  refine tail_any (ops := [.ref p, .ref s4.heap.objs.size]) ht.typeIs PyProof.Rows.slot_tuple_getitem.lookup ?_ (by with_unfolding_all rfl)
  refine getItem_tuple_rev ht (Heap.IsSliceOf.new _ vl vu vs) pl pu ps ?_ (by rw [List.size_toArray]; omega)
  exact ⟨.ref _, _, laidX (tk := s4.toks) I5 r.reverse (by rw [List.length_reverse]; exact hz), rfl, q _ (I5.hok.fresh (Nat.le_refl _)) _ rfl⟩
theorem de_revX (ha : DE g a ta) (hl : DO g lo tl) (hh : DO g hi th) (hc : DO g (some c) tcc) : DE g (.Subscript a (.Slice lo hi (some c) p2) pos) (dRevX ta tl th tcc) := by
  obtain ⟨tl', pl, kl⟩ := hl.po
  obtain ⟨th', ph, kh⟩ := hh.po
  obtain ⟨tc', pc, kc⟩ := hc.po
  refine DE.of (pe_revX ha.pe pl ph pc) fun σ H e M Q sl mr fr q => ?_
  refine low_start sl mr fr q fun v d M1 H1 i m f q => ?_
  refine kl σ H1 e M1 _ _ (sl.ext (f.ext mr)) m (fr.trans f) q fun l M2 H2 m2 f2 q => ?_
  have f12 := f.trans f2
  refine kh σ H2 e M2 _ _ (sl.ext (f12.ext mr)) m2 (fr.trans f12) q fun u M3 H3 m3 f3 q => ?_
  have f13 := f12.trans f3
  refine kc σ H3 e M3 _ _ (sl.ext (f13.ext mr)) m3 (fr.trans f13) q fun o M4 H4 m4 f4 q => ?_
  have f14 := f13.trans f4
  obtain ⟨rfl, rfl, rfl, q⟩ := q
  have i4 := Is.ext (((f2.trans f3).trans f4).ext m) _ _ i
  refine ⟨rfl, rfl, rfl, ?_⟩
  cases d with
  | tx xs =>
    rw [is_tx] at i4
    obtain ⟨p, vs, rfl, h1, l1⟩ := i4
    exact ⟨p, vs, rfl, h1.sq, Fin.newX fin_low m4 f14 l1.reverse q⟩
  | tup xs =>
    rw [is_tup] at i4
    obtain ⟨p, vs, rfl, h1, l1⟩ := i4
    exact ⟨p, vs, rfl, SqT.of h1, Fin.newX fin_low m4 f14 l1.reverse q⟩
  | _ => exact q.elim
end
end DL

/-! xs[:c] = ys. -/
namespace DL
open PySem PySem.Spec PyProof.Rows L2
section
variable {prog : Program} {w : World} {A : Around} {E : Value → Shared → Prop} {s : Shared}
theorem bounds_head {c n : Nat} (hc : c ≤ n) : sliceBounds none (some (c : Int)) none n = (0, (c : Int), 1) := by
  simp only [sliceBounds, Option.getD_none]
  have h2 : ¬ ((c : Int) < 0) := by omega
  simp only [h2, if_false, show (1 : Int) > 0 by decide, if_true]
  congr 1
  congr 1
  omega
theorem setItem_head {l b sl : Addr} {items new : Array Value} {n : Nat} {vl vu : Value} {c : Nat} {Q : Unit → Shared → Prop}
    (e : s.heap.get? l = some { cls := .type "list", data := .seq items n }) (hb : s.heap.IsList b new) (hne : l ≠ b)
    (hs : s.heap.IsSliceOf sl vl vu .none) (pl : IsPart vl none) (pu : IsPart vu (some (c : Int))) (hc : c ≤ items.size)
    (hsz : items.size + new.size ≤ sizeLine) (h : Q () { s with heap := s.heap.update l (Obj.mapSeq fun xs => xs.extract 0 0 ++ new ++ xs.extract c xs.size) }) :
    wpAny (model prog w) A (setItem (.ref l) (.ref sl) (.ref b)) Q E s := by
  have hl : s.heap.IsList l items := PySem.IsL.isList e
  obtain ⟨o2, ho2, hc2, ne2, hd2⟩ := id hb
  obtain ⟨os, hos, hcs, hds⟩ := id hs
  have hTs : s.TypeIs (.ref sl) "slice" := ⟨os, hos, hcs⟩
  have hstep : ¬ ((rawPart none == rawInt 0) = true) := Bool.false_ne_true
  have hsame : Builtin.List.listSameRef (.ref l) (.ref b) = false := by
    unfold Builtin.List.listSameRef
    exact beq_eq_false_iff_ne.mpr hne
  have hmax : (max (0 : Int) (c : Int)).toNat = c := by omega
  have hz' : ((fun xs : Array Value => xs.extract 0 0 ++ new ++ xs.extract c xs.size) items).size ≤ sizeLine + 1 := by
    simp only [Array.size_append, Array.size_extract]
    omega
  unfold setItem
  try with_reducible refine wpAny_holding ?_
  first | refine wpAny_bind (wpAny_pure ?_) | skip
  refine wpAny_bind (wpAny_sequenceKey hl.typeIs (by decide) ?_)
  refine wpAny_bind (wpAny_callSpecial?_slot (name := Str.ofString "__setitem__") hl.typeIs PySem.F.slot_list_setitem
    (wpAny_call_entry PySem.F.slot_list_setitem hl.typeIs PySem.F.entry_list_setitem ?_ (PySem.F.args_list_setitem_3 _ _ _)))
  show wpAny _ _ (Builtin.List.listSubscript? (.ref sl) >>= _) _ _ s
  refine wpAny_bind ?_
  unfold Builtin.List.listSubscript?
  refine wpAny_bind (wpAny_specialOf hTs slice_no_index ?_)
  simp only [Option.isNone_none, if_true]
  refine wpAny_pure ?_
  show wpAny _ _ (typeOf (.ref sl) >>= _) _ _ s
  refine wpAny_bind (wpAny_typeOf hTs ?_)
  first
    | rw [if_neg (by decide)]
    | refine PySem.W.KFB.if_not (by decide) ?_
  rw [listSliceParts_eq]
  refine wpAny_bind (wpAny_bind (wpAny_field hos hds (x := .none) rfl (wpAny_bind (wpAny_listPart .none ?_))))
  rw [if_neg hstep]
  refine wpAny_bind (wpAny_field hos hds (x := vl) rfl (wpAny_bind (wpAny_listPart pl ?_)))
  refine wpAny_bind (wpAny_field hos hds (x := vu) rfl (wpAny_bind (wpAny_listPart pu (wpAny_pure ?_))))
  first
    | simp only [hsame, Bool.false_eq_true, if_false]
    | refine PySem.W.KFB.if_not hsame ?_
    | (dsimp only
       rw [if_neg (by rw [hsame]; exact Bool.false_ne_true)])
  refine wpAny_bind (m := Builtin.List.listAllItems (.ref b) "must assign iterable to extended slice") ?_
  unfold Builtin.List.listAllItems
  refine wpAny_bind (wpAny_typeOf hb.typeIs ?_)
  first
    | refine PySem.W.KFB.if_so (by decide) ?_
    | rw [if_pos (by decide)]
    | simp only [beq_self_eq_true, Bool.true_or, if_true]
  unfold Builtin.List.listItems
  refine wpAny_bind (wpAny_seqItems ho2 hd2 (wpAny_pure ?_))
  refine wpAny_bind (wpAny_bind (wpAny_seqItems e rfl (wpAny_pure ?_)))
  refine wpAny_bind (wpAny_of_eq ((sliceIndices_raw none (some (c : Int)) none items.size (by simp)).trans (congrArg (pure : Int × Int × Int → Sem (Int × Int × Int)) (bounds_head hc))) ?_)
  show wpAny _ _ (if ((1 : Int) == 1) = true then _ else _) _ _ s
  rw [if_pos (by decide)]
  refine wpAny_bind (wpAny_rule ?_)
  have hnl : ¬ (decide (items.size + new.size > sizeLine) = true) := by simpa using hsz
  first
    | simp only [L2.notLongL hsz, Bool.false_eq_true, if_false]
    | refine PySem.W.KFB.if_not (L2.notLongL hsz) ?_
  first | refine wpAny_bind (wpAny_pure ?_) | skip
  show wpAny _ _ (updateSeq l (fun xs => xs.extract 0 ((0 : Int)).toNat ++ new ++ xs.extract (max (0 : Int) (c : Int)).toNat xs.size) >>= _) _ _ s
  rw [hmax, show ((0 : Int)).toNat = 0 from rfl]
  refine wpAny_bind (wpAny_updateSeq (hz := Nat.le_trans (Nat.le_add_right _ _) hsz) (_hz' := hz') e rfl ?_)
  refine wpAny_bind (wpAny_letGo ?_)
  first
    | exact wpAny_bind (wpAny_pure (wpAny_pure ⟨.none, rfl, wpAny_pure h⟩))
    | exact wpAny_pure ⟨.none, rfl, wpAny_pure h⟩
end
section
variable {X : Cx} {o c : Expr} {p2 pos : Pos}
def gHead (K : PySem.W.Frag) (to : TE) (tc : TO) : TG := fun v σ H Q => to σ H fun x H1 => tc σ H1 fun z H2 => ∃ l b xs ys i, x = V.ref l ∧ v = V.ref b ∧ z = some i ∧ H2 l = some (.lst xs) ∧ RdL K H2 b ys ∧ 0 ≤ i ∧ i ≤ xs.length ∧ xs.length + ys.length ≤ sizeLine ∧ Q σ (upd H2 l (.lst (ys ++ xs.drop i.toNat)))
theorem pg_head {to : TE} {tc : TO} (ho : PE X o to) (hc : PO X (some c) tc) : PG X (.Subscript o (.Slice none (some c) none p2) pos) (gHead X.K to tc) := by
  refine ⟨fun pins s σ H v u Q I r h => ?_⟩
  show wpAny _ _ (do
    let ov ← holding [u] (eval o X.env)
    let iv ← holding [u, ov] (eval (.Slice none (some c) none p2) X.env)
    standAt pos
    holding [u, ov, iv] (setItem ov iv u)
    release [iv, u, ov] []) _ _ s
  refine wpAny_bind (wpAny_holding (thn (ho.run pins s σ H _ I h) fun ov s1 ⟨x, H1, I1, r1, q1⟩ => ?_))
  refine wpAny_bind (wpAny_holding (wpAny_Slice ?_))
  refine thn (po_none.run pins s1 σ H1 (fun o H2 => o = none ∧ H2 = H1) I1 ⟨rfl, rfl⟩) fun vl s2 ⟨l0, H2, I2, pl, el, e2⟩ => ?_
  subst el e2
  refine thn (hc.run pins s2 σ _ _ I2 q1) fun vu s3 ⟨z, H3, I3, pu, q3⟩ => ?_
  rw [evalPart_none]
  refine wpAny_pure ?_
  obtain ⟨l, b, xs, ys, i, rfl, rfl, rfl, hH, hB, h0, hi, hz, q⟩ := q3
  have I4 : Inv X pins σ H3 { s3 with heap := s3.heap.push { cls := .type "slice", data := .fields #[vl, vu, .none] } } := I3.kept (t' := s3.toks) fun b ob q => Heap.get?_push_of_some _ q
  cases r1
  cases r
  obtain ⟨i', rfl⟩ := Int.eq_ofNat_of_zero_le h0
  obtain ⟨z1, its, n, rr, hl, e⟩ := I4.lstM hH
  have hne : l ≠ b := fun z => by
    subst z
    rcases hB with ⟨ob, hB⟩ | ⟨ob, its0, n0, hk, _⟩
    · rw [hH] at hB; cases hB
    · have := (I4.bs l ob (I4.mod.kin l ob hk)).2
      rw [hH] at this; cases this
  obtain ⟨its2, r2, pl2, hz2⟩ := I4.list hB.sq
  have hl2 := r2.length
  refine wpAny_bind (wpAny_standAt (wpAny_bind (wpAny_holding ?_)))
  refine setItem_head (c := i') e pl2.isList hne (Heap.IsSliceOf.new _ vl vu .none) pl pu (by rw [List.size_toArray]; omega) (by rw [List.size_toArray, List.size_toArray]; omega) ?_
  refine wpAny_release ⟨σ, _, I4.lset (its' := its2 ++ its.drop i') (t' := s3.toks) hH e ?_ (Vals.append r2 (rr.drop _)) ?_, q⟩
  · have := L2.splice_eq its its2 0 i'
    simpa using this
  · rw [List.length_append, List.length_drop]
    omega
end
/-- o[:c] as a target, a list (new) is stored -/
def dgHead (to : DTE) (tc : DTO) : DTG := fun d e M Q E => to e M (fun x M1 => tc e M1 (fun z M2 => match x, d, z with
  | .ref l, .rl ys, some i => ∃ xs, M2 l = some (.lst xs) ∧ 0 ≤ i ∧ i ≤ xs.length ∧ xs.length + ys.length ≤ sizeLine ∧ Q e (wr M2 l (.lst (ys ++ xs.drop i.toNat)))
  | _, _, _ => False) E) E
theorem dg_head {g : Gd} {o c : Expr} {p2 pos : Pos} {to : DTE} {tc : DTO} (ho : DE g o to) (hc : DO g (some c) tc) : DG g (.Subscript o (.Slice none (some c) none p2) pos) (dgHead to tc) [] := by
  obtain ⟨tc', pc, kc⟩ := hc.po
  refine ⟨⟨_, pg_head ho.pe pc, fun σ H e M v d Q QV sl mr fr id q kk => ?_⟩⟩
  refine low_start sl mr fr q fun x dx M1 H1 ix m f q => ?_
  refine kc σ H1 e M1 _ _ (sl.ext (f.ext mr)) m (fr.trans f) q fun z M2 H2 m2 f2 q => ?_
  have f12 := f.trans f2
  have id2 := Is.ext (f12.ext mr) _ _ id
  cases dx with
  | ref l => cases d with
    | rl ys => cases z with
      | some i =>
        obtain ⟨xs, hM, h0, hi, hz, q⟩ := q
        rw [is_ref] at ix
        subst ix
        rw [is_rl] at id2
        obtain ⟨b, vs, rfl, hB, lb⟩ := id2
        obtain ⟨us, hH, ll⟩ := m2 l _ hM
        have ex : Ext g.X.K H2 (upd H2 l (.lst (vs ++ us.drop i.toNat))) := ext_write m2 hM
        obtain ⟨m3, f3⟩ := set_mem m2 (Mo := M2) (Ho := H2) Fr.refl hM (u' := .lst (ys ++ xs.drop i.toNat)) (o := .lst (vs ++ us.drop i.toNat)) ⟨_, upd_same, IsL.ext ex _ _ (lb.append (ll.drop _))⟩
        refine ⟨l, b, us, vs, i, rfl, rfl, rfl, hH, hB, h0, by rw [ll.length]; exact hi, by rw [ll.length, lb.length]; exact hz, ?_⟩
        exact kk _ _ _ _ (sl.ext ((f12.trans f3).ext mr)) m3 (f12.trans f3) (fun _ _ => rfl) q
      | none => exact q.elim
    | _ => exact q.elim
  | _ => exact q.elim
end DL

/-! A comprehension's list that is given to a name, as a tree. -/
namespace DL
open PySem PySem.Spec PyProof.Rows L2
theorem ps_frzA {X : Cx} {st : Stmt} {t : TS} (h : PS X st t) : PS X st (fun D σ H => t { D with nx := fun σ' H' => ∃ p xs, H' p = some (.lst xs) ∧ ∀ o, D.nx σ' (upd H' p (.frz o (.lst xs))) } σ H) := by
  refine ⟨fun pins s σ H D I q => ?_⟩
  refine wpAny_mono (h.run pins s σ H _ I q) (fun fl s' z => ?_) fun e s' z => z
  cases fl with
  | next =>
    obtain ⟨σ', H', J, p, xs, hp, q⟩ := z
    obtain ⟨o, J2⟩ := inv_freeze J hp
    exact ⟨σ', _, J2, q o⟩
  | brk => exact z
  | cont => exact z
  | ret u => exact z
section
variable {g : Gd} {elt tg iter tg1 iter1 : Expr} {ifs ifs1 : List Expr} {scope : Scope} {own : List (Str × Nat)} {vs1 : List Nat} {pos spos py : Pos} {w w1 : DTI} {gt gt1 : DTG} {tt tt1 : DTT} {te : DTE} {ns ms : List Nat}
theorem ds_lcF {i : Nat} {y : Str} (hc : g.X.calm = true) (hN : g.X.N.Nodup) (hy : g.X.N[i]? = some y) (hyl : g.X.env.scope.names.lookup y = some .local)
    (hsw : swapsWith (.ListComp elt [⟨tg, iter, ifs, 0⟩] scope pos) (some (.Name y py)) spos.line g.X.env = pure true) (hi : DI g tg iter w) (ok : BlkOk g.X.N g.X.env.scope scope own) (hg : BlkG g scope tg gt ns) (ht : BlkT g scope ifs tt) (he : BlkE g scope elt te) (hns : ∀ i ∈ ns, i ∈ own.map (·.2))
    (hs : ∀ x, foldedSetIterable iter g.X.env x = pure x) : DS g (.Assign [.Name y py] (.ListComp elt [⟨tg, iter, ifs, 0⟩] scope pos) spos) (dAsg (dLcF (dLc w gt tt te (own.map (·.2)))) (dgName i)) := by
  obtain ⟨w', pi, ki⟩ := hi.pi
  obtain ⟨g', pg, kg⟩ := hg
  obtain ⟨t', pt, kt⟩ := ht
  refine ⟨⟨_, ps_frzA (ps_setLc hc hN hy hyl hsw pi ok pg pt he.pe hs), fun P hP σ H e M D DV sl mr pm le q => ?_⟩⟩
  have fr := hP.base _ _ pm
  refine lc_low ki kg kt hns sl mr fr q fun a vs ds M' H' h l n n0 m f q => ?_
  refine ⟨a, vs, h, fun o => ?_⟩
  have m2 : MRel g.X.K M' (upd H' a (.frz o (.lst vs))) := fun b u e => by
    have ne : b ≠ a := fun z => by subst z; rw [n] at e; cases e
    exact (m b u e).ext (ext_frz h) (upd_ne ne)
  have f2 : Fr M H M' (upd H' a (.frz o (.lst vs))) := ⟨fun b u q nb => by
    have ne : b ≠ a := fun z => by subst z; rw [n0] at q; cases q
    obtain ⟨q1, q2⟩ := f.keep b u q nb
    exact ⟨by rw [upd_ne ne]; exact q1, q2⟩, fun b q => f.there b (upd_none q)⟩
  exact le.nx _ _ _ _ (SRel.set (is_frz l h) i (sl.ext (f2.ext mr))) m2 (hP.step _ _ _ _ pm f2) q
theorem ds_lc2F {i : Nat} {y : Str} (hc : g.X.calm = true) (hN : g.X.N.Nodup) (hy : g.X.N[i]? = some y) (hyl : g.X.env.scope.names.lookup y = some .local)
    (hsw : swapsWith (.ListComp elt [⟨tg, iter, ifs, 0⟩, ⟨tg1, iter1, ifs1, 0⟩] scope pos) (some (.Name y py)) spos.line g.X.env = pure true) (hi : DI g tg iter w) (ok : BlkOk g.X.N g.X.env.scope scope own) (hv : ∀ i ∈ vs1, i ∈ own.map (·.2)) (hg : BlkG g scope tg gt ns) (ht : BlkT g scope ifs tt) (hi1 : BlkI g scope tg1 iter1 w1) (hg1 : BlkG g scope tg1 gt1 ms) (ht1 : BlkT g scope ifs1 tt1)
    (he : BlkE g scope elt te) (hns : ∀ i ∈ ns, i ∈ own.map (·.2)) (hms : ∀ i ∈ ms, i ∈ vs1) (hs : ∀ x, foldedSetIterable iter g.X.env x = pure x) (hs1 : ∀ env x, foldedSetIterable iter1 env x = pure x) :
    DS g (.Assign [.Name y py] (.ListComp elt [⟨tg, iter, ifs, 0⟩, ⟨tg1, iter1, ifs1, 0⟩] scope pos) spos) (dAsg (dLcF (dLc2 w gt tt w1 gt1 tt1 te (own.map (·.2)) vs1)) (dgName i)) := by
  obtain ⟨w', pi, ki⟩ := hi.pi
  obtain ⟨g', pg, kg⟩ := hg
  obtain ⟨t', pt, kt⟩ := ht
  obtain ⟨w1', pi1, ki1⟩ := hi1
  obtain ⟨g1', pg1, kg1⟩ := hg1
  obtain ⟨t1', pt1, kt1⟩ := ht1
  refine ⟨⟨_, ps_frzA (ps_setLc2 hc hN hy hyl hsw pi ok hv pg pt pi1 pg1 pt1 he.pe hs hs1), fun P hP σ H e M D DV sl mr pm le q => ?_⟩⟩
  have fr := hP.base _ _ pm
  refine lc2_low ki kg kt ki1 kg1 kt1 hns hms sl mr fr q fun a vs ds M' H' h l n n0 m f q => ?_
  refine ⟨a, vs, h, fun o => ?_⟩
  have m2 : MRel g.X.K M' (upd H' a (.frz o (.lst vs))) := fun b u e => by
    have ne : b ≠ a := fun z => by subst z; rw [n] at e; cases e
    exact (m b u e).ext (ext_frz h) (upd_ne ne)
  have f2 : Fr M H M' (upd H' a (.frz o (.lst vs))) := ⟨fun b u q nb => by
    have ne : b ≠ a := fun z => by subst z; rw [n0] at q; cases q
    obtain ⟨q1, q2⟩ := f.keep b u q nb
    exact ⟨by rw [upd_ne ne]; exact q1, q2⟩, fun b q => f.there b (upd_none q)⟩
  exact le.nx _ _ _ _ (SRel.set (is_frz l h) i (sl.ext (f2.ext mr))) m2 (hP.step _ _ _ _ pm f2) q
end
end DL

/-! zip of two rows that nobody writes. -/
namespace DL
open PySem PySem.Spec PyProof.Rows L2
section
variable {K : PySem.W.Frag} {H1 : Hp}
def zipD (xs ys : List D) : List (List D) := List.zipWith (fun x y => [x, y]) xs ys
theorem zip_at {α β : Type} (f : α → α → β) {xs ys : List α} {i : Nat} {t : β} (h : (List.zipWith f xs ys)[i]? = some t) : ∃ x y, xs[i]? = some x ∧ ys[i]? = some y ∧ t = f x y := by
  rw [List.getElem?_zipWith] at h
  cases hx : xs[i]? with
  | none => rw [hx] at h; cases h
  | some x =>
    cases hy : ys[i]? with
    | none => rw [hx, hy] at h; cases h
    | some y => rw [hx, hy] at h; cases h; exact ⟨x, y, rfl, rfl, rfl⟩
theorem jrel_zip {J : It} {F G : Hp → List V → Prop} {xs ys : List D}
    (hl : ∀ M H, MRel K M H → Ext K H1 H → ∃ vs ws, F H vs ∧ G H ws ∧ IsL K H xs vs ∧ IsL K H ys ws)
    (go : ∀ i H vs ws x y, F H vs → G H ws → vs[i]? = some x → ws[i]? = some y → J.go i H ∧ ∀ z H', J.yld i H z H' → ∃ T, z = .ref T ∧ H T = none ∧ H' = upd H T (.tup [x, y]))
    (stop : ∀ i H vs ws, F H vs → G H ws → (vs.length ≤ i ∨ ws.length ≤ i) → J.stop i H) : JRel K H1 J ⟨(zipD xs ys).map D.tup, fun _ => True⟩ := by
  refine jrel_new (ts := zipD xs ys) (f := fun H vss => ∃ vs ws, F H vs ∧ G H ws ∧ vss = List.zipWith (fun x y => [x, y]) vs ws) rfl (fun M H m f p => ?_) (fun i H vss us h e => ?_) fun i H vss h e => ?_
  · obtain ⟨vs, ws, h1, h2, l1, l2⟩ := hl M H m f
    refine ⟨_, ⟨vs, ws, h1, h2, rfl⟩, by unfold zipD; rw [List.length_zipWith, List.length_zipWith, l1.length, l2.length], fun i t e => ?_⟩
    obtain ⟨x, y, hx, hy, rfl⟩ := zip_at _ e
    obtain ⟨v, e1, i1⟩ := l1.get hx
    obtain ⟨u, e2, i2⟩ := l2.get hy
    exact ⟨[v, u], by rw [List.getElem?_zipWith, e1, e2], IsL.mk i1 (IsL.mk i2 (isL_nil.mpr rfl))⟩
  · obtain ⟨vs, ws, h1, h2, rfl⟩ := h
    obtain ⟨x, y, hx, hy, rfl⟩ := zip_at _ e
    exact go i H vs ws x y h1 h2 hx hy
  · obtain ⟨vs, ws, h1, h2, rfl⟩ := h
    rw [List.length_zipWith] at e
    exact stop i H vs ws h1 h2 (by omega)
theorem go_zipT {a b : Addr} (i : Nat) (H : Hp) (vs ws : List V) (x y : V) (h1 : SqT K H a vs) (h2 : SqT K H b ws) (hx : vs[i]? = some x) (hy : ws[i]? = some y) :
    (RZ.ItzT K a b).go i H ∧ ∀ z H', (RZ.ItzT K a b).yld i H z H' → ∃ T, z = .ref T ∧ H T = none ∧ H' = upd H T (.tup [x, y]) := by
  refine ⟨⟨vs, ws, x, y, h1, h2, hx, hy⟩, fun z H' q => ?_⟩
  obtain ⟨T, x', y', e1, e2, e3, e4, e5⟩ := q
  have ex : x' = x := Option.some.inj ((e4 _ h1).symm.trans hx)
  have ey : y' = y := Option.some.inj ((e5 _ h2).symm.trans hy)
  subst ex ey
  exact ⟨T, e1, e2, e3⟩
theorem go_zipL {a b : Addr} (i : Nat) (H : Hp) (vs ws : List V) (x y : V) (h1 : SqL K H a vs) (h2 : SqL K H b ws) (hx : vs[i]? = some x) (hy : ws[i]? = some y) :
    (Itz K a b).go i H ∧ ∀ z H', (Itz K a b).yld i H z H' → ∃ T, z = .ref T ∧ H T = none ∧ H' = upd H T (.tup [x, y]) := by
  refine ⟨⟨vs, ws, x, y, h1, h2, hx, hy⟩, fun z H' q => ?_⟩
  obtain ⟨T, x', y', e1, e2, e3, e4, e5⟩ := q
  have ex : x' = x := Option.some.inj ((e4 _ h1).symm.trans hx)
  have ey : y' = y := Option.some.inj ((e5 _ h2).symm.trans hy)
  subst ex ey
  exact ⟨T, e1, e2, e3⟩
end
/-- the things of a tuple -/
def tuD : D → Option (List D)
  | .tup xs => some xs
  | .tx xs => some xs
  | _ => none
theorem tuD_sq {K : PySem.W.Frag} {H : Hp} {d : D} {v : V} {xs : List D} (h : tuD d = some xs) (i : Is K H d v) : ∃ a vs, v = .ref a ∧ SqT K H a vs ∧ IsL K H xs vs ∧ ∀ H', Ext K H H' → SqT K H' a vs := by
  cases d with
  | tup ds =>
    cases h
    rw [is_tup] at i
    obtain ⟨a, vs, rfl, e, l⟩ := i
    exact ⟨a, vs, rfl, SqT.of e, l, fun H' x => SqT.of (x.1 _ _ e)⟩
  | tx ds =>
    cases h
    rw [is_tx] at i
    obtain ⟨a, vs, rfl, e, l⟩ := i
    exact ⟨a, vs, rfl, e.sq, l, fun H' x => (x.2.2 _ _ e).sq⟩
  | _ => cases h
def diZip (r : DTA) : DTI := fun e M R E => r e M (fun ds M1 => match ds with
  | [x, y] => (∃ xs ys, tuD x = some xs ∧ tuD y = some ys ∧ R ⟨(zipD xs ys).map D.tup, fun _ => True⟩ M1) ∨ (∃ xs ys, x = .rl xs ∧ y = .rl ys ∧ R ⟨(zipD xs ys).map D.tup, fun _ => True⟩ M1)
  | _ => False) E
theorem di_zip {g : Gd} {x y : Expr} {elts : List Expr} {kk : Nat} {p pos tpos : Pos} {r : DTA} (hg : Gl g.X "zip") (hm : g.X.mg "zip" = none) (h : DA g [x, y] r) (n1 : isStar x = false) (n2 : isStar y = false) : DI g (.Tuple elts kk tpos) (.Call (.Name "zip" p) [x, y] [] pos) (diZip r) := by
  obtain ⟨ta, pa, ka⟩ := h.pa
  refine ⟨⟨_, RZ.pi_zipA hg hm pa (star_cons n1) (by rw [star_cons n2]; rfl), fun σ H e M R RV sl mr fr q k => ?_⟩⟩
  refine ka σ H e M _ _ sl mr fr q fun ds vs M1 H1 l m f q => ?_
  match ds, q with
  | [x, y], q =>
    rw [isL_cons] at l
    obtain ⟨v, rv, rfl, i, l⟩ := l
    rw [isL_cons] at l
    obtain ⟨u, ru, rfl, j, l⟩ := l
    rw [isL_nil] at l
    subst l
    rcases q with ⟨xs, ys, e1, e2, q⟩ | ⟨xs, ys, rfl, rfl, q⟩
    · obtain ⟨a, vs, rfl, s1, l1, t1⟩ := tuD_sq e1 i
      obtain ⟨b, ws, rfl, s2, l2, t2⟩ := tuD_sq e2 j
      exact ⟨a, b, vs, ws, rfl, .inr ⟨s1, s2, k _ _ M1 H1 (jrel_zip (F := fun H vs => SqT _ H a vs) (G := fun H ws => SqT _ H b ws) (fun M' H' m' f' => ⟨vs, ws, t1 _ f', t2 _ f', IsL.ext f' _ _ l1, IsL.ext f' _ _ l2⟩) go_zipT fun i H vs ws h1 h2 e => ⟨vs, ws, h1, h2, e⟩) m f q⟩⟩
    · rw [is_rl] at i j
      obtain ⟨a, vs, rfl, s1, l1⟩ := i
      obtain ⟨b, ws, rfl, s2, l2⟩ := j
      exact ⟨a, b, vs, ws, rfl, .inl ⟨s1.sq, s2.sq, k _ _ M1 H1 (jrel_zip (F := fun H vs => SqL _ H a vs) (G := fun H ws => SqL _ H b ws) (fun M' H' m' f' => ⟨vs, ws, (f'.2.1 _ _ s1).sq, (f'.2.1 _ _ s2).sq, IsL.ext f' _ _ l1, IsL.ext f' _ _ l2⟩) go_zipL fun i H vs ws h1 h2 e => ⟨vs, ws, h1, h2, e⟩) m f q⟩⟩
end DL

/-! name += e, name -= e over ints. -/
namespace DL
open PySem PySem.Spec PyProof.Rows L2
def dAug (add : Bool) (i : Nat) (t : DTE) : DTS := fun D E e M => match getS e i with
  | some (.int a) => t e M (fun y M1 => match y with
    | .int b => D.nx (setS e i (some (.int (if add then a + b else a - b)))) M1
    | _ => False) E
  | _ => False
theorem ds_aug {g : Gd} {i : Nat} {n : Str} {x : Expr} {te : DTE} {op : Operator} {pos p : Pos} (add : Bool) (ho : op = if add then .Add else .Sub) (hN : g.X.N.Nodup) (hi : g.X.N[i]? = some n) (hx : Loc g.X.env.scope n) (hf : g.X.fn n = true ∨ g.X.env.scope.names.lookup n = some .local) (h : DE g x te) :
    DS g (.AugAssign (.Name n p) op x pos) (dAug add i te) := by
  subst ho
  have hop : PIp g.X (if add then .Add else .Sub) (fun x y H Q => ∃ i j, x = .int i ∧ y = .int j ∧ Q (.int (if add then i + j else i - j)) H) := by
    cases add
    · exact in_sub
    · exact in_add
  refine ⟨⟨_, ps_aug hN hi hx h.pe hop hf, fun P hP σ H e M D DV sl mr pm le q => ?_⟩⟩
  have fr := hP.base _ _ pm
  unfold dAug at q
  cases eg : getS e i with
  | none => rw [eg] at q; exact q.elim
  | some d =>
    rw [eg] at q
    cases d with
    | int a =>
      obtain ⟨v, hv, iv⟩ := sl.get eg
      rw [is_int] at iv
      subst iv
      refine ⟨_, hv, low_start sl mr fr q fun v d M1 H1 i m f q => ?_⟩
      cases d with
      | int b =>
        rw [is_int] at i
        subst i
        exact ⟨a, b, rfl, rfl, le.nx _ _ _ _ (SRel.set ii_int _ (sl.ext (f.ext mr))) m (hP.step _ _ _ _ pm f) q⟩
      | _ => exact q.elim
    | _ => exact q.elim
end DL

/-! tuple + tuple, the objects known. -/
namespace DL
open PySem PySem.Spec PyProof.Rows L2
section
variable {X : Cx}
def rCatX : R2 := fun x y H Q => ∃ a b xs ys, x = .ref a ∧ y = .ref b ∧ TxA H a xs ∧ TxA H b ys ∧ xs.length + ys.length ≤ sizeLine ∧
  (xs = [] → Q (.ref b) H) ∧ (xs ≠ [] → ys = [] → Q (.ref a) H) ∧ (xs ≠ [] → ys ≠ [] → ∀ p, H p = none → ∀ o : Obj, o.dict = none → Q (.ref p) (upd H p (.frz o (.tup (xs ++ ys)))))
theorem op_catX : OpR X (binaryOp .Add) rCatX := by
  intro pins s σ H x y v u Q I rx ry h
  obtain ⟨a, b, xs, ys, rfl, rfl, ha, hb, hz, q0, q1, q2⟩ := h
  cases rx
  cases ry
  obtain ⟨its, r1, p1, _⟩ := I.tuple (ha.sq (K := X.K))
  obtain ⟨its2, r2, p2, _⟩ := I.tuple (hb.sq (K := X.K))
  by_cases hx : xs = []
  · subst hx
    cases r1
    exact cat_tup0 p1 p2 ⟨.ref b, H, I, rfl, q0 rfl⟩
  · refine HT.cat_tup p1 p2 (fun z => hx (r1.nil_iff.mp z)) (fun z => ⟨.ref a, H, I, rfl, q1 hx (r2.nil_iff.mp z)⟩) (fun z => ?_) (by rw [← r1.length, ← r2.length]; exact hz)
    exact ⟨.ref s.heap.objs.size, _, laidX (tk := s.toks) I (r1.append r2) (by rw [List.length_append]; exact hz), rfl, q2 hx (fun w => z (r2.nil_iff.mpr w)) _ (I.hok.fresh (Nat.le_refl _)) _ rfl⟩
def dAddX : R2D := fun x y M Q => match x with
  | .tx a => (match y with | .tx b => a.length + b.length ≤ sizeLine ∧ Q (.tx (a ++ b)) M | _ => False)
  | _ => False
theorem opd_addX : OpD X (binaryOp .Add) dAddX := by
  refine ⟨_, op_catX, fun M H Mo Ho x y a b Q QV m f i j fin q => ?_⟩
  cases a with
  | tx k =>
    cases b with
    | tx l =>
      have i0 := i
      have j0 := j
      rw [is_tx] at i j
      obtain ⟨p1, vs, rfl, h1, l1⟩ := i
      obtain ⟨p2, ws, rfl, h2, l2⟩ := j
      refine ⟨p1, p2, vs, ws, rfl, rfl, h1, h2, by rw [l1.length, l2.length]; exact q.1, fun e => ?_, fun _ e => ?_, fun _ _ => Fin.newX fin m f (l1.append l2) q.2⟩
      · have ek : k = [] := by
          have := l1.length
          rw [e] at this
          exact List.length_eq_zero_iff.mp this.symm
        subst ek
        exact fin _ _ _ _ j0 m f q.2
      · have el : l = [] := by
          have := l2.length
          rw [e] at this
          exact List.length_eq_zero_iff.mp this.symm
        subst el
        have q2 : Q (.tx k) M := by simpa using q.2
        exact fin _ _ _ _ i0 m f q2
    | _ => exact q.elim
  | _ => exact q.elim
end
end DL

/-! tuple(d.items()), the object known. -/
namespace DL
open PySem PySem.Spec PyProof.Rows L2
section
variable {prog : Program} {w : World} {A : Around} {E : Value → Shared → Prop} {s : Shared} {r d : Addr} {κ' : Type} [DecidableEq κ'] {knd : KeyKind prog w κ'} {kvs : List (κ' × Value)} {ep : Nat}
theorem tuple_new_items {Q₁ : Value → Shared → Prop} (hh : A.handled = none) (hv : s.heap.IsItemsView r d) (hm : s.heap.DictAt knd d kvs ep) (hn : kvs.length ≤ sizeLine)
    (h : ∀ (h' : Heap) (tk : Nat) (as : List Addr), (∀ b o, s.heap.get? b = some o → h'.get? b = some o) → as.length = kvs.length → PySem.W.KdxG knd kvs s.heap.objs.size h' as →
      Q₁ (.ref h'.objs.size) { s with heap := h'.push { cls := .type "tuple", data := .seq (as.map Value.ref).toArray }, toks := tk }) :
    codeAny (model prog w) A (.call (.builtin "tuple.__new__") ⟨[.type "tuple", .ref r], []⟩) (wants Q₁ E) s := by
  refine codeAny_of_tree ?_
  show wpAny _ A.in1 (do checkBuiltinCall "tuple.__new__" ⟨[.type "tuple", .ref r], []⟩; again (.builtin "tuple.__new__" ⟨[.type "tuple", .ref r], []⟩)) _ _ s
  refine wpAny_bind (wpAny_of_eq (F.newCall_tuple_1 _) (wpAny_pure ⟨plainId_quiet F.plain_tuple_new _, codeAny_builtin F.entry_tuple_new ?_⟩))
  rw [Around.under_plainId F.plain_tuple_new _]
  have hsub := sub_tuple_self
  have hinit := init_tuple_lookup
  have hmh := madeHere_tuple
  have hTI : s.TypeIs (.ref r) "dict_items" := hv.typeIs
  have hh1 : A.in1.handled = none := hh
  wp_walk using wpAny_typeOf hTI, PySem.W.kdx_collect (A := A.in1) (knd := knd) (kvs := kvs) (ep := ep) hh1 hv hm hn
  intro h' tk as hk hl hG
  show wpAny _ _ (Builtin.Tuple.tupleExact (as.map Value.ref).toArray >>= fun v => ret v) _ _ _
  unfold Builtin.Tuple.tupleExact
  refine wpAny_bind (wpAny_newObj_type ?_ (by show (as.map Value.ref).toArray.size ≤ sizeLine; simp only [List.size_toArray, List.length_map]; omega))
  refine wpAny_pure ?_
  exact h h' tk as hk hl hG
theorem call_tuple_items {Q : Value → Shared → Prop} (hh : A.handled = none) (hv : s.heap.IsItemsView r d) (hm : s.heap.DictAt knd d kvs ep) (hn : kvs.length ≤ sizeLine)
    (hQ : ∀ (h' : Heap) (tk : Nat) (as : List Addr), (∀ b o, s.heap.get? b = some o → h'.get? b = some o) → as.length = kvs.length → PySem.W.KdxG knd kvs s.heap.objs.size h' as →
      Q (.ref h'.objs.size) { s with heap := h'.push { cls := .type "tuple", data := .seq (as.map Value.ref).toArray }, toks := tk }) :
    wpAny (model prog w) A (call (.type "tuple") [.ref r]) Q E s := by
  refine callType_codes (Q₁ := fun obj s₁ => s₁.TypeIs obj "tuple" ∧ Q obj s₁) F.called_tuple (F.typeCall_tuple_1 _) F.entry_object_init
    (tuple_new_items (A := A.in1) hh hv hm hn fun h' tk as hk hl hG => ⟨⟨_, Heap.get?_push_size _ rfl, rfl⟩, hQ h' tk as hk hl hG⟩) fun obj s₁ h₁ => ?_
  exact ⟨h₁.1, F.args_object_init_2 obj _, object_init_meets F.called_tuple.init.lookup F.called_tuple.made (by decide) prog w A.in1 _ s₁ ⟨h₁.1, rfl, h₁.2⟩⟩
end
section
variable {X : Cx}
theorem items_laid0 {pins : List (Addr × Obj)} {σ : L2.St} {H : Hp} {s : Shared} {h' : Heap} {tk : Nat} {kvs : List (Key × V)} {vs : List (Key × Value)} {as : List Addr} (I : Inv X pins σ H s) (kv : KV kvs vs)
    (hk : ∀ b o, s.heap.get? b = some o → h'.get? b = some o) (hl : as.length = vs.length) (hG : PySem.W.KdxG (mixKind X.prog X.w) vs s.heap.objs.size h' as) :
    ∃ H' : Hp, (∀ b o, H b = some o → H' b = some o) ∧ (∀ t ∈ as, H t = none) ∧ (∀ b, b ∉ as → H' b = H b) ∧ Paired (fun (t : Addr) (q : Key × V) => H' t = some (.tup [kV q.1, q.2])) as kvs ∧ Inv X pins σ H' { s with heap := h', toks := tk } := by
  have lk : kvs.length = vs.length := Paired.length kv
  have nd : as.Nodup := List.Pairwise.imp (fun {a b} (h : a < b) => Nat.ne_of_lt h) hG.rise
  have new : ∀ t ∈ as, H t = none := fun t ht => I.hok.fresh (Nat.le_of_lt (hG.above t ht))
  have atP := LiI.putT_at as kvs H (by omega) nd
  have off : ∀ b, b ∉ as → LiI.putT H as kvs b = H b := fun b h1 => LiI.putT_off as kvs _ h1
  have low : ∀ b o, s.heap.get? b = some o → b ∉ as := fun b o e z => absurd (Heap.lt_size e) (Nat.not_lt.mpr (Nat.le_of_lt (hG.above b z)))
  have kp : ∀ b u, H b = some u → LiI.putT H as kvs b = some u := fun b u e => by
    rw [off b (fun z => by rw [new b z] at e; cases e)]
    exact e
  refine ⟨LiI.putT H as kvs, kp, new, off, atP, ?_⟩
  refine I.call' (ch := []) rfl ⟨fun b o q _ _ _ => hk b o q, fun b o q _ _ _ => ⟨o.slots, hk b o q⟩, fun b o q n _ => ?_, fun b o q _ => ⟨o, hk b o q⟩, fun b xs q => kp b _ q, fun b o u q => kp b _ q, fun b ps q => ⟨#[], by rw [kp b _ q]; simp⟩⟩ (fun b u q => ?_) I.bare fun b z => by simp at z
  · rw [off b (low b o q)]
    exact n
  · by_cases hb : b ∈ as
    · obtain ⟨j, pk, e1, e2, e3⟩ := LiI.paired_ix atP hb
      rw [e3] at q
      cases q
      obtain ⟨key, k, x, f1, f2, f3⟩ := hG.pairs j b e1
      obtain ⟨qv, g1, g2, g3⟩ := LiI.paired_get kv e2
      rw [f1] at g1
      cases g1
      have rk : RelV (kV pk.1) key := by
        rw [g2]
        exact relV_key (show keyIs k key = true from f2)
      exact ⟨by show 2 ≤ sizeLine; decide, [key, x], .cons rk (.cons g3 .nil), ⟨_, f3, rfl, _, rfl⟩⟩
    · rw [off b hb] at q
      exact (I.hok b u q).stay (fun d v _ y => hk d v y) (fun d y => kp d _ y) fun d xs y => kp d _ y
end
theorem fr_more {M : Mem} {H H' : Hp} (hk : ∀ b u, H b = some u → H' b = some u) : Fr M H M H' := ⟨fun b o hb n => ⟨hk _ _ hb, n⟩, fun b h => by
  cases e : H b with
  | none => rfl
  | some u => rw [hk _ _ e] at h; cases h⟩
theorem mr_more {K : PySem.W.Frag} {M : Mem} {H H' : Hp} (r : MRel K M H) (hk : ∀ b u, H b = some u → H' b = some u) : MRel K M H' := fun a o e => by
  refine (r a o e).ext ((fr_more hk).ext r) ?_
  cases h : H a with
  | none => rw [r.none_of h] at e; cases e
  | some u => exact hk _ _ h
section
variable {X : Cx} {e : Expr} {te : TE} {p apos cpos pos : Pos}
def rItemsX : V → Hp → VK → Prop := fun x H Q => ∃ (d : Addr) (kvs : List (Key × V)), x = .ref d ∧ H d = some (.dK kvs) ∧
  ∀ (H' : Hp) (p : Addr) (ts : List Addr) (o : Obj), o.dict = none → (∀ b u, H b = some u → H' b = some u) → H' p = none → Paired (fun (t : Addr) (q : Key × V) => H' t = some (.tup [kV q.1, q.2])) ts kvs → Q (.ref p) (upd H' p (.frz o (.tup (ts.map V.ref))))
theorem pe_tupItems (hc : X.calm = true) (he : PE X e te) (hg : Gl X "tuple") (hm : X.mg "tuple" = none) (hv : bootBuiltins "tuple" = some (.type "tuple")) (hbase : attributeBase e "items" X.env (eval e X.env) = eval e X.env) (hline : (apos.endLine == cpos.line) = true)
    (hs : starEach [.Call (.Attribute e "items" apos) [] [] cpos] X.env = (false, eval (.Call (.Attribute e "items" apos) [] [] cpos) X.env) :: starEach [] X.env) :
    PE X (.Call (.Name "tuple" p) [.Call (.Attribute e "items" apos) [] [] cpos] [] pos) (fun σ H Q => te σ H fun x H1 => rItemsX x H1 Q) := by
  refine ⟨fun pins s σ H Q I hq => ?_⟩
  refine wpAny_Call_Name_kw (ld_blt I hg hm hv ?_)
  refine PyProof.Rows.callWith_type1 ?_ hs rfl
  rw [hs]
  show wpAny _ _ (spliced ((false, eval (.Call (.Attribute e "items" apos) [] [] cpos) X.env) :: backTo pos (starEach [] X.env))) _ _ s
  refine Calls.spliced_cons ?_
  refine wpAny_Call_method (T := "dict") (id := "dict.items") hbase rfl hline F.plainAttrs_dict F.slot_dict_items F.type_dict_items (thn (he.run pins s σ H _ I hq) fun u s1 ⟨x, H1, I1, rx, d, kvs, ex, hd, q⟩ => ?_)
  subst ex
  obtain rfl : u = Value.ref d := rx
  obtain ⟨hz, hs0, vs, kv, hdo⟩ := I1.hok d _ hd
  obtain ⟨ep, hat⟩ := hdo.dictAt
  have lk : kvs.length = vs.length := Paired.length kv
  have I2 : Inv X pins σ H1 { s1 with heap := s1.heap.push { cls := .type "dict_items", data := .fields #[.ref d] } } := I1.kept (t' := s1.toks) fun b ob q => Heap.get?_push_of_some _ q
  refine ⟨hdo.typeIs, hdo.mapOf.noDict, ?_⟩
  show wpAny _ _ (callWith cpos (.builtin "dict.items") [.ref d] [] []) _ X.xe s1
  refine method_meetsIn F.slot_dict_items F.entry_dict_items rfl (PySem.evalArgs_none ⟨rfl, hdo.typeIs, F.args_dict_items_1 _, _, meets_dict_items (mixKind X.prog X.w) d hs0, ⟨vs, hdo⟩, ?_⟩)
  refine Calls.spliced_nil ?_
  refine call_tuple_items (knd := mixKind X.prog X.w) (kvs := vs) (ep := ep) (I1.ok.hd hc) ⟨_, Heap.get?_push_size _ rfl, rfl, rfl⟩ (hat.push _) (by omega) fun h' tk as hk hl hG => ?_
  obtain ⟨H', k1, k2, k3, k4, J⟩ := items_laid0 (tk := tk) I2 kv hk hl hG
  refine ⟨.ref h'.objs.size, _, laidX (tk := tk) J (LiI.vals_refs as) (by rw [List.length_map]; omega), rfl, q H' _ as _ rfl k1 (J.hok.fresh (Nat.le_refl _)) k4⟩
end
def dItX (t : DTE) : DTE := fun e M Q E => t e M (fun x M1 => match x with
  | .ref a => ∃ kvs, M1 a = some (.dK kvs) ∧ Q (.tx (kvs.map pairD)) M1
  | _ => False) E
theorem paired_imp {α β : Type} {F G : α → β → Prop} (h : ∀ x y, F x y → G x y) : ∀ {xs : List α} {ys : List β}, Paired F xs ys → Paired G xs ys
  | _, _, .nil => .nil
  | _, _, .cons a t => .cons (h _ _ a) (paired_imp h t)
theorem isL_laid {K : PySem.W.Frag} {H H' : Hp} (x : Ext K H H') : ∀ {kvs : List (Key × D)} {ws : List (Key × V)} {ts : List Addr}, ws.map (·.1) = kvs.map (·.1) → IsL K H (kvs.map (·.2)) (ws.map (·.2)) → Paired (fun (t : Addr) (q : Key × V) => H' t = some (.tup [kV q.1, q.2])) ts ws → IsL K H' (kvs.map pairD) (ts.map V.ref)
  | [], [], _, _, _, .nil => isL_nil.mpr rfl
  | [], _ :: _, _, h, _, _ => by simp at h
  | _ :: _, [], _, h, _, _ => by simp at h
  | (k, d) :: kvs, (k', v) :: ws, _, h, l, .cons e t => by
    rw [List.map_cons, List.map_cons] at h
    injection h with h1 h2
    simp only at h1
    subst h1
    rw [List.map_cons, List.map_cons, isL_cons] at l
    obtain ⟨v', r, e1, i, l⟩ := l
    injection e1 with e1 e2
    subst e1 e2
    refine IsL.mk (ii_tup e (IsL.mk ?_ (IsL.mk (Is.ext x _ _ i) (isL_nil.mpr rfl)))) (isL_laid x h2 l t)
    cases k' with
    | inl j => exact ii_int
    | inr z => exact ii_str
theorem de_itX {g : Gd} {o : Expr} {to : DTE} {p apos cpos pos : Pos} (hc : g.X.calm = true) (ho : DE g o to) (hg : Gl g.X "tuple") (hm : g.X.mg "tuple" = none) (hbase : attributeBase o "items" g.X.env (eval o g.X.env) = eval o g.X.env) (hline : (apos.endLine == cpos.line) = true) :
    DE g (.Call (.Name "tuple" p) [.Call (.Attribute o "items" apos) [] [] cpos] [] pos) (dItX to) := by
  refine DE.of (pe_tupItems hc ho.pe hg hm rfl hbase hline rfl) fun σ H e M Q sl mr fr q => ?_
  refine low_start sl mr fr q fun v d M1 H1 i m f q => ?_
  cases d with
  | ref a =>
    rw [is_ref] at i
    subst i
    obtain ⟨kvs, hM, q⟩ := q
    obtain ⟨ws, hH, hk, hl⟩ := m a _ hM
    refine ⟨a, ws, rfl, hH, fun H' p ts ob hd k1 k2 pr => ?_⟩
    have m1 := mr_more m k1
    have f1 := fr_more (M := M1) k1
    have x1 := (f1.ext m).trans ((fr_new (o := HO.frz ob (.tup (ts.map V.ref))) m1 k2).ext m1)
    have f2 := f1.trans (fr_new (o := HO.frz ob (.tup (ts.map V.ref))) m1 k2)
    have pr' : Paired (fun (t : Addr) (q : Key × V) => upd H' p (.frz ob (.tup (ts.map V.ref))) t = some (.tup [kV q.1, q.2])) ts ws := paired_imp (fun t q e => by
      have : t ≠ p := fun z => by subst z; rw [k2] at e; cases e
      rw [upd_ne this]; exact e) pr
    exact lowQ.mk (is_tx.mpr ⟨p, ts.map V.ref, rfl, ⟨ob, upd_same, hd⟩, isL_laid x1 hk hl pr'⟩) (mr_new m1 k2) (f.trans f2) q
  | _ => exact q.elim
end DL

/-! tuple(a dict): its keys, the object known. -/
namespace DL
open PySem PySem.Spec PyProof.Rows L2
section
variable {prog : Program} {w : World} {A : Around} {E : Value → Shared → Prop} {s : Shared} {r d : Addr} {n : Nat} {P : Nat → Value → Prop} {OK : Heap → Prop}
theorem tuple_new_src {Q₁ : Value → Shared → Prop} (K : PySem.W.KdlSrc prog w "dict" r d n P OK) (hh : A.handled = none) (hok : OK s.heap) (hn : n ≤ sizeLine)
    (h : ∀ (h' : Heap) (tk : Nat) (acc : Array Value), (∀ b o, s.heap.get? b = some o → h'.get? b = some o) → ItemsOf P acc n →
      Q₁ (.ref h'.objs.size) { s with heap := h'.push { cls := .type "tuple", data := .seq acc }, toks := tk }) :
    codeAny (model prog w) A (.call (.builtin "tuple.__new__") ⟨[.type "tuple", .ref r], []⟩) (wants Q₁ E) s := by
  refine codeAny_of_tree ?_
  show wpAny _ A.in1 (do checkBuiltinCall "tuple.__new__" ⟨[.type "tuple", .ref r], []⟩; again (.builtin "tuple.__new__" ⟨[.type "tuple", .ref r], []⟩)) _ _ s
  refine wpAny_bind (wpAny_of_eq (F.newCall_tuple_1 _) (wpAny_pure ⟨plainId_quiet F.plain_tuple_new _, codeAny_builtin F.entry_tuple_new ?_⟩))
  rw [Around.under_plainId F.plain_tuple_new _]
  have hsub := sub_tuple_self
  have hinit := init_tuple_lookup
  have hmh := madeHere_tuple
  have hTI : s.TypeIs (.ref r) "dict" := K.type s hok
  have hh1 : A.in1.handled = none := hh
  wp_walk using wpAny_typeOf hTI, PySem.W.kdu_collect (A := A.in1) K hh1 hok hn
  intro h' tk acc hk hacc
  show wpAny _ _ (Builtin.Tuple.tupleExact acc.toList.toArray >>= fun v => ret v) _ _ _
  unfold Builtin.Tuple.tupleExact
  refine wpAny_bind (wpAny_newObj_type ?_ (by show acc.toList.toArray.size ≤ sizeLine; simp only [Array.toArray_toList]; rw [hacc.1]; omega))
  refine wpAny_pure ?_
  have e : acc.toList.toArray = acc := by simp
  rw [e]
  exact h h' tk acc hk hacc
theorem call_tuple_src {Q : Value → Shared → Prop} (K : PySem.W.KdlSrc prog w "dict" r d n P OK) (hh : A.handled = none) (hok : OK s.heap) (hn : n ≤ sizeLine)
    (hQ : ∀ (h' : Heap) (tk : Nat) (acc : Array Value), (∀ b o, s.heap.get? b = some o → h'.get? b = some o) → ItemsOf P acc n →
      Q (.ref h'.objs.size) { s with heap := h'.push { cls := .type "tuple", data := .seq acc }, toks := tk }) :
    wpAny (model prog w) A (call (.type "tuple") [.ref r]) Q E s := by
  refine callType_codes (Q₁ := fun obj s₁ => s₁.TypeIs obj "tuple" ∧ Q obj s₁) F.called_tuple (F.typeCall_tuple_1 _) F.entry_object_init
    (tuple_new_src (A := A.in1) K hh hok hn fun h' tk acc hk hacc => ⟨⟨_, Heap.get?_push_size _ rfl, rfl⟩, hQ h' tk acc hk hacc⟩) fun obj s₁ h₁ => ?_
  exact ⟨h₁.1, F.args_object_init_2 obj _, object_init_meets F.called_tuple.init.lookup F.called_tuple.made (by decide) prog w A.in1 _ s₁ ⟨h₁.1, rfl, h₁.2⟩⟩
end
section
variable {X : Cx}
theorem call_tuple_dK (hc : X.calm = true) : CallR X (.type "tuple") (fun xs H Q => ∃ p kvs, xs = [.ref p] ∧ H p = some (.dK kvs) ∧ ∀ q, H q = none → ∀ o : Obj, o.dict = none → Q (.ref q) (upd H q (.frz o (.tup (kvs.map fun kv => kV kv.1))))) := by
  intro pins s σ H xs us Q I r h
  obtain ⟨p, kvs, e, hk, q⟩ := h
  subst e
  obtain ⟨u, eu, rx⟩ := vals1 r
  subst eu
  obtain rfl : u = Value.ref p := rx
  obtain ⟨z, lo, vs, rk, hd⟩ := (show ObjOk X.prog X.w H s.heap p (.dK kvs) from I.hok p _ hk)
  obtain ⟨ep, hat⟩ := hd.dictAt
  have hl : kvs.length = vs.length := Paired.length rk
  refine call_tuple_src (PySem.W.kdl_dict (knd := mixKind X.prog X.w) (kvs := vs) (ep := ep) lo) (I.ok.hd hc) hat (by rw [← hl]; exact z) fun h' tk acc' hkeep hacc => ?_
  have J : Inv X pins σ H { s with heap := h', toks := tk } := I.kept hkeep
  have rel : Vals (kvs.map fun kv => kV kv.1) acc'.toList := by
    have el : acc'.toList.length = acc'.size := by simp
    refine vals_of_at (by rw [List.length_map, el, hacc.1, hl]) fun j x w h1 h2 => ?_
    obtain ⟨k, y, hky, hi⟩ := hacc.2 j w (by rw [← Array.getElem?_toList]; exact h2)
    have e1 : (kvs.map (·.1))[j]? = some k := by
      rw [KV.keys rk, List.getElem?_map, hky] <;> rfl
    have e2 : (kvs.map fun kv => kV kv.1)[j]? = some (kV k) := by
      have e3 : (kvs.map fun kv => kV kv.1) = (kvs.map (·.1)).map kV := by rw [List.map_map] <;> rfl
      rw [e3, List.getElem?_map, e1] <;> rfl
    rw [e2] at h1
    cases h1
    exact keyIs_rel hi
  have hlaid := laidX (tk := tk) J rel (by rw [List.length_map]; exact z)
  rw [Array.toArray_toList] at hlaid
  exact ⟨.ref h'.objs.size, _, hlaid, rfl, q _ (J.hok.fresh (Nat.le_refl _)) _ rfl⟩
/-- tuple(d): the keys -/
def rTupleK : RnD := fun ds M Q => match ds with
  | [.ref a] => ∃ kvs, M a = some (.dK kvs) ∧ Q (.tx (kvs.map fun kv => keyV kv.1)) M
  | _ => False
theorem cd_tupleK (hc : X.calm = true) : CallD X (.type "tuple") rTupleK := by
  refine ⟨_, call_tuple_dK hc, fun M H Mo Ho vs ds Q QV m f l fin q => ?_⟩
  match ds, q with
  | [.ref a], q =>
    obtain ⟨v, rfl, j⟩ := isL_one l
    rw [is_ref] at j
    subst j
    obtain ⟨kvs, h, q⟩ := q
    obtain ⟨ws, e, hk, l1⟩ := m a _ h
    refine ⟨a, ws, rfl, e, Fin.newX fin m f ?_ q⟩
    have : (ws.map fun kv => kV kv.1) = (kvs.map fun kv => kV kv.1) := by
      have e3 : (ws.map fun kv => kV kv.1) = (ws.map (·.1)).map kV := by rw [List.map_map] <;> rfl
      have e4 : (kvs.map fun kv => kV kv.1) = (kvs.map (·.1)).map kV := by rw [List.map_map] <;> rfl
      rw [e3, e4, hk]
    rw [this]
    exact isL_map (fun kv => by
      cases kv.1 with
      | inl j => exact ii_int
      | inr z => exact ii_str) kvs
end
end DL

/-! list(zip(a, b)) of two tuples: the pairs stay. -/
namespace DL
open PySem PySem.Spec PyProof.Rows L2
theorem nolenZ : typeLookup (.type "zip") "__len__" = pure none := by rw [typeLookup_type, builtinLookup_eq_fast]; kernel_rfl
theorem nohintZ : typeLookup (.type "zip") "__length_hint__" = pure none := by rw [typeLookup_type, builtinLookup_eq_fast]; kernel_rfl
/-- a zip whose last pair is held -/
abbrev ZHeld (h : Heap) (z TI TO a : Addr) (f : Bool) : Prop :=
  h.get? z = some { cls := .type "zip", dict := none, data := .fields #[rawInt a, .bool f, .bool false, .ref TI, .ref TO], slots := #[] }
section
variable {prog : Program} {w : World} {A : Around} {E : Value → Shared → Prop} {s : Shared} {z TI TO i1 i2 l1 l2 : Addr} {xs ys : Array Value}
theorem zh_free {a : Addr} {f : Bool} {oa : Obj} {Q : Bool → Shared → Prop} (hz : ZHeld s.heap z TI TO a f) (ha : s.heap.get? a = some oa)
    (h : ∀ h1, ZHeld h1 z TI TO a true → Heap.SameBut z s.heap h1 → Q false { s with heap := h1 }) : wpAny (model prog w) A (Builtin.SmallTypes.ownedTupleIsFree (.ref z)) Q E s := by
  unfold Builtin.SmallTypes.ownedTupleIsFree
  refine wpAny_bind (wpAny_field hz rfl (x := rawInt a) rfl ?_)
  show wpAny _ _ (loadIfAlive ((a : Int).toNat) >>= _) _ _ _
  rw [Int.toNat_natCast]
  refine wpAny_bind (PySem.W.kdx_alive ha ?_)
  simp only [Option.isNone_some, Bool.false_eq_true, if_false]
  refine wpAny_bind (wpAny_field hz rfl (x := .bool f) rfl ?_)
  cases f with
  | true =>
    rw [if_neg (show ¬ ((Value.bool true != Value.bool true) = true) from Bool.false_ne_true)]
    exact wpAny_pure (h s.heap hz (Heap.SameBut.refl _ _))
  | false =>
    rw [if_pos (show (Value.bool false != Value.bool true) = true from rfl)]
    exact wpAny_bind (wpAny_setField_rec hz (by simp) fun h3 hz3 hs3 => wpAny_pure (h h3 hz3 hs3))
theorem zh_next_item {a k1 k2 : Addr} {f : Bool} {oa : Obj} {x y : Value} {Q : Value → Shared → Prop} (D : ZipApart z TI TO i1 i2 l1 l2) (hz : ZHeld s.heap z TI TO a f) (ha : s.heap.get? a = some oa) (hTI : IsPair s.heap TI (.ref i1) (.ref i2))
    (h1 : s.heap.IsTupleIter i1 l1 k1) (h2 : s.heap.IsTupleIter i2 l2 k2) (hl1 : s.heap.IsTuple l1 xs) (hl2 : s.heap.IsTuple l2 ys) (hx : xs[k1]? = some x) (hy : ys[k2]? = some y)
    (hQ : ∀ h', ZHeld h' z TI TO a true → h'.IsTupleIter i1 l1 (k1 + 1) → h'.IsTupleIter i2 l2 (k2 + 1) → IsPair h' s.heap.objs.size x y → h'.objs.size = s.heap.objs.size + 1 →
      (∀ c o, c ≠ z → c ≠ i1 → c ≠ i2 → s.heap.get? c = some o → h'.get? c = some o) → Q (.ref s.heap.objs.size) { s with heap := h' }) :
    wpAny (model prog w) A (Builtin.«zip.__next__» ⟨[.ref z], []⟩) (fun fin s' => ∃ v, fin = .done (.ret v) ∧ Q v s') E s := by
  show wpAny _ _ (field (.ref z) 2 >>= _) _ _ _
  refine wpAny_bind (wpAny_field hz rfl (x := .bool false) rfl ?_)
  show wpAny _ _ (field (.ref z) 3 >>= _) _ _ _
  refine wpAny_bind (wpAny_field hz rfl (x := .ref TI) rfl ?_)
  refine wpAny_bind (wpAny_seqItems hTI rfl ?_)
  show wpAny _ _ (Builtin.SmallTypes.ownedTupleIsFree (.ref z) >>= _) _ _ _
  refine wpAny_bind (zh_free hz ha fun g1 hz1 hs1 => ?_)
  simp only [Bool.false_eq_true, if_false]
  refine wpAny_bind ?_
  first
  | rw [List.forIn_toArray]
  | (rw [← Array.forIn_toList]; simp only [List.toList_toArray])
  | rw [← Array.forIn_toList]
  simp only [List.forIn_cons, List.forIn_nil]
  refine wpAny_bind (wpAny_bind (wpAny_holding ?_))
  show wpAny _ _ (Builtin.SmallTypes.nextOf (.ref i1) >>= _) _ _ _
  refine wpAny_bind (RZ.nextOf_tuple_item (h1.extBut hs1.extBut D.i1z) (hl1.extBut hs1.extBut D.l1z) hx fun g2 h12 hs2 => wpAny_pure ?_)
  refine wpAny_pure ?_
  refine wpAny_bind (wpAny_bind (wpAny_holding ?_))
  show wpAny _ _ (Builtin.SmallTypes.nextOf (.ref i2) >>= _) _ _ _
  refine wpAny_bind (RZ.nextOf_tuple_item ((h2.extBut hs1.extBut D.i2z).extBut hs2.extBut D.i12.symm) ((hl2.extBut hs1.extBut D.l2z).extBut hs2.extBut D.l2i1) hy fun g3 h23 hs3 => wpAny_pure ?_)
  refine wpAny_pure (wpAny_pure ?_)
  have hsz : g3.objs.size = s.heap.objs.size := by rw [hs3.1, hs2.1, hs1.1]
  show wpAny _ _ (newTuple [x, y] >>= _) _ _ _
  refine wpAny_bind (wpAny_newTuple ?_)
  have hi1lt : i1 < g3.objs.size := by
    rw [hsz]
    obtain ⟨_, e, _⟩ := h1
    exact Heap.lt_size e
  have up : ∀ c o, g3.get? c = some o → (g3.push { cls := .type "tuple", data := .seq #[x, y] }).get? c = some o := fun c o e => Heap.get?_push_of_some _ e
  refine wpAny_pure ⟨_, rfl, ?_⟩
  show Q (.ref g3.objs.size) _
  have hT : IsPair (g3.push { cls := .type "tuple", data := .seq #[x, y] }) g3.objs.size x y := Heap.get?_push_size _ rfl
  have hz8 : (g3.push { cls := .type "tuple", data := .seq #[x, y] }).objs.size = g3.objs.size + 1 := Heap.size_push ..
  rw [hsz] at hT hz8 ⊢
  exact hQ _ (up _ _ (hs3.extBut _ _ D.i2z.symm (hs2.extBut _ _ D.i1z.symm hz1))) ((h12.extBut hs3.extBut D.i12).at fun o e => up _ o e) (h23.at fun o e => up _ o e) hT hz8 fun c o c1 c3 c4 e => up c o (hs3.extBut _ _ c4 (hs2.extBut _ _ c3 (hs1.extBut _ _ c1 e)))
theorem zh_next_end {a k1 k2 : Addr} {f : Bool} {oa : Obj} {Q : PySem.Fin → Shared → Prop} (hh : A.handled = none) (D : ZipApart z TI TO i1 i2 l1 l2) (hz : ZHeld s.heap z TI TO a f) (ha : s.heap.get? a = some oa) (hTI : IsPair s.heap TI (.ref i1) (.ref i2))
    (h1 : s.heap.IsTupleIter i1 l1 k1) (h2 : s.heap.IsTupleIter i2 l2 k2) (hl1 : s.heap.IsTuple l1 xs) (hl2 : s.heap.IsTuple l2 ys) (hend : xs[k1]? = none ∨ ys[k2]? = none)
    (hE : ∀ h' e, (∀ c o, c ≠ z → c ≠ i1 → c ≠ i2 → s.heap.get? c = some o → h'.get? c = some o) → (∃ o, h'.get? e = some o ∧ o.cls = .type "StopIteration") → E (.ref e) { s with heap := h' }) :
    wpAny (model prog w) A (Builtin.«zip.__next__» ⟨[.ref z], []⟩) Q E s := by
  show wpAny _ _ (field (.ref z) 2 >>= _) _ _ _
  refine wpAny_bind (wpAny_field hz rfl (x := .bool false) rfl ?_)
  show wpAny _ _ (field (.ref z) 3 >>= _) _ _ _
  refine wpAny_bind (wpAny_field hz rfl (x := .ref TI) rfl ?_)
  refine wpAny_bind (wpAny_seqItems hTI rfl ?_)
  show wpAny _ _ (Builtin.SmallTypes.ownedTupleIsFree (.ref z) >>= _) _ _ _
  refine wpAny_bind (zh_free hz ha fun g1 hz1 hs1 => ?_)
  simp only [Bool.false_eq_true, if_false]
  refine wpAny_bind ?_
  first
  | rw [List.forIn_toArray]
  | (rw [← Array.forIn_toList]; simp only [List.toList_toArray])
  | rw [← Array.forIn_toList]
  simp only [List.forIn_cons, List.forIn_nil]
  refine wpAny_bind (wpAny_bind (wpAny_holding ?_))
  show wpAny _ _ (Builtin.SmallTypes.nextOf (.ref i1) >>= _) _ _ _
  cases hx : xs[k1]? with
  | none =>
    exact wpAny_bind (RZ.nextOf_tuple_end hh (h1.extBut hs1.extBut D.i1z) (hl1.extBut hs1.extBut D.l1z) hx fun g2 e hs2 he => hE g2 e (fun c o c1 c3 _ q => hs2 _ _ c3 (hs1.extBut _ _ c1 q)) he)
  | some x =>
    have hy : ys[k2]? = none := by rcases hend with h | h; rw [hx] at h; cases h; exact h
    refine wpAny_bind (RZ.nextOf_tuple_item (h1.extBut hs1.extBut D.i1z) (hl1.extBut hs1.extBut D.l1z) hx fun g2 h12 hs2 => wpAny_pure ?_)
    refine wpAny_pure ?_
    refine wpAny_bind (wpAny_bind (wpAny_holding ?_))
    show wpAny _ _ (Builtin.SmallTypes.nextOf (.ref i2) >>= _) _ _ _
    exact wpAny_bind (RZ.nextOf_tuple_end hh ((h2.extBut hs1.extBut D.i2z).extBut hs2.extBut D.i12.symm) ((hl2.extBut hs1.extBut D.l2z).extBut hs2.extBut D.l2i1) hy fun g3 e hs3 he => hE g3 e (fun c o c1 c3 c4 q => hs3 _ _ c4 (hs2.extBut _ _ c3 (hs1.extBut _ _ c1 q))) he)
/-- how a zip stands behind i draws, all pairs held -/
def ZSt (h : Heap) (z TI TO i1 i2 l1 l2 S : Addr) (i : Nat) : Prop :=
  IsPair h TI (.ref i1) (.ref i2) ∧ h.IsTupleIter i1 l1 i ∧ h.IsTupleIter i2 l2 i ∧ ((IsZip h z TI TO .none ∧ ∃ a b, IsPair h TO a b) ∨ ∃ (a : Addr) (f : Bool) (oa : Obj), ZHeld h z TI TO a f ∧ h.get? a = some oa ∧ S < a)
structure ZLow (z TI TO i1 i2 l1 l2 S : Addr) : Prop where
  z : z < S
  TI : TI < S
  TO : TO < S
  i1 : i1 < S
  i2 : i2 < S
  l1 : l1 < S
  l2 : l2 < S
theorem ZSt.keep {h h' : Heap} {S : Addr} {i : Nat} (L : ZLow z TI TO i1 i2 l1 l2 S) (x : ZSt h z TI TO i1 i2 l1 l2 S i) (hk : ∀ b o, b ≠ S → h.get? b = some o → h'.get? b = some o) : ZSt h' z TI TO i1 i2 l1 l2 S i := by
  obtain ⟨a1, a2, a3, a4⟩ := x
  refine ⟨hk _ _ (Nat.ne_of_lt L.TI) a1, a2.at fun o e => hk _ o (Nat.ne_of_lt L.i1) e, a3.at fun o e => hk _ o (Nat.ne_of_lt L.i2) e, ?_⟩
  rcases a4 with ⟨b1, a, b, b2⟩ | ⟨a, f, oa, b1, b2, b3⟩
  · exact .inl ⟨hk _ _ (Nat.ne_of_lt L.z) b1, a, b, hk _ _ (Nat.ne_of_lt L.TO) b2⟩
  · exact .inr ⟨a, f, oa, hk _ _ (Nat.ne_of_lt L.z) b1, hk _ _ (Nat.ne_of_gt b3) b2, b3⟩
theorem zs_item {S : Addr} {i : Nat} {x y : Value} {Q : Option Value → Shared → Prop} (D : ZipApart z TI TO i1 i2 l1 l2) (L : ZLow z TI TO i1 i2 l1 l2 S) (st : ZSt s.heap z TI TO i1 i2 l1 l2 S i) (hS : S < s.heap.objs.size)
    (hl1 : s.heap.IsTuple l1 xs) (hl2 : s.heap.IsTuple l2 ys) (hx : xs[i]? = some x) (hy : ys[i]? = some y)
    (hQ : ∀ h', ZSt h' z TI TO i1 i2 l1 l2 S (i + 1) → IsPair h' s.heap.objs.size x y → h'.objs.size = s.heap.objs.size + 1 →
      (∀ c o, c ≠ z → c ≠ TO → c ≠ i1 → c ≠ i2 → s.heap.get? c = some o → h'.get? c = some o) → Q (some (.ref s.heap.objs.size)) { s with heap := h' }) :
    wpAny (model prog w) A (pyNext (.ref z)) Q E s := by
  obtain ⟨hTI, h1, h2, ⟨hz, a, b, hTO⟩ | ⟨a, f, oa, hz, ha, haS⟩⟩ := st
  · refine RZ.pyNext_zipT_item D hz hTI hTO h1 h2 hl1 hl2 hx hy fun h' z' TO' h1' h2' hT hsz hk => hQ h' ⟨hk _ _ D.TIz D.TITO D.TIi1 D.TIi2 hTI, h1', h2', .inr ⟨s.heap.objs.size, false, _, z', hT, hS⟩⟩ hT hsz hk
  · have hT : s.TypeIs (.ref z) "zip" := ⟨_, hz, rfl⟩
    unfold pyNext
    exact wpAny_bind (wpAny_attempt (wpAny_callSpecial?_slot (name := Str.ofString "__next__") hT F.slot_zip_next
      (wpAny_call_entry F.slot_zip_next hT F.entry_zip_next
        (zh_next_item D hz ha hTI h1 h2 hl1 hl2 hx hy fun h' z' h1' h2' hT hsz hk => wpAny_pure (hQ h' ⟨hk _ _ D.TIz D.TIi1 D.TIi2 hTI, h1', h2', .inr ⟨a, true, oa, z',
          hk a oa (fun e => by subst e; exact absurd L.z (Nat.not_lt.mpr (Nat.le_of_lt haS))) (fun e => by subst e; exact absurd L.i1 (Nat.not_lt.mpr (Nat.le_of_lt haS))) (fun e => by subst e; exact absurd L.i2 (Nat.not_lt.mpr (Nat.le_of_lt haS))) ha, haS⟩⟩ hT hsz fun c o c1 _ c3 c4 e => hk c o c1 c3 c4 e)) (F.args_zip_next_1 _))))
theorem zs_done {S : Addr} {i : Nat} {Q : Option Value → Shared → Prop} (hh : A.handled = none) (D : ZipApart z TI TO i1 i2 l1 l2) (st : ZSt s.heap z TI TO i1 i2 l1 l2 S i)
    (hl1 : s.heap.IsTuple l1 xs) (hl2 : s.heap.IsTuple l2 ys) (hend : xs[i]? = none ∨ ys[i]? = none)
    (hQ : ∀ h', (∀ c o, c ≠ z → c ≠ TO → c ≠ i1 → c ≠ i2 → s.heap.get? c = some o → h'.get? c = some o) → Q none { s with heap := h' }) : wpAny (model prog w) A (pyNext (.ref z)) Q E s := by
  obtain ⟨hTI, h1, h2, ⟨hz, a, b, hTO⟩ | ⟨a, f, oa, hz, ha, haS⟩⟩ := st
  · exact RZ.pyNext_zipT_end hh D hz hTI hTO h1 h2 hl1 hl2 hend hQ
  · have hT : s.TypeIs (.ref z) "zip" := ⟨_, hz, rfl⟩
    unfold pyNext
    refine wpAny_bind (wpAny_attempt (wpAny_callSpecial?_slot (name := Str.ofString "__next__") hT F.slot_zip_next
      (wpAny_call_entry F.slot_zip_next hT F.entry_zip_next (zh_next_end hh D hz ha hTI h1 h2 hl1 hl2 hend fun h' e hk he => ?_) (F.args_zip_next_1 _))))
    obtain ⟨o, ho, hc⟩ := he
    refine wpAny_bind (wpAny_isInstance (T := "StopIteration") (b := true) ⟨o, ho, hc⟩ isSubtype_stop ?_)
    exact wpAny_pure (hQ _ fun c o c1 _ c3 c4 e => hk c o c1 c3 c4 e)
/-- the pairs that were made -/
structure ZpG (xs ys : Array Value) (lo : Addr) (h : Heap) (as : List Addr) : Prop where
  rise : as.Pairwise (· < ·)
  above : ∀ a ∈ as, lo < a
  pairs : ∀ (j : Nat) (a : Addr), as[j]? = some a → ∃ x y, xs[j]? = some x ∧ ys[j]? = some y ∧ IsPair h a x y
theorem ZpG.there {lo : Addr} {h : Heap} {as : List Addr} (g : ZpG xs ys lo h as) {a : Addr} (ha : a ∈ as) : a < h.objs.size := by
  obtain ⟨j, hj⟩ := List.mem_iff_getElem?.mp ha
  obtain ⟨_, _, _, _, e⟩ := g.pairs j a hj
  exact Heap.lt_size e
end
section
variable {prog : Program} {w : World} {A : Around} {s : Shared} {R : Result → Shared → Prop} {z TI TO i1 i2 l1 l2 : Addr} {xs ys : Array Value}
theorem zp_loop {S : Addr} (hh : A.handled = none) (D : ZipApart z TI TO i1 i2 l1 l2) (L : ZLow z TI TO i1 i2 l1 l2 S) (n : Nat) (hn : n ≤ sizeLine) (hnx : n ≤ xs.size) (hny : n ≤ ys.size) (hnm : n = xs.size ∨ n = ys.size) (res : Value) {h₁ : Heap}
    (hR : ∀ h' tk acc c as, (∀ b o, b ≠ S → b ≠ z → b ≠ TO → b ≠ i1 → b ≠ i2 → h₁.get? b = some o → h'.get? b = some o) → h'.get? S = some { cls := .type "list", dict := none, data := .seq acc c, slots := #[] } → as.length = n → ZpG xs ys S h' as →
      acc.toList = as.map Value.ref → R (.ok (.ret res)) { s with heap := h', toks := tk }) :
    ∀ (k i : Nat) (h : Heap) (tk c : Nat) (acc : Array Value) (as : List Addr), n - i = k → i ≤ n → ZSt h z TI TO i1 i2 l1 l2 S i → h.IsTuple l1 xs → h.IsTuple l2 ys → (∀ b o, b ≠ S → b ≠ z → b ≠ TO → b ≠ i1 → b ≠ i2 → h₁.get? b = some o → h.get? b = some o) →
      h.get? S = some { cls := .type "list", dict := none, data := .seq acc c, slots := #[] } → acc.toList = as.map Value.ref → as.length = i → ZpG xs ys S h as →
      codeAny (model prog w) A (.builtin "list.extend.loop" ⟨[.ref S, .ref z, res], []⟩) R { s with heap := h, toks := tk } := by
  have nS : ∀ {c : Addr}, c < S → c ≠ S := fun h => Nat.ne_of_lt h
  intro k
  induction k with
  | zero =>
    intro i h tk c acc as hk hi hst p1 p2 hkeep hS hacc hal hG
    have hin : i = n := by omega
    refine codeAny_builtin PySem.F.entry_extend_loop ?_
    rw [Around.under_plainId PySem.F.plain_extend_loop _]
    show wpAny _ A.in1 (pyNext (.ref z) >>= _) _ _ _
    have hend : xs[i]? = none ∨ ys[i]? = none := by
      rcases hnm with e | e
      · exact .inl (by simp; omega)
      · exact .inr (by simp; omega)
    refine wpAny_bind (zs_done (s := { s with heap := h, toks := tk }) (A := A.in1) hh D hst p1 p2 hend fun h' he => ?_)
    refine wpAny_pure (hR h' tk acc c as (fun b o h1 h2 h3 h4 h5 e => he b o h2 h3 h4 h5 (hkeep b o h1 h2 h3 h4 h5 e)) (he S _ (nS L.z).symm (nS L.TO).symm (nS L.i1).symm (nS L.i2).symm hS) (by omega) ⟨hG.rise, hG.above, fun j a hj => ?_⟩ hacc)
    obtain ⟨x, y, e1, e2, e3⟩ := hG.pairs j a hj
    have up := hG.above a (List.mem_of_getElem? hj)
    have ne : ∀ {c : Addr}, c < S → a ≠ c := fun h => Nat.ne_of_gt (Nat.lt_trans h up)
    exact ⟨x, y, e1, e2, he a _ (ne L.z) (ne L.TO) (ne L.i1) (ne L.i2) e3⟩
  | succ k ih =>
    intro i h tk c acc as hk hi hst p1 p2 hkeep hS hacc hal hG
    have hlt : i < n := by omega
    obtain ⟨x, hx⟩ : ∃ p, xs[i]? = some p := ⟨xs[i], Array.getElem?_eq_getElem (by omega)⟩
    obtain ⟨y, hy⟩ : ∃ p, ys[i]? = some p := ⟨ys[i], Array.getElem?_eq_getElem (by omega)⟩
    have hsz : acc.size = i := by rw [← Array.length_toList, hacc, List.length_map, hal]
    have hSl : S < h.objs.size := Heap.lt_size hS
    refine codeAny_builtin PySem.F.entry_extend_loop ?_
    rw [Around.under_plainId PySem.F.plain_extend_loop _]
    show wpAny _ A.in1 (pyNext (.ref z) >>= _) _ _ _
    refine wpAny_bind (zs_item (s := { s with heap := h, toks := tk }) D L hst hSl p1 p2 hx hy fun h' hst' ht hz hkp => ?_)
    dsimp only at ht hz hkp ⊢
    have hS' := hkp S _ (nS L.z).symm (nS L.TO).symm (nS L.i1).symm (nS L.i2).symm hS
    have up : ∀ b o, b ≠ S → h'.get? b = some o → (h'.update S (Obj.mapSeq (·.push (Value.ref h.objs.size)))).get? b = some o := fun b o hb e => (Heap.get?_update_other _ _ (Ne.symm hb)).trans e
    show wpAny _ A.in1 (updateSeq S (·.push (Value.ref h.objs.size)) >>= _) _ _ _
    refine wpAny_bind ?_
    refine wpAny_updateSeq hS' rfl (wpAny_pure ⟨plainId_quiet PySem.F.plain_extend_loop _, ih (i + 1) _ tk _ (acc.push (Value.ref h.objs.size)) (as ++ [h.objs.size]) (by omega) hlt (hst'.keep L up)
      (p1.at fun o e => up l1 o (nS L.l1) (hkp l1 o D.l1z D.l1TO D.l1i1 D.l1i2 e)) (p2.at fun o e => up l2 o (nS L.l2) (hkp l2 o D.l2z D.l2TO D.l2i1 D.l2i2 e))
      (fun b o h1 h2 h3 h4 h5 e => up b o h1 (hkp b o h2 h3 h4 h5 (hkeep b o h1 h2 h3 h4 h5 e))) (Heap.get?_update_self _ hS' rfl) (by rw [Array.toList_push, hacc, List.map_append]; rfl) (by rw [List.length_append, hal]; rfl) ⟨?_, ?_, ?_⟩⟩) (by rw [hsz]; omega) (by show (acc.push (Value.ref h.objs.size)).size ≤ sizeLine + 1; rw [Array.size_push, hsz]; omega)
    · refine List.pairwise_append.mpr ⟨hG.rise, List.pairwise_singleton _ _, fun a ha b hb => ?_⟩
      rw [List.mem_singleton.mp hb]
      exact hG.there ha
    · intro a ha
      rcases List.mem_append.mp ha with ha | ha
      · exact hG.above a ha
      · rw [List.mem_singleton.mp ha]; exact hSl
    · intro j b hj
      rcases Nat.lt_trichotomy j as.length with q | q | q
      · rw [List.getElem?_append_left q] at hj
        obtain ⟨x', y', e1, e2, e3⟩ := hG.pairs j b hj
        have hb := hG.above b (List.mem_of_getElem? hj)
        have ne : ∀ {c : Addr}, c < S → b ≠ c := fun h => Nat.ne_of_gt (Nat.lt_trans h hb)
        exact ⟨x', y', e1, e2, up b _ (Nat.ne_of_gt hb) (hkp b _ (ne L.z) (ne L.TO) (ne L.i1) (ne L.i2) e3)⟩
      · subst q
        have hb : h.objs.size = b := by simpa using hj
        subst hb
        exact ⟨x, y, by rw [hal]; exact hx, by rw [hal]; exact hy, up _ _ (Nat.ne_of_gt hSl) ht⟩
      · have hnone : (as ++ [h.objs.size])[j]? = none := List.getElem?_eq_none (by rw [List.length_append, List.length_singleton]; omega)
        rw [hnone] at hj; cases hj
end

section
variable {prog : Program} {w : World} {A : Around} {E : Value → Shared → Prop} {s : Shared} {z TI TO i1 i2 l1 l2 : Addr} {xs ys : Array Value}
/-- list(a zip) -/
theorem call_listZ {a b : Value} {Q : Value → Shared → Prop} (hh : A.handled = none) (D : ZipApart z TI TO i1 i2 l1 l2) (L : ZLow z TI TO i1 i2 l1 l2 s.heap.objs.size) (hz : IsZip s.heap z TI TO .none) (hTI : IsPair s.heap TI (.ref i1) (.ref i2)) (hTO : IsPair s.heap TO a b)
    (h1 : s.heap.IsTupleIter i1 l1 0) (h2 : s.heap.IsTupleIter i2 l2 0) (hl1 : s.heap.IsTuple l1 xs) (hl2 : s.heap.IsTuple l2 ys) (n : Nat) (hn : n ≤ sizeLine) (hnx : n ≤ xs.size) (hny : n ≤ ys.size) (hnm : n = xs.size ∨ n = ys.size)
    (hQ : ∀ h' tk acc c as, (∀ b o, b ≠ z → b ≠ TO → b ≠ i1 → b ≠ i2 → s.heap.get? b = some o → h'.get? b = some o) → h'.get? s.heap.objs.size = some { cls := .type "list", dict := none, data := .seq acc c, slots := #[] } → as.length = n → ZpG xs ys s.heap.objs.size h' as →
      acc.toList = as.map Value.ref → Q (.ref s.heap.objs.size) { s with heap := h', toks := tk }) :
    wpAny (model prog w) A (call (.type "list") [.ref z]) Q E s := by
  refine callType_codes (Q₁ := fun obj s₁ => obj = .ref s.heap.objs.size ∧ s₁ = { s with heap := s.heap.push { cls := .type "list", data := .seq #[] } }) PySem.F.called_list (PySem.F.typeCall_list_1 _) PySem.F.entry_list_init
    (code_list_new _ ⟨rfl, rfl⟩) fun obj s₁ q => ?_
  obtain ⟨rfl, rfl⟩ := q
  have hS : (s.heap.push { cls := .type "list", data := .seq #[] }).get? s.heap.objs.size = some { cls := .type "list", data := .seq #[] } := Heap.get?_push_size _ rfl
  refine ⟨⟨_, hS, rfl⟩, PySem.F.args_list_init_2 _ _, ?_⟩
  generalize hSe : s.heap.objs.size = S at *
  show wpAny _ _ (do let old ← Builtin.List.listItems (.ref S); Builtin.List.listUpdate (.ref S) (fun _ => #[]); letGo old.toList.reverse; Builtin.List.listExtendWith (.ref S) (.ref z) .none) _ _ _
  refine wpAny_bind ?_
  unfold Builtin.List.listItems
  refine wpAny_bind (wpAny_seqItems hS rfl (wpAny_pure ?_))
  show wpAny _ _ (updateSeq S (fun _ => #[]) >>= fun _ => letGo (#[] : Array Value).toList.reverse >>= fun _ => Builtin.List.listExtendWith (.ref S) (.ref z) .none) _ _ _
  refine wpAny_bind (wpAny_updateSeq hS rfl ?_)
  have hS2 := Heap.get?_update_self (Obj.mapSeq (fun _ => (#[] : Array Value))) hS rfl
  have oth0 : ∀ b o, b ≠ S → s.heap.get? b = some o → ((s.heap.push { cls := .type "list", data := .seq #[] }).update S (Obj.mapSeq (fun _ => (#[] : Array Value)))).get? b = some o :=
    fun b o hb e => (Heap.get?_update_other _ _ (Ne.symm hb)).trans (Heap.get?_push_of_some _ e)
  generalize (s.heap.push { cls := .type "list", data := .seq #[] }).update S (Obj.mapSeq (fun _ => (#[] : Array Value))) = g at hS2 oth0 ⊢
  refine wpAny_bind (wpAny_letGo ?_)
  have zg : IsZip g z TI TO .none := oth0 _ _ (Nat.ne_of_lt L.z) hz
  have hT : Shared.TypeIs { s with heap := g } (.ref z) "zip" := ⟨_, zg, rfl⟩
  unfold Builtin.List.listExtendWith
  refine wpAny_bind (wpAny_typeOf hT ?_)
  have q1 : Builtin.List.listSameRef (.ref S) (.ref z) = false := by simp [Builtin.List.listSameRef, Nat.ne_of_gt L.z]
  have q2 : (Value.type "zip" == Value.type "list") = false := by decide
  have q3 : (Value.type "zip" == Value.type "tuple") = false := by decide
  simp only [q1, q2, q3, Bool.or_false, Bool.false_eq_true, if_false]
  refine wpAny_bind (wpAny_pyIter_zip zg ?_)
  refine wpAny_bind (wpAny_holding ?_)
  unfold Builtin.List.listLengthHint
  refine wpAny_bind (wpAny_specialOf hT nolenZ ?_)
  show wpAny _ _ (specialOf (Value.ref z) (Str.ofString "__length_hint__") >>= _) _ _ _
  refine wpAny_bind (wpAny_specialOf hT nohintZ ?_)
  refine wpAny_pure ?_
  show wpAny _ _ (rule "list.extend.makes-room" >>= fun _ => Builtin.List.listTouch (.ref S) >>= fun _ => again (.builtin "list.extend.loop" ⟨[.ref S, .ref z, .none], []⟩)) _ _ _
  refine wpAny_bind (wpAny_rule ?_)
  refine wpAny_bind ?_
  show wpAny _ _ (updateSeq S (·.push .none) >>= fun _ => updateSeq S (·.pop)) _ _ _
  refine wpAny_bind (wpAny_updateSeq hS2 rfl ?_)
  have hS3 := Heap.get?_update_self (Obj.mapSeq (·.push Value.none)) hS2 rfl
  refine wpAny_updateSeq (hz := by seq_fits) hS3 rfl ?_
  have hS4 := Heap.get?_update_self (Obj.mapSeq (·.pop)) hS3 rfl
  have oth : ∀ b o, b ≠ S → s.heap.get? b = some o → ((g.update S (Obj.mapSeq (·.push Value.none))).update S (Obj.mapSeq (·.pop))).get? b = some o :=
    fun b o hb e => (Heap.get?_update_other _ _ (Ne.symm hb)).trans ((Heap.get?_update_other _ _ (Ne.symm hb)).trans (oth0 b o hb e))
  refine wpAny_pure ⟨plainId_quiet PySem.F.plain_extend_loop _, zp_loop (A := A.in1) (s := s) (h₁ := s.heap) hh D L n hn hnx hny hnm .none (fun h' tk acc c as hk hS' hl hG hacc => ?_) n 0 _ _ _ #[] [] (Nat.sub_zero _) (Nat.zero_le _) ⟨oth _ _ (Nat.ne_of_lt L.TI) hTI, h1.at fun o e => oth _ o (Nat.ne_of_lt L.i1) e, h2.at fun o e => oth _ o (Nat.ne_of_lt L.i2) e, .inl ⟨oth _ _ (Nat.ne_of_lt L.z) hz, a, b, oth _ _ (Nat.ne_of_lt L.TO) hTO⟩⟩
    (hl1.at fun o e => oth _ o (Nat.ne_of_lt L.l1) e) (hl2.at fun o e => oth _ o (Nat.ne_of_lt L.l2) e) (fun b o hb _ _ _ _ e => oth b o hb e) hS4 rfl rfl ⟨List.Pairwise.nil, (fun _ ha => nomatch ha), (fun j a hj => by simp at hj)⟩⟩
  refine ⟨rfl, hQ h' tk acc c as (fun b o k1 k2 k3 k4 e => hk b o (fun q => ?_) k1 k2 k3 k4 e) hS' hl hG hacc⟩
  subst q
  rw [← hSe] at e
  exact absurd (Heap.lt_size e) (Nat.lt_irrefl _)
end
section
variable {X : Cx}
theorem laid_zip {pins : List (Addr × Obj)} {σ : L2.St} {H : Hp} {s : Shared} {h' : Heap} {tk c : Nat} {xs ys : List V} {us ws : Array Value} {acc : Array Value} {as : List Addr} {S : Addr} (I : Inv X pins σ H s) (rx : Vals xs us.toList) (ry : Vals ys ws.toList) (hz : as.length ≤ sizeLine)
    (hk : ∀ b o, s.heap.get? b = some o → h'.get? b = some o) (hS0 : s.heap.objs.size ≤ S) (hS : h'.get? S = some { cls := .type "list", dict := none, data := .seq acc c, slots := #[] }) (hl : as.length = min xs.length ys.length) (hG : ZpG us ws S h' as) (hacc : acc.toList = as.map Value.ref) :
    ∃ H' : Hp, (∀ b o, H b = some o → H' b = some o) ∧ H S = none ∧ H' S = some (.lst (as.map V.ref)) ∧ Paired (fun (t : Addr) (q : V × V) => H' t = some (.tup [q.1, q.2])) as (List.zip xs ys) ∧ Inv X pins σ H' { s with heap := h', toks := tk } := by
  have hSn : S ∉ as := fun z => Nat.lt_irrefl _ (hG.above _ z)
  have nd : as.Nodup := List.Pairwise.imp (fun {a b} (h : a < b) => Nat.ne_of_lt h) hG.rise
  have new : ∀ t ∈ as, H t = none := fun t ht => I.hok.fresh (Nat.le_trans hS0 (Nat.le_of_lt (hG.above t ht)))
  have newS : H S = none := I.hok.fresh hS0
  have ex : ∃ H' : Hp, H' S = some (.lst (as.map V.ref)) ∧ Paired (fun (t : Addr) (q : V × V) => H' t = some (.tup [q.1, q.2])) as (List.zip xs ys) ∧ ∀ b, b ∉ as → b ≠ S → H' b = H b := by
    have hl' : as.length = (List.zip xs ys).length := by rw [List.length_zip]; exact hl
    clear hl hacc hz
    have gen : ∀ (as : List Addr) (qs : List (V × V)) (H0 : Hp), as.length = qs.length → as.Nodup → ∃ H' : Hp, Paired (fun (t : Addr) (q : V × V) => H' t = some (.tup [q.1, q.2])) as qs ∧ ∀ b, b ∉ as → H' b = H0 b := by
      intro as
      induction as with
      | nil =>
        intro qs H0 e _
        cases qs with
        | nil => exact ⟨H0, .nil, fun _ _ => rfl⟩
        | cons _ _ => cases e
      | cons a as ih =>
        intro qs H0 e n
        cases qs with
        | nil => cases e
        | cons q qs =>
          have n' := List.nodup_cons.mp n
          obtain ⟨H', p, o⟩ := ih qs (upd H0 a (.tup [q.1, q.2])) (Nat.succ.inj e) n'.2
          exact ⟨H', .cons (by rw [o a n'.1, upd_same]) p, fun b hb => by rw [o b (fun z => hb (List.mem_cons_of_mem _ z)), upd_ne (fun z => hb (by rw [z]; exact List.mem_cons_self))]⟩
    obtain ⟨H', p, o⟩ := gen as (List.zip xs ys) (upd H S (.lst (as.map V.ref))) hl' nd
    exact ⟨H', by rw [o S hSn, upd_same], p, fun b h1 h2 => by rw [o b h1, upd_ne h2]⟩
  obtain ⟨H', eS, atP, off⟩ := ex
  have low : ∀ b o, s.heap.get? b = some o → b ∉ as ∧ b ≠ S := fun b o e => ⟨fun z => absurd (Heap.lt_size e) (Nat.not_lt.mpr (Nat.le_trans hS0 (Nat.le_of_lt (hG.above b z)))), Nat.ne_of_lt (Nat.lt_of_lt_of_le (Heap.lt_size e) hS0)⟩
  have kp : ∀ b u, H b = some u → H' b = some u := fun b u e => by
    rw [off b (fun z => by rw [new b z] at e; cases e) (fun z => by rw [z, newS] at e; cases e)]
    exact e
  refine ⟨H', kp, newS, eS, atP, ?_⟩
  refine I.call' (ch := []) rfl ⟨fun b o q _ _ _ => hk b o q, fun b o q _ _ _ => ⟨o.slots, hk b o q⟩, fun b o q n _ => ?_, fun b o q _ => ⟨o, hk b o q⟩, fun b xs q => kp b _ q, fun b o u q => kp b _ q, fun b ps q => ⟨#[], by rw [kp b _ q]; simp⟩⟩ (fun b u q => ?_) I.bare fun b z => by simp at z
  · obtain ⟨z1, z2⟩ := low b o q
    rw [off b z1 z2]
    exact n
  · by_cases hb : b ∈ as
    · obtain ⟨j, pk, e1, e2, e3⟩ := LiI.paired_ix atP hb
      rw [e3] at q
      cases q
      obtain ⟨x, y, f1, f2, f3⟩ := hG.pairs j b e1
      have e2' : xs[j]? = some pk.1 ∧ ys[j]? = some pk.2 := List.getElem?_zip_eq_some.mp e2
      obtain ⟨u, g1, r1⟩ := rx.get e2'.1
      obtain ⟨u2, g2, r2⟩ := ry.get e2'.2
      rw [Array.getElem?_toList, f1] at g1
      rw [Array.getElem?_toList, f2] at g2
      cases g1
      cases g2
      exact ⟨by show 2 ≤ sizeLine; decide, [x, y], .cons r1 (.cons r2 .nil), ⟨_, f3, rfl, _, rfl⟩⟩
    · by_cases hb2 : b = S
      · rw [hb2] at q ⊢
        rw [eS] at q
        cases q
        refine ⟨by rw [List.length_map]; exact hz, acc.toList, c, by rw [hacc]; exact LiI.vals_refs as, ?_⟩
        rw [Array.toArray_toList]
        exact hS
      · rw [off b hb hb2] at q
        exact (I.hok b u q).stay (fun d v _ y => hk d v y) (fun d y => kp d _ y) fun d xs y => kp d _ y
def rZipL (K : PySem.W.Frag) : List V → Hp → VK → Prop := fun vs H Q => ∃ (a b : Addr) (xs ys : List V), vs = [.ref a, .ref b] ∧ SqT K H a xs ∧ SqT K H b ys ∧
  ∀ (H' : Hp) (p : Addr) (ts : List Addr), (∀ b o, H b = some o → H' b = some o) → H p = none → H' p = some (.lst (ts.map V.ref)) → Paired (fun (t : Addr) (q : V × V) => H' t = some (.tup [q.1, q.2])) ts (List.zip xs ys) → Q (.ref p) H'
theorem pe_listZip {e e2 : Expr} {ta : TA} {p p2 pos2 pos : Pos} (hc : X.calm = true) (hg : Gl X "zip") (hm : X.mg "zip" = none) (hgL : Gl X "list") (hmL : X.mg "list" = none) (hvL : bootBuiltins "list" = some (.type "list")) (ha : PA X [e, e2] ta)
    (hs : starEach [e, e2] X.env = (false, eval e X.env) :: starEach [e2] X.env) (hpl : (backTo pos2 (starEach [e2] X.env)).any (·.1) = false)
    (hs2 : starEach [.Call (.Name "zip" p2) [e, e2] [] pos2] X.env = (false, eval (.Call (.Name "zip" p2) [e, e2] [] pos2) X.env) :: starEach [] X.env) :
    PE X (.Call (.Name "list" p) [.Call (.Name "zip" p2) [e, e2] [] pos2] [] pos) (fun σ H Q => ta σ H fun vs H1 => rZipL X.K vs H1 Q) := by
  refine ⟨fun pins s σ H Q I hq => ?_⟩
  refine wpAny_Call_Name_kw (ld_blt I hgL hmL hvL ?_)
  refine PyProof.Rows.callWith_type1 ?_ hs2 rfl
  rw [hs2]
  show wpAny _ _ (spliced ((false, eval (.Call (.Name "zip" p2) [e, e2] [] pos2) X.env) :: backTo pos (starEach [] X.env))) _ _ s
  refine Calls.spliced_cons ?_
  refine Call_ (ld_blt I hg hm PyProof.Rows.boot_zip (PyProof.Rows.callWith_type1 (thn (ha.run pos2 pins s σ H _ I hq) fun us s1 ⟨vs, H1, I1, r1, q1⟩ => ?_) hs hpl))
  obtain ⟨a, b, xs, ys, ex, hqx, hqy, q⟩ := q1
  subst ex
  cases r1 with
  | cons r rr =>
    cases rr with
    | cons r' rr =>
      cases rr
      cases r
      cases r'
      obtain ⟨its, rv, p1, z1⟩ := I1.tuple hqx
      obtain ⟨its2, rv2, p2, z2⟩ := I1.tuple hqy
      obtain ⟨o1, ho1, _⟩ := id p1
      obtain ⟨o2, ho2, _⟩ := id p2
      refine RZ.call_zipT (show s1.heap.IsTuple a its.toArray from p1) (show s1.heap.IsTuple b its2.toArray from p2) fun g hz hTI hTO k1 k2 hsz hk => ?_
      refine Calls.spliced_nil ?_
      have n1 : its.toArray.size = xs.length := by rw [List.size_toArray, rv.length]
      have n2 : its2.toArray.size = ys.length := by rw [List.size_toArray, rv2.length]
      have la : a < s1.heap.objs.size := Heap.lt_size ho1
      have lb : b < s1.heap.objs.size := Heap.lt_size ho2
      refine call_listZ (s := { s1 with heap := g }) (I1.ok.hd hc) (PySem.W.ktu_apart s1.heap.objs.size a b la lb) ?_ hz hTI hTO k1 k2 (Heap.IsTuple.at p1 fun o e => hk _ o e) (Heap.IsTuple.at p2 fun o e => hk _ o e) (min xs.length ys.length) (by omega) (by omega) (by omega) (by omega) fun h' tk acc c as hk2 hS hl hG hacc => ?_
      · have q : ∀ k : Nat, k < 5 → s1.heap.objs.size + k < g.objs.size := fun k hk => by rw [hsz]; exact Nat.add_lt_add_left hk _
        have q' : ∀ c : Addr, c < s1.heap.objs.size → c < g.objs.size := fun c hc => by rw [hsz]; exact Nat.lt_of_lt_of_le hc (Nat.le_add_right _ _)
        exact ⟨q 4 (by decide), q 2 (by decide), q 3 (by decide), q 0 (by decide), q 1 (by decide), q' a la, q' b lb⟩
      · have I2 : Inv X pins σ H1 { s1 with heap := g } := I1.kept (t' := s1.toks) hk
        have up : ∀ c o, s1.heap.get? c = some o → h'.get? c = some o := fun c o e => by
          have := Heap.lt_size e
          have ne : ∀ k : Nat, c ≠ s1.heap.objs.size + k := fun k => Nat.ne_of_lt (Nat.lt_of_lt_of_le this (Nat.le_add_right _ _))
          exact hk2 c o (ne 4) (ne 3) (ne 0) (ne 1) (hk c o e)
        obtain ⟨H', kp, newS, eS, atP, J⟩ := laid_zip (tk := tk) I1 (us := its.toArray) (ws := its2.toArray) (by simpa using rv) (by simpa using rv2) (by omega) up (by show s1.heap.objs.size ≤ g.objs.size; rw [hsz]; omega) hS hl hG hacc
        exact ⟨.ref _, H', J, rfl, q H' _ as kp newS eS atP⟩
end
/-- list(zip(a, b)), a and b tuples -/
def dLz (r : DTA) : DTE := fun e M Q E => r e M (fun ds M1 => match ds with
  | [x, y] => ∃ xs ys, tuD x = some xs ∧ tuD y = some ys ∧ ∀ p, M1 p = none → Q (.ref p) (wr M1 p (.lst ((zipD xs ys).map D.tup)))
  | _ => False) E
theorem isL_zip {K : PySem.W.Frag} {H H' : Hp} (x : Ext K H H') : ∀ {xs ys : List D} {vs ws : List V} {ts : List Addr}, IsL K H xs vs → IsL K H ys ws → Paired (fun (t : Addr) (q : V × V) => H' t = some (.tup [q.1, q.2])) ts (List.zip vs ws) → IsL K H' ((zipD xs ys).map D.tup) (ts.map V.ref)
  | [], _, _, _, _, h, _, p => by
    rw [isL_nil] at h
    subst h
    cases p
    exact isL_nil.mpr rfl
  | _ :: _, [], _, _, _, h, g, p => by
    rw [isL_nil] at g
    subst g
    rw [isL_cons] at h
    obtain ⟨v, r, rfl, i, l⟩ := h
    cases p
    exact isL_nil.mpr rfl
  | d :: xs, d2 :: ys, vs, ws, ts, h, g, p => by
    rw [isL_cons] at h g
    obtain ⟨v, r, rfl, i, l⟩ := h
    obtain ⟨v2, r2, rfl, i2, l2⟩ := g
    rw [List.zip_cons_cons] at p
    cases p with
    | cons e t =>
      refine IsL.mk ?_ (isL_zip x l l2 t)
      exact is_tup.mpr ⟨_, _, rfl, e, IsL.mk (Is.ext x _ _ i) (IsL.mk (Is.ext x _ _ i2) (isL_nil.mpr rfl))⟩
theorem de_listZip {g : Gd} {x y : Expr} {p p2 pos2 pos : Pos} {r : DTA} (hc : g.X.calm = true) (hg : Gl g.X "zip") (hm : g.X.mg "zip" = none) (hgL : Gl g.X "list") (hmL : g.X.mg "list" = none) (h : DA g [x, y] r) (n1 : isStar x = false) (n2 : isStar y = false) :
    DE g (.Call (.Name "list" p) [.Call (.Name "zip" p2) [x, y] [] pos2] [] pos) (dLz r) := by
  obtain ⟨ta, pa, ka⟩ := h.pa
  refine DE.of (pe_listZip hc hg hm hgL hmL rfl pa (star_cons n1) (by rw [star_cons n2]; rfl) rfl) fun σ H e M Q sl mr fr q => ?_
  refine ka σ H e M _ _ sl mr fr q fun ds vs M1 H1 l m f q => ?_
  match ds, q with
  | [x, y], q =>
    rw [isL_cons] at l
    obtain ⟨v, rv, rfl, i, l⟩ := l
    rw [isL_cons] at l
    obtain ⟨u, ru, rfl, j, l⟩ := l
    rw [isL_nil] at l
    subst l
    obtain ⟨xs, ys, e1, e2, q⟩ := q
    obtain ⟨a, vs, rfl, s1, l1, t1⟩ := tuD_sq e1 i
    obtain ⟨b, ws, rfl, s2, l2, t2⟩ := tuD_sq e2 j
    refine ⟨a, b, vs, ws, rfl, s1, s2, fun H' p ts kp hp hS pr => ?_⟩
    have f1 : Fr M1 H1 (wr M1 p (.lst ((zipD xs ys).map D.tup))) H' := ⟨fun b o hb n => ⟨kp _ _ hb, by rw [wr_ne (ne_of_none hb hp)]; exact n⟩, (fr_more (M := M1) kp).there⟩
    have x1 : Ext g.X.K H1 H' := (fr_more (M := M1) kp).ext m
    have m1 : MRel g.X.K (wr M1 p (.lst ((zipD xs ys).map D.tup))) H' := fun a o e => by
      by_cases z : a = p
      · subst z
        rw [wr_same] at e
        cases e
        exact ⟨_, hS, isL_zip x1 l1 l2 pr⟩
      · rw [wr_ne z] at e
        exact mr_more m kp a o e
    exact lowQ.mk (is_ref.mpr rfl) m1 (f.trans f1) (q p (m.none_of hp))
end DL

/-! Dict comprehensions of two clauses (turned from the rule for lists by gen_dm19.py). -/
namespace DL
open PySem PySem.Spec PyProof.Rows L2
theorem compTurn2D_out (kx vx t0 i0 t1 i1 : Expr) (ifs0 ifs1 : List Expr) (scope : Scope) (pos : Pos) (it : Value) (D : Addr) (env : Env) :
    compTurn (.DictComp kx vx [⟨t0, i0, ifs0, 0⟩, ⟨t1, i1, ifs1, 0⟩] scope pos) 0 it (.ref D) env = (do
      standAt i0.pos
      match ← pyNext it with
      | none => pure (.done .next)
      | some v =>
        letOwnedTupleGo t0 it v
        assign t0 env v
        let mut ok := true
        for c in ifs0 do
          if ok then ok ← isTrue c env (eval c env)
        if ok then
          let x ← eval i1 env
          standAt i1.pos
          let x ← foldedSetIterable i1 env x
          let _ ← runOwn (.compStart (.DictComp kx vx [⟨t0, i0, ifs0, 0⟩, ⟨t1, i1, ifs1, 0⟩] scope pos) 1 (← holding [x] (pyIter x)) (.ref D) env) env
        again (.compLoop (.DictComp kx vx [⟨t0, i0, ifs0, 0⟩, ⟨t1, i1, ifs1, 0⟩] scope pos) 0 it (.ref D) env)) := by rfl
theorem compTurn2D_in (kx vx t0 i0 t1 i1 : Expr) (ifs0 ifs1 : List Expr) (scope : Scope) (pos : Pos) (it : Value) (D : Addr) (env : Env) :
    compTurn (.DictComp kx vx [⟨t0, i0, ifs0, 0⟩, ⟨t1, i1, ifs1, 0⟩] scope pos) 1 it (.ref D) env = (do
      standAt i1.pos
      match ← pyNext it with
      | none => pure (.done .next)
      | some v =>
        letOwnedTupleGo t1 it v
        assign t1 env v
        let mut ok := true
        for c in ifs1 do
          if ok then ok ← isTrue c env (eval c env)
        if ok then
          (do
            let kv ← eval kx env
            let vv ← holding [kv] (eval vx env)
            standAt { kx.pos with endLine := vx.pos.endLine, endCol := vx.pos.endCol }
            holding [kv, vv] (dictSet D kv vv))
        again (.compLoop (.DictComp kx vx [⟨t0, i0, ifs0, 0⟩, ⟨t1, i1, ifs1, 0⟩] scope pos) 1 it (.ref D) env)) := by rfl

section
variable {prog : Program} {w : World} {A : Around} {R : Result → Shared → Prop} {s : Shared} {kx vx t0 i0 t1 i1 : Expr} {ifs0 ifs1 : List Expr} {scope : Scope} {pos : Pos} {it : Value} {D : Addr} {env : Env}
/-- the loop of the first clause -/
theorem compLoop2D_out (hs : ∀ x, foldedSetIterable i1 env x = pure x) (I : Nat → Shared → Prop)
    (turn : ∀ n s, I n s → wpAny (model prog w) A (pyNext it) (fun r z₁ => match r with
      | none => R (.ok .next) z₁
      | some v => wpAny (model prog w) A (letOwnedTupleGo t0 it v) (fun _ z₁' => wpAny (model prog w) A (assign t0 env v) (fun _ z₂ =>
          wpAny (model prog w) A (forIn ifs0 true fun c r => if r = true then do let ok ← isTrue c env (eval c env); pure (ForInStep.yield ok) else pure (ForInStep.yield r)) (fun ok z₃ =>
            if ok = true then wpAny (model prog w) A (eval i1 env) (fun x z₄ => wpAny (model prog w) A (pyIter x) (fun it1 z₅ =>
              codeAny (model prog w) A (.compStart (.DictComp kx vx [⟨t0, i0, ifs0, 0⟩, ⟨t1, i1, ifs1, 0⟩] scope pos) 1 it1 (.ref D) env) (fun r s' => match r with
                | .ok _ => ∃ m, m < n ∧ I m s'
                | .error _ => False) z₅) (notedBy (model prog w) A env fun e s' => R (.error e) s') z₄) (notedBy (model prog w) A env fun e s' => R (.error e) s') z₃
            else ∃ m, m < n ∧ I m z₃) (notedBy (model prog w) A env fun e s' => R (.error e) s') z₂) (notedBy (model prog w) A env fun e s' => R (.error e) s') z₁') (notedBy (model prog w) A env fun e s' => R (.error e) s') z₁) (notedBy (model prog w) A env fun e s' => R (.error e) s') s)
    (n : Nat) (h : I n s) :
    codeAny (model prog w) A (.compLoop (.DictComp kx vx [⟨t0, i0, ifs0, 0⟩, ⟨t1, i1, ifs1, 0⟩] scope pos) 0 it (.ref D) env) R s := by
  refine codeAny_loop rfl I (fun n s hI => ?_) n h
  show wpAny _ A ((compTurn (.DictComp kx vx [⟨t0, i0, ifs0, 0⟩, ⟨t1, i1, ifs1, 0⟩] scope pos) 0 it (.ref D) env).onRaise (fun x => do noteFrame x env; theTreesLotGoes x)) _ _ s
  refine wpAny_noted ?_
  rw [compTurn2D_out]
  refine wpAny_bind (wpAny_standAt (wpAny_bind (wpAny_mono (turn n s hI) (fun r z₁ k₁ => ?_) fun _ _ h' => h')))
  cases r with
  | none => exact wpAny_pure k₁
  | some v =>
    refine wpAny_bind (wpAny_mono k₁ (fun _ z₁' k₁' => ?_) fun _ _ h' => h')
    refine wpAny_bind (wpAny_mono k₁' (fun _ z₂ k₂ => wpAny_bind (wpAny_mono k₂ (fun ok z₃ k₃ => ?_) fun _ _ h' => h')) fun _ _ h' => h')
    cases ok with
    | false => exact wpAny_pure ⟨rfl, k₃⟩
    | true =>
      refine wpAny_bind (wpAny_mono k₃ (fun x z₄ k₄ => ?_) fun _ _ h' => h')
      refine wpAny_bind (wpAny_standAt (wpAny_bind (wpAny_of_eq (hs x) (wpAny_bind (wpAny_holding (wpAny_mono k₄ (fun it1 z₅ k₅ => ?_) fun _ _ h' => h'))))))
      refine wpAny_bind (wpAny_runOwn ?_)
      rw [Around.mark_none]
      refine codeAny_mono k₅ fun r s' hr => ?_
      cases r with
      | ok f =>
        first
          | exact wpAny_pure ⟨rfl, hr⟩
          | exact wpAny_bind (wpAny_pure (wpAny_pure ⟨rfl, hr⟩))
      | error e => exact hr.elim
/-- the loop of the second -/
theorem compLoop2D_in (I : Nat → Shared → Prop)
    (turn : ∀ n s, I n s → wpAny (model prog w) A (pyNext it) (fun r z₁ => match r with
      | none => R (.ok .next) z₁
      | some v => wpAny (model prog w) A (letOwnedTupleGo t1 it v) (fun _ z₁' => wpAny (model prog w) A (assign t1 env v) (fun _ z₂ =>
          wpAny (model prog w) A (forIn ifs1 true fun c r => if r = true then do let ok ← isTrue c env (eval c env); pure (ForInStep.yield ok) else pure (ForInStep.yield r)) (fun ok z₃ =>
            if ok = true then wpAny (model prog w) A (eval kx env) (fun kv z₄ => wpAny (model prog w) A (eval vx env) (fun vv z₅ =>
              wpAny (model prog w) A (dictSet D kv vv) (fun _ z₆ => ∃ m, m < n ∧ I m z₆) (notedBy (model prog w) A env fun e s' => R (.error e) s') z₅) (notedBy (model prog w) A env fun e s' => R (.error e) s') z₄) (notedBy (model prog w) A env fun e s' => R (.error e) s') z₃
            else ∃ m, m < n ∧ I m z₃) (notedBy (model prog w) A env fun e s' => R (.error e) s') z₂) (notedBy (model prog w) A env fun e s' => R (.error e) s') z₁') (notedBy (model prog w) A env fun e s' => R (.error e) s') z₁) (notedBy (model prog w) A env fun e s' => R (.error e) s') s)
    (n : Nat) (h : I n s) :
    codeAny (model prog w) A (.compLoop (.DictComp kx vx [⟨t0, i0, ifs0, 0⟩, ⟨t1, i1, ifs1, 0⟩] scope pos) 1 it (.ref D) env) R s := by
  refine codeAny_loop rfl I (fun n s hI => ?_) n h
  show wpAny _ A ((compTurn (.DictComp kx vx [⟨t0, i0, ifs0, 0⟩, ⟨t1, i1, ifs1, 0⟩] scope pos) 1 it (.ref D) env).onRaise (fun x => do noteFrame x env; theTreesLotGoes x)) _ _ s
  refine wpAny_noted ?_
  rw [compTurn2D_in]
  refine wpAny_bind (wpAny_standAt (wpAny_bind (wpAny_mono (turn n s hI) (fun r z₁ k₁ => ?_) fun _ _ h' => h')))
  cases r with
  | none => exact wpAny_pure k₁
  | some v =>
    refine wpAny_bind (wpAny_mono k₁ (fun _ z₁' k₁' => ?_) fun _ _ h' => h')
    refine wpAny_bind (wpAny_mono k₁' (fun _ z₂ k₂ => wpAny_bind (wpAny_mono k₂ (fun ok z₃ k₃ => ?_) fun _ _ h' => h')) fun _ _ h' => h')
    cases ok with
    | false => exact wpAny_pure ⟨rfl, k₃⟩
    | true =>
      exact wpAny_bind (wpAny_bind (wpAny_mono k₃ (fun kv z₄ k₄ => wpAny_bind (wpAny_holding (wpAny_mono k₄ (fun vv z₅ k₅ => wpAny_bind (wpAny_standAt (wpAny_holding (wpAny_mono k₅ (fun _ z₆ k₆ => wpAny_pure ⟨rfl, k₆⟩) fun _ _ h' => h')))) fun _ _ h' => h'))) fun _ _ h' => h'))
/-- the second clause's start -/
theorem compStart1D_ok (h0 : codeAny (model prog w) A (.compLoop (.DictComp kx vx [⟨t0, i0, ifs0, 0⟩, ⟨t1, i1, ifs1, 0⟩] scope pos) 1 it (.ref D) env) R s)
    (h : wpAny (model prog w) A (pyIter it) (fun it' s' => codeAny (model prog w) A (.compLoop (.DictComp kx vx [⟨t0, i0, ifs0, 0⟩, ⟨t1, i1, ifs1, 0⟩] scope pos) 1 it' (.ref D) env) R s')
      (notedBy (model prog w) A env fun x s' => R (.error x) s') s) :
    codeAny (model prog w) A (.compStart (.DictComp kx vx [⟨t0, i0, ifs0, 0⟩, ⟨t1, i1, ifs1, 0⟩] scope pos) 1 it (.ref D) env) R s := by
  refine codeAny_of_tree ?_
  show wpAny _ _ ((compStart (.DictComp kx vx [⟨t0, i0, ifs0, 0⟩, ⟨t1, i1, ifs1, 0⟩] scope pos) 1 it (.ref D) env).onRaise (fun x => do noteFrame x env; standAt theWindowsPlace)) _ _ s
  refine wpAny_notedAt ?_
  unfold compStart
  show wpAny _ _ (ask >>= _) _ _ s
  refine wpAny_bind (wpAny_askSetting (wpAny_ite ?_))
  split
  · first
      | exact wpAny_bind (wpAny_pure (wpAny_pure (And.intro rfl h0)))
      | exact wpAny_pure (And.intro rfl h0)
  · first
      | exact wpAny_bind (wpAny_rule (wpAny_bind (wpAny_standAt (wpAny_bind (wpAny_mono h (fun it' s' h' => wpAny_pure (And.intro rfl h')) fun _ _ x => x)))))
      | (refine wpAny_bind (wpAny_rule ?_); show wpAny _ _ (standAt i1.pos >>= _) _ _ s; exact wpAny_bind (wpAny_standAt (wpAny_bind (wpAny_mono h (fun it' s' h' => wpAny_pure (And.intro rfl h')) fun _ _ x => x))))
end

section
variable {X : Cx}
def tDc2 (wi : TI) (g : TG) (tt : TT) (wi1 : TI) (g1 : TG) (tt1 : TT) (tk tv : TE) (vs vs1 : List Nat) : TE := fun σ H Q => wi σ H fun J Hz1 => ∀ D, Hz1 D = none → ∃ W : Nat → Nat → Hp → Prop, (∃ m, W 0 m (upd Hz1 D (.dK []))) ∧ ∀ i m H, W i m H →
  (J.stop i H ∧ Q (.ref D) H) ∨ (J.go i H ∧ ∃ Nx : Hp → Prop, (∀ H', Nx H' → ∃ m', m' < m ∧ W (i + 1) m' H') ∧ ∀ x H', J.yld i H x H' → g x (wipe σ vs) H' fun σ2 Hz2 => wipe σ2 vs = wipe σ vs ∧ tt σ2 Hz2 fun b Hz3 =>
    if b = true then wi1 σ2 Hz3 fun J1 Hz4 => ∃ W1 : Nat → Nat → Hp → Prop, (∃ m, W1 0 m Hz4) ∧ ∀ j k H, W1 j k H →
      (J1.stop j H ∧ Nx H) ∨ (J1.go j H ∧ ∃ Nx1 : Hp → Prop, (∀ H', Nx1 H' → ∃ k', k' < k ∧ W1 (j + 1) k' H') ∧ ∀ x H', J1.yld j H x H' → g1 x (wipe σ2 vs1) H' fun σ3 Hz5 => wipe σ3 vs1 = wipe σ2 vs1 ∧ tt1 σ3 Hz5 fun b Hz6 =>
        if b = true then tk σ3 Hz6 fun y Hz7 => tv σ3 Hz7 fun z Hz8 => ∃ kvs k, y = kV k ∧ Hz8 D = some (.dK kvs) ∧ kvs.length < sizeLine ∧ Nx1 (upd Hz8 D (.dK (putK kvs k z))) else Nx1 Hz6)
    else Nx Hz3)
theorem dc2_core {pins : List (Addr × Obj)} {s : Shared} {σ : L2.St} {H : Hp} {Q : VK} {kx vx tg iter tg1 iter1 : Expr} {ifs ifs1 : List Expr} {scope : Scope} {own : List (Str × Nat)} {vs1 : List Nat} {pos pos' : Pos} {wi wi1 : TI} {g g1 : TG} {tt tt1 : TT} {tk tv : TE} {use : Option (Value → Sem Unit)} {Qf : Value → Shared → Prop}
    (hc : X.calm = true) (hN : X.N.Nodup) (I : Inv X pins σ H s) (hi : PI X tg iter wi) (ok : BlkOk X.N X.env.scope scope own) (hv : ∀ i ∈ vs1, i ∈ own.map (·.2))
    (hg : ∀ (s : Shared) (H : Hp) (C : Addr) (cl : List (Str × Addr)) (fp : List Addr), PG (X.blk s H scope (compEnvC scope cl C X.env) fp) tg g) (ht : ∀ (s : Shared) (H : Hp) (C : Addr) (cl : List (Str × Addr)) (fp : List Addr), PTs (X.blk s H scope (compEnvC scope cl C X.env) fp) ifs tt)
    (hk : ∀ (s : Shared) (H : Hp) (C : Addr) (cl : List (Str × Addr)) (fp : List Addr), PE (X.blk s H scope (compEnvC scope cl C X.env) fp) kx tk)
    (he : ∀ (s : Shared) (H : Hp) (C : Addr) (cl : List (Str × Addr)) (fp : List Addr), PE (X.blk s H scope (compEnvC scope cl C X.env) fp) vx tv) (hs : ∀ x, foldedSetIterable iter X.env x = pure x)
    (hi1 : ∀ (s : Shared) (H : Hp) (C : Addr) (cl : List (Str × Addr)) (fp : List Addr), PI (X.blk s H scope (compEnvC scope cl C X.env) fp) tg1 iter1 wi1)
    (hg1 : ∀ (s : Shared) (H : Hp) (C : Addr) (cl : List (Str × Addr)) (fp : List Addr), PG (X.blk s H scope (compEnvC scope cl C X.env) fp) tg1 g1)
    (ht1 : ∀ (s : Shared) (H : Hp) (C : Addr) (cl : List (Str × Addr)) (fp : List Addr), PTs (X.blk s H scope (compEnvC scope cl C X.env) fp) ifs1 tt1)
    (hs1 : ∀ env x, foldedSetIterable iter1 env x = pure x)
    (h : tDc2 wi g tt wi1 g1 tt1 tk tv (own.map (·.2)) vs1 σ H Q)
    (hRR : ∀ D C s' m H', Inv X pins σ H' s' → Q (.ref D) H' → s'.heap.Ns C m → FpOk X pins H' C → compPost (model X.prog X.w) X.A X.xe use Qf (.ref D) C (.ok .next) s') :
    wpAny (model X.prog X.w) X.A (comprehension (.DictComp kx vx [⟨tg, iter, ifs, 0⟩, ⟨tg1, iter1, ifs1, 0⟩] scope pos) scope X.env pos' newDict false (eval iter X.env) use) Qf X.xe s := by
  have hfree : ∀ y ∈ scope.names, y.2 = .free → ∃ c, X.env.cells.lookup y.1 = some c := fun y hy e => by
    rcases ok.free y hy e with k | k
    · exact I.ok.has _ (.inl k)
    · exact I.ok.has _ (.inr k)
  refine wpAny_comprehension_free (use := use) rfl hs (closure_ok hfree) ok.kind (fun y hy e => by rw [ok.uniq y hy, e])
    (thn (hi.run pins s σ H _ I h) fun xv ss1 hx => thn hx fun itv ss2 h2 => ?_)
  obtain ⟨it, fp, tn, J, Hz2, e, Iv2, T, st2, f2, q⟩ := h2
  subst e
  refine wpAny_newObj_type (newEnv_comp ?_)
  generalize hD : ss2.heap.objs.size = D
  have hDn : Hz2 D = none := Iv2.hok.fresh (Nat.le_of_eq hD)
  obtain ⟨W, ⟨m0, w0⟩, turn⟩ := q D hDn
  -- the new list
  generalize hs3 : ({ ss2 with heap := ss2.heap.push { cls := .type "dict", data := .dict #[] } } : Shared) = ss3
  have Iv3 : Inv X pins σ (upd Hz2 D (.dK [])) ss3 := by
    rw [← hs3]
    refine Iv2.laid (t' := ss2.toks) (fun b o e => Heap.get?_push_of_some _ e) (Nat.le_of_eq hD) ?_
    rw [← hD]
    exact dk_empty ss2.heap Iv2.big
  have h3 : ss3.heap = ss2.heap.push { cls := .type "dict", data := .dict #[] } := by rw [← hs3]
  have sz : ∀ b ∈ fp, b < ss2.heap.objs.size := fun b hb => by
    obtain ⟨o, e, _⟩ := T.obj _ _ st2 b hb
    exact Heap.lt_size e
  have f3 : ∀ b ∈ fp, FpOk X pins (upd Hz2 D (.dK [])) b ∧ b < ss3.heap.objs.size := fun b hb => by
    have hlt := sz b hb
    refine ⟨⟨?_, (f2 b hb).2⟩, by rw [h3, Heap.size_push]; exact Nat.lt_succ_of_lt hlt⟩
    rw [upd_ne (by rw [← hD]; exact Nat.ne_of_lt hlt)]
    exact (f2 b hb).1
  have st3 : tn 0 ss3.heap := T.keep _ _ _ st2 fun b _ o e => by rw [h3]; exact Heap.get?_push_of_some _ e
  have Iv4 := block_start Iv3 ok hN f3
  have pg := hg ss3 (upd Hz2 D (.dK [])) ss3.heap.objs.size (cellsFrom (ss3.heap.objs.size + 1) scope.names (cloFrom X.env.cells scope.names [])) fp
  have pt := ht ss3 (upd Hz2 D (.dK [])) ss3.heap.objs.size (cellsFrom (ss3.heap.objs.size + 1) scope.names (cloFrom X.env.cells scope.names [])) fp
  have pk := hk ss3 (upd Hz2 D (.dK [])) ss3.heap.objs.size (cellsFrom (ss3.heap.objs.size + 1) scope.names (cloFrom X.env.cells scope.names [])) fp
  have pe := he ss3 (upd Hz2 D (.dK [])) ss3.heap.objs.size (cellsFrom (ss3.heap.objs.size + 1) scope.names (cloFrom X.env.cells scope.names [])) fp
  have pi1 := hi1 ss3 (upd Hz2 D (.dK [])) ss3.heap.objs.size (cellsFrom (ss3.heap.objs.size + 1) scope.names (cloFrom X.env.cells scope.names [])) fp
  have pg1 := hg1 ss3 (upd Hz2 D (.dK [])) ss3.heap.objs.size (cellsFrom (ss3.heap.objs.size + 1) scope.names (cloFrom X.env.cells scope.names [])) fp
  have pt1 := ht1 ss3 (upd Hz2 D (.dK [])) ss3.heap.objs.size (cellsFrom (ss3.heap.objs.size + 1) scope.names (cloFrom X.env.cells scope.names [])) fp
  show codeAny _ _ (.compStart (.DictComp kx vx [⟨tg, iter, ifs, 0⟩, ⟨tg1, iter1, ifs1, 0⟩] scope pos) 0 (.ref it) (.ref D) (compEnvC scope (cellsFrom (ss3.heap.objs.size + 1) scope.names (cloFrom X.env.cells scope.names [])) ss3.heap.objs.size X.env)) (compPost (model X.prog X.w) X.A X.xe use Qf (.ref D) ss3.heap.objs.size) { ss3 with heap := pushCells (ss3.heap.push { cls := .type "dict", data := .dict #[] }) scope.names }
  have nfp : ∀ b ∈ fp, (upd Hz2 D (.dK [])) b = none := fun b hb => (f3 b hb).1.1
  generalize hce : compEnvC scope (cellsFrom (ss3.heap.objs.size + 1) scope.names (cloFrom X.env.cells scope.names [])) ss3.heap.objs.size X.env = ce at Iv4 pg pt pk pe pi1 pg1 pt1 ⊢
  have cL : ce.locals = ss3.heap.objs.size := by subst hce; rfl
  generalize hH3 : upd Hz2 D (.dK []) = Hz3 at Iv3 Iv4 pg pt pk pe pi1 pg1 pt1 w0 nfp f3
  generalize hs4 : ({ ss3 with heap := pushCells (ss3.heap.push { cls := .type "dict", data := .dict #[] }) scope.names } : Shared) = ss4 at Iv4 ⊢
  have st4 : tn 0 ss4.heap := T.keep _ _ _ st3 fun b _ o e => by rw [← hs4]; exact pushCells_keeps _ _ _ _ (Heap.get?_push_of_some _ e)
  have stat : ∀ {σ' : L2.St} {H' : Hp} {s' : Shared}, Inv (X.blk ss3 Hz3 scope ce fp) [] σ' H' s' → (∀ b ∈ fp, H' b = none) → ∀ b ∈ fp, FpOk (X.blk ss3 Hz3 scope ce fp) [] H' b := fun {σ' H' s'} I' hn b hb =>
    ⟨hn b hb, (I'.ok.exf b hb).1, I'.ok.exfs b hb, .inl hb, fun x c e => (I'.ok.exf b hb).2 x c e, fun p hp => absurd (show p ∈ ([] : List (Addr × Obj)) ++ [] from hp) (by simp)⟩
  have loop : codeAny (model X.prog X.w) X.A (.compLoop (.DictComp kx vx [⟨tg, iter, ifs, 0⟩, ⟨tg1, iter1, ifs1, 0⟩] scope pos) 0 (.ref it) (.ref D) ce) (compPost (model X.prog X.w) X.A X.xe use Qf (.ref D) ss3.heap.objs.size) ss4 := by
    refine compLoop2D_out (hs1 ce) (fun n s' => ∃ i H', Inv (X.blk ss3 Hz3 scope ce fp) [] (wipe σ (own.map (·.2))) H' s' ∧ tn i s'.heap ∧ (∀ b ∈ fp, H' b = none) ∧ W i n H') ?_ m0 ⟨0, Hz3, Iv4, st4, nfp, w0⟩
    rintro n ss5 ⟨i, Hz5, Iv5, st5, n5, w5⟩
    rcases turn i n Hz5 w5 with ⟨stop, qq⟩ | ⟨go, Nx, hNx, step⟩
    · have td := T.done (X.blk ss3 Hz3 scope ce fp) rfl rfl rfl hc i [] ss5 _ Hz5 (fun _ _ => False) Iv5 (stat Iv5 n5) st5 stop
      refine thnF td fun r ss6 ⟨hr, Iv6⟩ => ?_
      subst hr
      -- back in the def's context
      have Iv7 : Inv X pins σ Hz5 ss6 := Iv3.call' (ch := fp) Iv6.os Iv6.base Iv6.hok Iv6.bare fun b hb => ⟨(f3 b hb).1.2.2.2.1, (f3 b hb).1.2.1, (f3 b hb).1.2.2.2.2.1, (f3 b hb).1.2.2.2.2.2⟩
      have nC : Hz5 ss3.heap.objs.size = none := by
        have z : Hz5 ce.locals = none := Iv6.free
        rw [cL] at z
        exact z
      obtain ⟨m, hn, _⟩ := Iv6.loc
      have hn : ss6.heap.Ns ce.locals m := hn
      rw [cL] at hn
      exact hRR D ss3.heap.objs.size ss6 m Hz5 Iv7 qq hn (Iv3.fpOk (Nat.le_refl _) nC)
    · have ti := T.item (X.blk ss3 Hz3 scope ce fp) rfl rfl rfl hc i [] ss5 _ Hz5 (fun _ _ => False) Iv5 (stat Iv5 n5) st5 go
      refine thnF ti fun r ss6 ⟨u, hr, h6⟩ => ?_
      subst hr
      refine thnF h6 fun _ ss7 ⟨x, Hz7, Iv7, r7, y7, st7, n7⟩ => ?_
      have Iv7' := Iv7.pinned (stat Iv7 n7) (T.obj _ _ st7)
      refine thnF (pg.run _ ss7 _ Hz7 x u _ Iv7' r7 (step x Hz7 y7)) fun _ ss8 ⟨σ8, Hz8, Iv8, hw8, q8⟩ => ?_
      refine thnF (pt.run _ ss8 σ8 Hz8 _ Iv8 q8) fun b ss9 ⟨Hz9, Iv9, q9⟩ => ?_
      -- the turn's end, from any slots that know what the block knew at its start
      have fin : ∀ {σ9 : L2.St} {s' : Shared} {H' : Hp}, Inv (X.blk ss3 Hz3 scope ce fp) ([] ++ pinsAt fp ss7.heap) σ9 H' s' → (wipe σ (own.map (·.2))).length = σ9.length → (∀ (j : Nat) v, (wipe σ (own.map (·.2)))[j]? = some (some v) → σ9[j]? = some (some v)) → Nx H' →
          ∃ m, m < n ∧ ∃ i H', Inv (X.blk ss3 Hz3 scope ce fp) [] (wipe σ (own.map (·.2))) H' s' ∧ tn i s'.heap ∧ (∀ b ∈ fp, H' b = none) ∧ W i m H' := fun {σ9 s' H'} I' hl hk nx => by
        obtain ⟨m', hm, w'⟩ := hNx H' nx
        have pin' : ∀ b ∈ fp, ∀ o, ss7.heap.get? b = some o → s'.heap.get? b = some o ∧ H' b = none := fun b hb o e =>
          let z := I'.pin (b, o) (List.mem_append_right _ (List.mem_append_right _ (mem_pinsAt hb e)))
          ⟨z.1, z.2.1⟩
        refine ⟨m', hm, i + 1, H', (I'.unpinned (pins := [])).weak hl hk, T.keep _ _ _ st7 fun b hb o e => (pin' b hb o e).1, fun b hb => ?_, w'⟩
        obtain ⟨o, e, _⟩ := T.obj _ _ st7 b hb
        exact (pin' b hb o e).2
      have hl8 : (wipe σ (own.map (·.2))).length = σ8.length := by rw [← hw8, wipe_length]
      have hk8 : ∀ (j : Nat) v, (wipe σ (own.map (·.2)))[j]? = some (some v) → σ8[j]? = some (some v) := fun j v e => by
        rw [← hw8] at e
        exact (wipe_some e).1
      have hk9 : ∀ (j : Nat) v, (wipe σ (own.map (·.2)))[j]? = some (some v) → (wipe σ8 vs1)[j]? = some (some v) := fun j v e => by
        rw [← hw8] at e
        obtain ⟨e1, e2⟩ := wipe_some e
        rw [wipe_out fun z => e2 (hv j z)]
        exact e1
      cases b with
      | false =>
        simp only [Bool.false_eq_true, if_false] at q9 ⊢
        exact fin Iv9 hl8 hk8 q9
      | true =>
        simp only [if_true] at q9 ⊢
        refine thnF (pi1.run _ ss9 σ8 Hz9 _ Iv9 q9) fun xv ss10 hx => thnF hx fun itv ss11 h11 => ?_
        obtain ⟨it1, fp1, tn1, J1, Hz11, e1, Iv11, T1, st11, f11, W1, ⟨m1, w1⟩, turn1⟩ := h11
        subst e1
        -- the inner loop
        have stat1 : ∀ {H' : Hp}, (∀ b ∈ fp1, H' b = none) → ∀ b ∈ fp1, FpOk (X.blk ss3 Hz3 scope ce fp) ([] ++ pinsAt fp ss7.heap) H' b := fun hn b hb => ⟨hn b hb, (f11 b hb).2⟩
        have loop1 : codeAny (model X.prog X.w) X.A (.compLoop (.DictComp kx vx [⟨tg, iter, ifs, 0⟩, ⟨tg1, iter1, ifs1, 0⟩] scope pos) 1 (.ref it1) (.ref D) ce)
            (fun r s' => match r with
              | .ok _ => ∃ m, m < n ∧ ∃ i H', Inv (X.blk ss3 Hz3 scope ce fp) [] (wipe σ (own.map (·.2))) H' s' ∧ tn i s'.heap ∧ (∀ b ∈ fp, H' b = none) ∧ W i m H'
              | .error _ => False) ss11 := by
          refine compLoop2D_in (fun k s' => ∃ j H', Inv (X.blk ss3 Hz3 scope ce fp) ([] ++ pinsAt fp ss7.heap) (wipe σ8 vs1) H' s' ∧ tn1 j s'.heap ∧ (∀ b ∈ fp1, H' b = none) ∧ W1 j k H') ?_ m1 ⟨0, Hz11, Iv11.weak (wipe_length _ _) (fun j v e => (wipe_some e).1), st11, fun b hb => (f11 b hb).1, w1⟩
          rintro k ss12 ⟨j, Hz12, Iv12, st12, n12, w12⟩
          rcases turn1 j k Hz12 w12 with ⟨stop1, nx1⟩ | ⟨go1, Nx1, hNx1, step1⟩
          · refine thnF (T1.done (X.blk ss3 Hz3 scope ce fp) rfl rfl rfl hc j _ ss12 (wipe σ8 vs1) Hz12 (fun _ _ => False) Iv12 (stat1 n12) st12 stop1) fun r ss13 ⟨hr, Iv13⟩ => ?_
            subst hr
            exact fin Iv13 (hl8.trans (wipe_length σ8 vs1).symm) hk9 nx1
          · refine thnF (T1.item (X.blk ss3 Hz3 scope ce fp) rfl rfl rfl hc j _ ss12 (wipe σ8 vs1) Hz12 (fun _ _ => False) Iv12 (stat1 n12) st12 go1) fun r ss13 ⟨u1, hr, h13⟩ => ?_
            subst hr
            refine thnF h13 fun _ ss14 ⟨x1, Hz14, Iv14, r14, y14, st14, n14⟩ => ?_
            have Iv14' := Iv14.pinned (stat1 n14) (T1.obj _ _ st14)
            refine thnF (pg1.run _ ss14 (wipe σ8 vs1) Hz14 x1 u1 _ Iv14' r14 (step1 x1 Hz14 y14)) fun _ ss15 ⟨σ15, Hz15, Iv15, hw15, q15⟩ => ?_
            refine thnF (pt1.run _ ss15 σ15 Hz15 _ Iv15 q15) fun b1 ss16 ⟨Hz16, Iv16, q16⟩ => ?_
            have fin1 : ∀ {s' : Shared} {H' : Hp}, Inv (X.blk ss3 Hz3 scope ce fp) (([] ++ pinsAt fp ss7.heap) ++ pinsAt fp1 ss14.heap) σ15 H' s' → Nx1 H' → ∃ m, m < k ∧ ∃ j H', Inv (X.blk ss3 Hz3 scope ce fp) ([] ++ pinsAt fp ss7.heap) (wipe σ8 vs1) H' s' ∧ tn1 j s'.heap ∧ (∀ b ∈ fp1, H' b = none) ∧ W1 j m H' := fun {s' H'} I' nx => by
              obtain ⟨m', hm, w'⟩ := hNx1 H' nx
              have pin' : ∀ b ∈ fp1, ∀ o, ss14.heap.get? b = some o → s'.heap.get? b = some o ∧ H' b = none := fun b hb o e =>
                let z := I'.pin (b, o) (List.mem_append_right _ (List.mem_append_right _ (mem_pinsAt hb e)))
                ⟨z.1, z.2.1⟩
              refine ⟨m', hm, j + 1, H', I'.unpinned.weak (by rw [← hw15, wipe_length]) (fun j v e => by rw [← hw15] at e; exact (wipe_some e).1), T1.keep _ _ _ st14 fun b hb o e => (pin' b hb o e).1, fun b hb => ?_, w'⟩
              obtain ⟨o, e, _⟩ := T1.obj _ _ st14 b hb
              exact (pin' b hb o e).2
            cases b1 with
            | false =>
              simp only [Bool.false_eq_true, if_false] at q16 ⊢
              exact fin1 Iv16 q16
            | true =>
              simp only [if_true] at q16 ⊢
              refine thnF (pk.run _ ss16 σ15 Hz16 _ Iv16 q16) fun zk ss17 ⟨yk, Hz17, Iv17, r17, q17⟩ => ?_
              refine thnF (pe.run _ ss17 σ15 Hz17 _ Iv17 q17) fun zv ss18 ⟨yv, Hz18, Iv18, r18, kvs, k, ek, hD18, hz18, nx⟩ => ?_
              subst ek
              exact d_dictSet (X := X.blk ss3 Hz3 scope ce fp) Iv18 hD18 hz18 r17 r18 fun ss19 Iv19 => fin1 Iv19 nx
        exact compStart1D_ok loop1 (T1.self X.A 0 _ _ _ st11 loop1)
  exact codeAny_compStart_dict loop (T.self X.A 0 _ _ _ st4 loop)

theorem pe_dc2 {kx vx tg iter tg1 iter1 : Expr} {ifs ifs1 : List Expr} {scope : Scope} {own : List (Str × Nat)} {vs1 : List Nat} {pos : Pos} {wi wi1 : TI} {g g1 : TG} {tt tt1 : TT} {tk tv : TE} (hc : X.calm = true) (hN : X.N.Nodup) (hi : PI X tg iter wi) (ok : BlkOk X.N X.env.scope scope own) (hv : ∀ i ∈ vs1, i ∈ own.map (·.2))
    (hg : ∀ (s : Shared) (H : Hp) (C : Addr) (cl : List (Str × Addr)) (fp : List Addr), PG (X.blk s H scope (compEnvC scope cl C X.env) fp) tg g) (ht : ∀ (s : Shared) (H : Hp) (C : Addr) (cl : List (Str × Addr)) (fp : List Addr), PTs (X.blk s H scope (compEnvC scope cl C X.env) fp) ifs tt)
    (hi1 : ∀ (s : Shared) (H : Hp) (C : Addr) (cl : List (Str × Addr)) (fp : List Addr), PI (X.blk s H scope (compEnvC scope cl C X.env) fp) tg1 iter1 wi1)
    (hg1 : ∀ (s : Shared) (H : Hp) (C : Addr) (cl : List (Str × Addr)) (fp : List Addr), PG (X.blk s H scope (compEnvC scope cl C X.env) fp) tg1 g1) (ht1 : ∀ (s : Shared) (H : Hp) (C : Addr) (cl : List (Str × Addr)) (fp : List Addr), PTs (X.blk s H scope (compEnvC scope cl C X.env) fp) ifs1 tt1)
    (hk : ∀ (s : Shared) (H : Hp) (C : Addr) (cl : List (Str × Addr)) (fp : List Addr), PE (X.blk s H scope (compEnvC scope cl C X.env) fp) kx tk)
    (he : ∀ (s : Shared) (H : Hp) (C : Addr) (cl : List (Str × Addr)) (fp : List Addr), PE (X.blk s H scope (compEnvC scope cl C X.env) fp) vx tv) (hs : ∀ x, foldedSetIterable iter X.env x = pure x := by intro _; rfl) (hs1 : ∀ env x, foldedSetIterable iter1 env x = pure x := by intro _ _; rfl) :
    PE X (.DictComp kx vx [⟨tg, iter, ifs, 0⟩, ⟨tg1, iter1, ifs1, 0⟩] scope pos) (tDc2 wi g tt wi1 g1 tt1 tk tv (own.map (·.2)) vs1) := by
  refine ⟨fun pins s σ H Q I h => ?_⟩
  rw [arm_eval_DictComp]
  refine dc2_core hc hN I hi ok hv hg ht hk he hs hi1 hg1 ht1 hs1 h fun D C s' m H' I' q hn f => ⟨m, hn, fun h'' sb => ?_⟩
  obtain ⟨f0, f1, f2, f3, f4, f5⟩ := f
  exact ⟨.ref D, H', I'.turned (t' := s'.toks) (fun b o hb e => (sb.2 b hb).trans e) f0 f1 f3 f4 f5, rfl, q⟩
end
end DL

/-! Dict comprehensions of two clauses by trees. -/
namespace DL
open PySem PySem.Spec PyProof.Rows L2
section
variable {g : Gd} {kx vx tg iter tg1 iter1 : Expr} {ifs ifs1 : List Expr} {scope : Scope} {own : List (Str × Nat)} {pos : Pos} {w w1 : DTI} {gt gt1 : DTG} {tt tt1 : DTT} {tk tv : DTE} {ns ms vs1 : List Nat}
def dDc2 (w : DTI) (gt : DTG) (tt : DTT) (w1 : DTI) (gt1 : DTG) (tt1 : DTT) (tk tv : DTE) (vs vs1 : List Nat) : DTD := fun e M Q E => w e M (fun src M1 => ∃ I : Nat → List (Key × D) → Mem → Prop, I 0 [] M1 ∧
  (∀ i d acc M', src.items[i]? = some d → I i acc M' → src.live M' ∧ gt d (wipeS e vs) M' (fun e2 M2 => tt e2 M2 (fun b M3 =>
    if b = true then w1 e2 M3 (fun src1 M4 => ∃ I1 : Nat → List (Key × D) → Mem → Prop, I1 0 acc M4 ∧
      (∀ j d1 acc1 M5, src1.items[j]? = some d1 → I1 j acc1 M5 → src1.live M5 ∧ gt1 d1 (wipeS e2 vs1) M5 (fun e3 M6 => tt1 e3 M6 (fun b M7 =>
        if b = true then tk e3 M7 (fun y M8 => tv e3 M8 (fun z M9 => acc1.length < sizeLine ∧ ∃ k, keyD y = some k ∧ I1 (j + 1) (putG acc1 k z) M9) EF) EF else I1 (j + 1) acc1 M7) EF) EF) ∧
      ∀ acc1 M5, I1 src1.items.length acc1 M5 → src1.live M5 ∧ I (i + 1) acc1 M5) EF
    else I (i + 1) acc M3) EF) EF) ∧
  ∀ acc M', I src.items.length acc M' → src.live M' ∧ Q acc M') E
theorem dc2_low {w' w1' : TI} {g' g1' : TG} {tt' tt1' : TT} (ki : ∀ σ H e M R (RV : It → Hp → Prop), SRel g.X.K H e σ → MRel g.X.K M H → Fr g.M0 g.H0 M H → w e M R g.E →
      (∀ J src M1 H1, JRel g.X.K H1 J src → MRel g.X.K M1 H1 → Fr M H M1 H1 → R src M1 → RV J H1) → w' σ H RV)
    (kg : ∀ σ H e M v d Q (QV : L2.St → Hp → Prop), SRel g.X.K H e σ → MRel g.X.K M H → Is g.X.K H d v → gt d e M Q EF →
      (∀ σ' H' e' M', SRel g.X.K H' e' σ' → MRel g.X.K M' H' → Fr M H M' H' → (∀ vs, (∀ i ∈ ns, i ∈ vs) → L2.wipe σ' vs = L2.wipe σ vs) → Q e' M' → QV σ' H') → g' v σ H QV)
    (kt : ∀ σ H e M Q (QV : Bool → Hp → Prop), SRel g.X.K H e σ → MRel g.X.K M H → tt e M Q EF → (∀ b M' H', MRel g.X.K M' H' → Fr M H M' H' → Q b M' → QV b H') → tt' σ H QV)
    (ki1 : ∀ σ H e M R (RV : It → Hp → Prop), SRel g.X.K H e σ → MRel g.X.K M H → w1 e M R EF →
      (∀ J src M1 H1, JRel g.X.K H1 J src → MRel g.X.K M1 H1 → Fr M H M1 H1 → R src M1 → RV J H1) → w1' σ H RV)
    (kg1 : ∀ σ H e M v d Q (QV : L2.St → Hp → Prop), SRel g.X.K H e σ → MRel g.X.K M H → Is g.X.K H d v → gt1 d e M Q EF →
      (∀ σ' H' e' M', SRel g.X.K H' e' σ' → MRel g.X.K M' H' → Fr M H M' H' → (∀ vs, (∀ i ∈ ms, i ∈ vs) → L2.wipe σ' vs = L2.wipe σ vs) → Q e' M' → QV σ' H') → g1' v σ H QV)
    (kt1 : ∀ σ H e M Q (QV : Bool → Hp → Prop), SRel g.X.K H e σ → MRel g.X.K M H → tt1 e M Q EF → (∀ b M' H', MRel g.X.K M' H' → Fr M H M' H' → Q b M' → QV b H') → tt1' σ H QV)
    (hns : ∀ i ∈ ns, i ∈ own.map (·.2)) (hms : ∀ i ∈ ms, i ∈ vs1) {σ : L2.St} {H : Hp} {e : Sl} {M : Mem} {Q : List (Key × D) → Mem → Prop} {QV : VK} (sl : SRel g.X.K H e σ) (mr : MRel g.X.K M H) (fr : Fr g.M0 g.H0 M H)
    (q : dDc2 w gt tt w1 gt1 tt1 tk tv (own.map (·.2)) vs1 e M Q g.E)
    (k : ∀ a vs ds M' H', H' a = some (.dK vs) → KRel g.X.K H' ds vs → M' a = none → H a = none → MRel g.X.K M' H' → Fr M H M' H' → Q ds M' → QV (.ref a) H') : tDc2 w' g' tt' w1' g1' tt1' (lowAny g.X.K tk) (lowAny g.X.K tv) (own.map (·.2)) vs1 σ H QV := by
  refine ki σ H e M _ _ sl mr fr q fun J src M1 H1 jr m1 f1 q => ?_
  obtain ⟨I, h0, turn, last⟩ := q
  intro p hp
  have np1 : M1 p = none := m1.none_of hp
  have h0p : H p = none := f1.there p hp
  have fn := fr_new (o := HO.dK []) m1 hp
  refine ⟨fun i n H' => i + n = src.items.length ∧ ∃ acc vs M', H' p = some (.dK vs) ∧ KRel g.X.K H' acc vs ∧ M' p = none ∧ MRel g.X.K M' H' ∧ Fr M1 H1 M' H' ∧ I i acc M',
    ⟨src.items.length, by omega, [], [], M1, upd_same, KRel.nil, np1, mr_new m1 hp, fn, h0⟩, fun i n H' hw => ?_⟩
  obtain ⟨hn, acc, vs, M', hp', il, np, m', f', hw⟩ := hw
  cases n with
  | zero =>
    have hi : i = src.items.length := by omega
    subst hi
    obtain ⟨lv, q⟩ := last acc M' hw
    exact .inl ⟨(jr _ M' H' m' (f'.ext m1) lv).2 (Nat.le_refl _), k p vs acc M' H' hp' il np h0p m' (f1.trans f') q⟩
  | succ n =>
    have hi : i < src.items.length := by omega
    have hd := List.getElem?_eq_getElem hi
    obtain ⟨lv, q⟩ := turn i _ acc M' hd hw
    obtain ⟨go, yl⟩ := (jr i M' H' m' (f'.ext m1) lv).1 _ hd
    refine .inr ⟨go, fun H2 => ∃ acc vs M', H2 p = some (.dK vs) ∧ KRel g.X.K H2 acc vs ∧ M' p = none ∧ MRel g.X.K M' H2 ∧ Fr M1 H1 M' H2 ∧ I (i + 1) acc M', fun H2 z => ⟨n, by omega, by omega, z⟩, fun x H2 y => ?_⟩
    obtain ⟨ix, m2, f2⟩ := yl x H2 y
    refine kg (wipe σ (own.map (·.2))) H2 (wipeS e (own.map (·.2))) M' x _ _ _ ((sl.ext ((f1.trans (f'.trans f2)).ext mr)).wipe _) m2 ix q fun σ3 H3 e3 M3 sl3 m3 f3 hwp q => ?_
    refine ⟨(hwp _ hns).trans (wipe_wipe σ _), ?_⟩
    refine kt σ3 H3 e3 M3 _ _ sl3 m3 q fun b M4 H4 m4 f4 q => ?_
    have f24 := f2.trans (f3.trans f4)
    obtain ⟨p4, np4⟩ := f24.keep p _ hp' np
    have il4 := (show KRel g.X.K H4 acc vs from ⟨il.1, IsL.ext (f24.ext m') _ _ il.2⟩)
    have sl4 := sl3.ext (f4.ext m3)
    cases b with
    | false => exact ⟨acc, vs, M4, p4, il4, np4, m4, f'.trans f24, q⟩
    | true =>
      refine ki1 σ3 H4 e3 M4 _ _ sl4 m4 q fun J1 src1 M5 H5 jr1 m5 f5 q => ?_
      obtain ⟨I1, k0, turn1, last1⟩ := q
      have f15 := f'.trans (f24.trans f5)
      obtain ⟨p5, np5⟩ := f5.keep p _ p4 np4
      refine ⟨fun j n H' => j + n = src1.items.length ∧ ∃ acc vs M', H' p = some (.dK vs) ∧ KRel g.X.K H' acc vs ∧ M' p = none ∧ MRel g.X.K M' H' ∧ Fr M1 H1 M' H' ∧ Ext g.X.K H5 H' ∧ I1 j acc M',
        ⟨src1.items.length, by omega, acc, vs, M5, p5, ⟨il4.1, IsL.ext (f5.ext m4) _ _ il4.2⟩, np5, m5, f15, Ext.refl, k0⟩, fun j n' H' hw => ?_⟩
      obtain ⟨hn1, ac, us, M6, p6, il6, np6, m6, f6, e6, hw⟩ := hw
      cases n' with
      | zero =>
        have hj : j = src1.items.length := by omega
        subst hj
        obtain ⟨lv, q⟩ := last1 ac M6 hw
        exact .inl ⟨(jr1 _ M6 H' m6 e6 lv).2 (Nat.le_refl _), ac, us, M6, p6, il6, np6, m6, f6, q⟩
      | succ n' =>
        have hj : j < src1.items.length := by omega
        have hd1 := List.getElem?_eq_getElem hj
        obtain ⟨lv, q⟩ := turn1 j _ ac M6 hd1 hw
        obtain ⟨go1, yl1⟩ := (jr1 j M6 H' m6 e6 lv).1 _ hd1
        refine .inr ⟨go1, fun H2 => ∃ acc vs M', H2 p = some (.dK vs) ∧ KRel g.X.K H2 acc vs ∧ M' p = none ∧ MRel g.X.K M' H2 ∧ Fr M1 H1 M' H2 ∧ Ext g.X.K H5 H2 ∧ I1 (j + 1) acc M', fun H2 z => ⟨n', by omega, by omega, z⟩, fun x1 H7 y1 => ?_⟩
        obtain ⟨ix1, m7, f7⟩ := yl1 x1 H7 y1
        have e57 : Ext g.X.K H5 H7 := e6.trans (f7.ext m6)
        refine kg1 (wipe σ3 vs1) H7 (wipeS e3 vs1) M6 x1 _ _ _ ((sl4.ext ((f5.ext m4).trans e57)).wipe _) m7 ix1 q fun σ8 H8 e8 M8 sl8 m8 f8 hw8 q => ?_
        refine ⟨(hw8 _ hms).trans (wipe_wipe σ3 _), ?_⟩
        refine kt1 σ8 H8 e8 M8 _ _ sl8 m8 q fun b M9 H9 m9 f9 q => ?_
        have f79 := f7.trans (f8.trans f9)
        cases b with
        | false =>
          obtain ⟨p9, np9⟩ := f79.keep p _ p6 np6
          exact ⟨ac, us, M9, p9, ⟨il6.1, IsL.ext (f79.ext m6) _ _ il6.2⟩, np9, m9, f6.trans f79, e6.trans (f79.ext m6), q⟩
        | true =>
          have sl9 := sl8.ext (f9.ext m8)
          refine lowAny_start sl9 m9 q fun v d Ma Ha ia ma fa q => ?_
          refine lowAny_start (sl9.ext (fa.ext m9)) ma q fun z dz Mb Hb ib mb fb q => ?_
          have f7b := f79.trans (fa.trans fb)
          obtain ⟨pb, npb⟩ := f7b.keep p _ p6 np6
          have ilb : KRel g.X.K Hb ac us := ⟨il6.1, IsL.ext (f7b.ext m6) _ _ il6.2⟩
          obtain ⟨hz, kk, hk, q⟩ := q
          have ey := keyD_is (Is.ext (fb.ext ma) _ _ ia) hk
          have eo : Ext g.X.K Hb (upd Hb p (.dK (putK us kk z))) := ext_outK pb
          have rp := ilb.put (k := kk) ib
          exact ⟨us, kk, ey, pb, by rw [KRel.length ilb]; exact hz, putG ac kk dz, putK us kk z, Mb, upd_same, ⟨rp.1, IsL.ext eo _ _ rp.2⟩, npb, mr_outK mb pb npb, fr_out (f6.trans f7b) hp, (e6.trans (f7b.ext m6)).trans eo, q⟩
theorem de_dc2 (hc : g.X.calm = true) (hN : g.X.N.Nodup) (hi : DI g tg iter w) (ok : BlkOk g.X.N g.X.env.scope scope own) (hv : ∀ i ∈ vs1, i ∈ own.map (·.2)) (hg : BlkG g scope tg gt ns) (ht : BlkT g scope ifs tt) (hi1 : BlkI g scope tg1 iter1 w1) (hg1 : BlkG g scope tg1 gt1 ms) (ht1 : BlkT g scope ifs1 tt1)
    (hk : BlkE g scope kx tk) (he : BlkE g scope vx tv) (hns : ∀ i ∈ ns, i ∈ own.map (·.2)) (hms : ∀ i ∈ ms, i ∈ vs1) (hs : ∀ x, foldedSetIterable iter g.X.env x = pure x) (hs1 : ∀ env x, foldedSetIterable iter1 env x = pure x) :
    DE g (.DictComp kx vx [⟨tg, iter, ifs, 0⟩, ⟨tg1, iter1, ifs1, 0⟩] scope pos) (dNewD (dDc2 w gt tt w1 gt1 tt1 tk tv (own.map (·.2)) vs1)) := by
  obtain ⟨w', pi, ki⟩ := hi.pi
  obtain ⟨g', pg, kg⟩ := hg
  obtain ⟨t', pt, kt⟩ := ht
  obtain ⟨w1', pi1, ki1⟩ := hi1
  obtain ⟨g1', pg1, kg1⟩ := hg1
  obtain ⟨t1', pt1, kt1⟩ := ht1
  refine DE.of (pe_dc2 hc hN pi ok hv pg pt pi1 pg1 pt1 hk.pe he.pe hs hs1) fun σ H e M Q sl mr fr q => ?_
  refine dc2_low ki kg kt ki1 kg1 kt1 hns hms sl mr fr q fun a ws kvs M' H' h l n n0 m f q => ?_
  obtain ⟨m2, f2⟩ := new_inK h l n n0 m f
  exact lowQ.mk ii_ref m2 f2 (q a n)
end
end DL

/-! Set comprehensions of keys (turned from the rule for truths by gen_dm21.py); how many there are. -/
namespace DL
open PySem PySem.Spec PyProof.Rows L2
theorem setK_fresh (P : Program) (w : World) (h : Heap) : (h.push { cls := .type "set", dict := none, data := .set #[] 0 (.fresh 0 0 (!w.params.followText "set-order")) }).SetOf (mixKind P w) h.objs.size (fun _ => false) 0 :=
  ⟨_, #[], 0, _, Heap.get?_push_size _ rfl, ⟨rfl, rfl, rfl⟩, rfl, (fun e he => by simp at he), (fun k => by simp), (by decide), (by rfl), rfl⟩
section
variable {X : Cx}
theorem addK_ok {pins : List (Addr × Obj)} {σ : L2.St} {H : Hp} {s : Shared} {E : Value → Shared → Prop} {D : Addr} {S : Key → Bool} {n : Nat} {k : Key} {u : Value} {Q : Value → Shared → Prop} (I : Inv X pins σ H s) (hD : H D = some (SetK X.prog X.w D S n)) (room : n + 1 < scanBound) (r : RelV (kV k) u)
    (h : ∀ s', Inv X pins σ (upd H D (SetK X.prog X.w D (fun j => S j || decide (j = k)) (if S k = true then n else n + 1))) s' → Q .none s') : wpAny (model X.prog X.w) X.A (call (.builtin "set.add") [.ref D, u]) Q E s := by
  refine call_set_add (kV_is r) (key_scan r) (setK_get I hD) room fun h' sb new => ?_
  have he : ∃ v, h'.get? D = some v := by
    have ⟨o, _, _, _, ho, _⟩ := new
    exact ⟨o, ho⟩
  exact h _ (I.write (e := D) (t' := s.toks + 1) (by rw [hD]; trivial) (.inl rfl) (fun b v hb hu => (sb.2 b hb).trans hu) he (setK_new new))
def tScK (P : Program) (w : World) (wi : TI) (g : TG) (tt : TT) (te : TE) (vs : List Nat) : TE := fun σ H Q => wi σ H fun J Hz1 => ∀ D, Hz1 D = none → ∃ W : Nat → Nat → Hp → Prop, (∃ m, W 0 m (upd Hz1 D (SetK P w D (fun _ => false) 0))) ∧ ∀ i m H, W i m H →
  (J.stop i H ∧ Q (.ref D) H) ∨ (J.go i H ∧ ∃ Nx : Hp → Prop, (∀ H', Nx H' → ∃ m', m' < m ∧ W (i + 1) m' H') ∧ ∀ x H', J.yld i H x H' → g x (wipe σ vs) H' fun σ2 Hz2 => wipe σ2 vs = wipe σ vs ∧ tt σ2 Hz2 fun b Hz3 =>
    if b = true then te σ2 Hz3 fun y Hz4 => ∃ (c : Key) (S : Key → Bool) (n : Nat), y = kV c ∧ Hz4 D = some (SetK P w D S n) ∧ n + 1 < scanBound ∧ Nx (upd Hz4 D (SetK P w D (fun j => S j || decide (j = c)) (if S c = true then n else n + 1))) else Nx Hz3)
theorem sk_core {pins : List (Addr × Obj)} {s : Shared} {σ : L2.St} {H : Hp} {Q : VK} {elt tg iter : Expr} {ifs : List Expr} {scope : Scope} {own : List (PySem.Str × Nat)} {pos pos' : Pos} {wi : TI} {g : TG} {tt : TT} {te : TE} {use : Option (Value → Sem Unit)} {Qf : Value → Shared → Prop}
    (hc : X.calm = true) (hN : X.N.Nodup) (I : Inv X pins σ H s) (hi : PI X tg iter wi) (ok : BlkOk X.N X.env.scope scope own)
    (hg : ∀ (s : Shared) (H : Hp) (C : Addr) (cl : List (PySem.Str × Addr)) (fp : List Addr), PG (X.blk s H scope (compEnvC scope cl C X.env) fp) tg g) (ht : ∀ (s : Shared) (H : Hp) (C : Addr) (cl : List (PySem.Str × Addr)) (fp : List Addr), PTs (X.blk s H scope (compEnvC scope cl C X.env) fp) ifs tt)
    (he : ∀ (s : Shared) (H : Hp) (C : Addr) (cl : List (PySem.Str × Addr)) (fp : List Addr), PE (X.blk s H scope (compEnvC scope cl C X.env) fp) elt te) (hs : ∀ x, foldedSetIterable iter X.env x = pure x)
    (h : tScK X.prog X.w wi g tt te (own.map (·.2)) σ H Q)
    (hRR : ∀ D C s' m H', Inv X pins σ H' s' → Q (.ref D) H' → s'.heap.Ns C m → FpOk X pins H' C → compPost (model X.prog X.w) X.A X.xe use Qf (.ref D) C (.ok .next) s') :
    wpAny (model X.prog X.w) X.A (comprehension (.SetComp elt [⟨tg, iter, ifs, 0⟩] scope pos) scope X.env pos' (newSet (.type "set")) false (eval iter X.env) use) Qf X.xe s := by
  have hfree : ∀ y ∈ scope.names, y.2 = .free → ∃ c, X.env.cells.lookup y.1 = some c := fun y hy e => by
    rcases ok.free y hy e with k | k
    · exact I.ok.has _ (.inl k)
    · exact I.ok.has _ (.inr k)
  refine wpAny_comprehension_free (use := use) rfl hs (closure_ok hfree) ok.kind (fun y hy e => by rw [ok.uniq y hy, e])
    (thn (hi.run pins s σ H _ I h) fun xv ss1 hx => thn hx fun itv ss2 h2 => ?_)
  obtain ⟨it, fp, tn, J, Hz2, e, Iv2, T, st2, f2, q⟩ := h2
  subst e
  refine PpSet.newSet_ok (newEnv_comp ?_)
  generalize hD : ss2.heap.objs.size = D
  have hDn : Hz2 D = none := Iv2.hok.fresh (Nat.le_of_eq hD)
  obtain ⟨W, ⟨m0, w0⟩, turn⟩ := q D hDn
  -- the new list
  generalize hs3 : ({ ss2 with heap := ss2.heap.push { cls := .type "set", dict := none, data := .set #[] 0 (.fresh 0 0 (!X.w.params.followText "set-order")) } } : Shared) = ss3
  have Iv3 : Inv X pins σ (upd Hz2 D (SetK X.prog X.w D (fun _ => false) 0)) ss3 := by
    rw [← hs3]
    refine Iv2.laid (t' := ss2.toks) (fun b o e => Heap.get?_push_of_some _ e) (Nat.le_of_eq hD) ?_
    rw [← hD]
    exact setK_new (setK_fresh X.prog X.w ss2.heap)
  have h3 : ss3.heap = ss2.heap.push { cls := .type "set", dict := none, data := .set #[] 0 (.fresh 0 0 (!X.w.params.followText "set-order")) } := by rw [← hs3]
  have sz : ∀ b ∈ fp, b < ss2.heap.objs.size := fun b hb => by
    obtain ⟨o, e, _⟩ := T.obj _ _ st2 b hb
    exact Heap.lt_size e
  have f3 : ∀ b ∈ fp, FpOk X pins (upd Hz2 D (SetK X.prog X.w D (fun _ => false) 0)) b ∧ b < ss3.heap.objs.size := fun b hb => by
    have hlt := sz b hb
    refine ⟨⟨?_, (f2 b hb).2⟩, by rw [h3, Heap.size_push]; exact Nat.lt_succ_of_lt hlt⟩
    rw [upd_ne (by rw [← hD]; exact Nat.ne_of_lt hlt)]
    exact (f2 b hb).1
  have st3 : tn 0 ss3.heap := T.keep _ _ _ st2 fun b _ o e => by rw [h3]; exact Heap.get?_push_of_some _ e
  have Iv4 := block_start Iv3 ok hN f3
  have pg := hg ss3 (upd Hz2 D (SetK X.prog X.w D (fun _ => false) 0)) ss3.heap.objs.size (cellsFrom (ss3.heap.objs.size + 1) scope.names (cloFrom X.env.cells scope.names [])) fp
  have pt := ht ss3 (upd Hz2 D (SetK X.prog X.w D (fun _ => false) 0)) ss3.heap.objs.size (cellsFrom (ss3.heap.objs.size + 1) scope.names (cloFrom X.env.cells scope.names [])) fp
  have pe := he ss3 (upd Hz2 D (SetK X.prog X.w D (fun _ => false) 0)) ss3.heap.objs.size (cellsFrom (ss3.heap.objs.size + 1) scope.names (cloFrom X.env.cells scope.names [])) fp
  show codeAny _ _ (.compStart (.SetComp elt [⟨tg, iter, ifs, 0⟩] scope pos) 0 (.ref it) (.ref D) (compEnvC scope (cellsFrom (ss3.heap.objs.size + 1) scope.names (cloFrom X.env.cells scope.names [])) ss3.heap.objs.size X.env)) (compPost (model X.prog X.w) X.A X.xe use Qf (.ref D) ss3.heap.objs.size) { ss3 with heap := pushCells (ss3.heap.push { cls := .type "dict", data := .dict #[] }) scope.names }
  have nfp : ∀ b ∈ fp, (upd Hz2 D (SetK X.prog X.w D (fun _ => false) 0)) b = none := fun b hb => (f3 b hb).1.1
  generalize hce : compEnvC scope (cellsFrom (ss3.heap.objs.size + 1) scope.names (cloFrom X.env.cells scope.names [])) ss3.heap.objs.size X.env = ce at Iv4 pg pt pe ⊢
  have cL : ce.locals = ss3.heap.objs.size := by subst hce; rfl
  generalize hH3 : upd Hz2 D (SetK X.prog X.w D (fun _ => false) 0) = Hz3 at Iv3 Iv4 pg pt pe w0 nfp f3
  generalize hs4 : ({ ss3 with heap := pushCells (ss3.heap.push { cls := .type "dict", data := .dict #[] }) scope.names } : Shared) = ss4 at Iv4 ⊢
  have st4 : tn 0 ss4.heap := T.keep _ _ _ st3 fun b _ o e => by rw [← hs4]; exact pushCells_keeps _ _ _ _ (Heap.get?_push_of_some _ e)
  have stat : ∀ {σ' : L2.St} {H' : Hp} {s' : Shared}, Inv (X.blk ss3 Hz3 scope ce fp) [] σ' H' s' → (∀ b ∈ fp, H' b = none) → ∀ b ∈ fp, FpOk (X.blk ss3 Hz3 scope ce fp) [] H' b := fun {σ' H' s'} I' hn b hb =>
    ⟨hn b hb, (I'.ok.exf b hb).1, I'.ok.exfs b hb, .inl hb, fun x c e => (I'.ok.exf b hb).2 x c e, fun p hp => absurd (show p ∈ ([] : List (Addr × Obj)) ++ [] from hp) (by simp)⟩
  have loop : codeAny (model X.prog X.w) X.A (.compLoop (.SetComp elt [⟨tg, iter, ifs, 0⟩] scope pos) 0 (.ref it) (.ref D) ce) (compPost (model X.prog X.w) X.A X.xe use Qf (.ref D) ss3.heap.objs.size) ss4 := by
    refine PpSet.compLoopS_any (fun n s' => ∃ i H', Inv (X.blk ss3 Hz3 scope ce fp) [] (wipe σ (own.map (·.2))) H' s' ∧ tn i s'.heap ∧ (∀ b ∈ fp, H' b = none) ∧ W i n H') ?_ m0 ⟨0, Hz3, Iv4, st4, nfp, w0⟩
    rintro n ss5 ⟨i, Hz5, Iv5, st5, n5, w5⟩
    rcases turn i n Hz5 w5 with ⟨stop, qq⟩ | ⟨go, Nx, hNx, step⟩
    · have td := T.done (X.blk ss3 Hz3 scope ce fp) rfl rfl rfl hc i [] ss5 _ Hz5 (fun _ _ => False) Iv5 (stat Iv5 n5) st5 stop
      refine thnF td fun r ss6 ⟨hr, Iv6⟩ => ?_
      subst hr
      -- back in the def's context
      have Iv7 : Inv X pins σ Hz5 ss6 := Iv3.call' (ch := fp) Iv6.os Iv6.base Iv6.hok Iv6.bare fun b hb => ⟨(f3 b hb).1.2.2.2.1, (f3 b hb).1.2.1, (f3 b hb).1.2.2.2.2.1, (f3 b hb).1.2.2.2.2.2⟩
      have nC : Hz5 ss3.heap.objs.size = none := by
        have z : Hz5 ce.locals = none := Iv6.free
        rw [cL] at z
        exact z
      obtain ⟨m, hn, _⟩ := Iv6.loc
      have hn : ss6.heap.Ns ce.locals m := hn
      rw [cL] at hn
      exact hRR D ss3.heap.objs.size ss6 m Hz5 Iv7 qq hn (Iv3.fpOk (Nat.le_refl _) nC)
    · have ti := T.item (X.blk ss3 Hz3 scope ce fp) rfl rfl rfl hc i [] ss5 _ Hz5 (fun _ _ => False) Iv5 (stat Iv5 n5) st5 go
      refine thnF ti fun r ss6 ⟨u, hr, h6⟩ => ?_
      subst hr
      refine thnF h6 fun _ ss7 ⟨x, Hz7, Iv7, r7, y7, st7, n7⟩ => ?_
      have Iv7' := Iv7.pinned (stat Iv7 n7) (T.obj _ _ st7)
      refine thnF (pg.run _ ss7 _ Hz7 x u _ Iv7' r7 (step x Hz7 y7)) fun _ ss8 ⟨σ8, Hz8, Iv8, hw8, q8⟩ => ?_
      refine thnF (pt.run _ ss8 σ8 Hz8 _ Iv8 q8) fun b ss9 ⟨Hz9, Iv9, q9⟩ => ?_
      -- the turn's end
      have fin : ∀ {s' : Shared} {H' : Hp}, Inv (X.blk ss3 Hz3 scope ce fp) ([] ++ pinsAt fp ss7.heap) σ8 H' s' → Nx H' → ∃ m, m < n ∧ ∃ i H', Inv (X.blk ss3 Hz3 scope ce fp) [] (wipe σ (own.map (·.2))) H' s' ∧ tn i s'.heap ∧ (∀ b ∈ fp, H' b = none) ∧ W i m H' := fun {s' H'} I' nx => by
        obtain ⟨m', hm, w'⟩ := hNx H' nx
        have pin' : ∀ b ∈ fp, ∀ o, ss7.heap.get? b = some o → s'.heap.get? b = some o ∧ H' b = none := fun b hb o e =>
          let z := I'.pin (b, o) (List.mem_append_right _ (List.mem_append_right _ (mem_pinsAt hb e)))
          ⟨z.1, z.2.1⟩
        have hl : (wipe σ (own.map (·.2))).length = σ8.length := by rw [← hw8, wipe_length]
        refine ⟨m', hm, i + 1, H', (I'.unpinned (pins := [])).weak hl (fun j v e => ?_), T.keep _ _ _ st7 fun b hb o e => (pin' b hb o e).1, fun b hb => ?_, w'⟩
        · rw [← hw8] at e
          exact (wipe_some e).1
        · obtain ⟨o, e, _⟩ := T.obj _ _ st7 b hb
          exact (pin' b hb o e).2
      cases b with
      | false =>
        simp only [Bool.false_eq_true, if_false] at q9 ⊢
        exact fin Iv9 q9
      | true =>
        simp only [if_true] at q9 ⊢
        refine thnF (pe.run _ ss9 σ8 Hz9 _ Iv9 q9) fun z ss10 ⟨yv, Hz10, Iv10, r10, cb, S0, n0, ey, hD10, hz10, nx⟩ => ?_
        subst ey
        exact addK_ok (X := X.blk ss3 Hz3 scope ce fp) Iv10 hD10 hz10 r10 fun ss11 Iv11 => fin Iv11 nx
  exact PpSet.codeAny_compStart_set loop (T.self X.A 0 _ _ _ st4 loop)
theorem pe_scK {elt tg iter : Expr} {ifs : List Expr} {scope : Scope} {own : List (PySem.Str × Nat)} {pos : Pos} {wi : TI} {g : TG} {tt : TT} {te : TE} (hc : X.calm = true) (hN : X.N.Nodup) (hi : PI X tg iter wi) (ok : BlkOk X.N X.env.scope scope own)
    (hg : ∀ (s : Shared) (H : Hp) (C : Addr) (cl : List (PySem.Str × Addr)) (fp : List Addr), PG (X.blk s H scope (compEnvC scope cl C X.env) fp) tg g) (ht : ∀ (s : Shared) (H : Hp) (C : Addr) (cl : List (PySem.Str × Addr)) (fp : List Addr), PTs (X.blk s H scope (compEnvC scope cl C X.env) fp) ifs tt)
    (he : ∀ (s : Shared) (H : Hp) (C : Addr) (cl : List (PySem.Str × Addr)) (fp : List Addr), PE (X.blk s H scope (compEnvC scope cl C X.env) fp) elt te) (hs : ∀ x, foldedSetIterable iter X.env x = pure x := by intro _; rfl) :
    PE X (.SetComp elt [⟨tg, iter, ifs, 0⟩] scope pos) (tScK X.prog X.w wi g tt te (own.map (·.2))) := by
  refine ⟨fun pins s σ H Q I h => ?_⟩
  rw [PpSet.eval_SetComp]
  refine sk_core hc hN I hi ok hg ht he hs h fun D C s' m H' I' q hn f => ⟨m, hn, fun h'' sb => ?_⟩
  obtain ⟨f0, f1, f2, f3, f4, f5⟩ := f
  exact ⟨.ref D, H', I'.turned (t' := s'.toks) (fun b o hb e => (sb.2 b hb).trans e) f0 f1 f3 f4 f5, rfl, q⟩
end
end DL

/-! len({.. for .. in ..}): how many unlike keys a comprehension gives. -/
namespace DL
open PySem PySem.Spec PyProof.Rows L2
section
variable {X : Cx}
def tLenS (P : Program) (w : World) (te : TE) : TE := fun σ H Q => te σ H fun x H1 => ∃ (a : Addr) (S : Key → Bool) (n : Nat), x = V.ref a ∧ H1 a = some (SetK P w a S n) ∧ n < scanBound ∧ Q (.int n) H1
theorem pe_lenS {a : Expr} {ta : TE} {p pos : Pos} (hg : Gl X "len") (hm : X.mg "len" = none) (ha : PE X a ta) (na : isStar a = false) : PE X (.Call (.Name "len" p) [a] [] pos) (tLenS X.prog X.w ta) := by
  refine ⟨fun pins s σ H Q I h => ?_⟩
  refine Call_ (ld_blt I hg hm boot_len ?_)
  refine PyProof.Rows.callWith_builtin1 (PyProof.Rows.args_cons (thn (ha.run pins s σ H _ I h) fun v s1 ⟨x, H1, I1, r1, q1⟩ => PyProof.Rows.args_nil ?_) (star_cons na)) (star_cons na) rfl
  obtain ⟨l, S, n, rfl, hq, h1, q1⟩ := q1
  cases r1
  obtain ⟨o, es, ep, t, ho, hex, hd, _, _, _, hf, hn⟩ := setK_get I1 hq
  have hb : scanBound < 2 ^ 62 := by unfold scanBound; omega
  refine call_len_set ho hex hd hf (by rw [hn]; omega) ⟨.int n, H1, I1.tok _, ⟨_, by rw [hn]⟩, q1⟩
end
section
variable {K : PySem.W.Frag} {M M1 : Mem} {H H1 : Hp} {p : Addr} {P : Program} {w : World} {S S' : Key → Bool} {n n' : Nat}
theorem ext_outS (h : H p = some (SetK P w p S n)) : Ext K H (upd H p (SetK P w p S' n')) := by
  have ne : ∀ {a : Addr} {u : HO}, H a = some u → u ≠ SetK P w p S n → a ≠ p := fun {a u} q k z => by subst z; rw [h] at q; exact k (Option.some.inj q).symm
  refine ⟨fun a xs e => ?_, fun a xs e => ?_, fun a xs ⟨o, e, hd⟩ => ⟨o, by rw [upd_ne (ne e fun z => by unfold SetK at z; cases z)]; exact e, hd⟩⟩
  · rw [upd_ne (ne e fun z => by unfold SetK at z; cases z)]; exact e
  · rcases e with ⟨o, e⟩ | e
    · exact .inl ⟨o, by rw [upd_ne (ne e fun z => by unfold SetK at z; cases z)]; exact e⟩
    · exact .inr e
theorem mr_outS (m : MRel K M H) (h : H p = some (SetK P w p S n)) (np : M p = none) : MRel K M (upd H p (SetK P w p S' n')) := fun a o e => by
  have : a ≠ p := fun z => by subst z; rw [np] at e; cases e
  exact (m a o e).ext (ext_outS h) (upd_ne this)
end
abbrev DTK := Sl → Mem → (List Key → Mem → Prop) → EX → Prop
def dSc (w : DTI) (gt : DTG) (tt : DTT) (te : DTE) (vs : List Nat) : DTK := fun e M Q E => w e M (fun src M1 => ∃ I : Nat → List Key → Mem → Prop, I 0 [] M1 ∧
  (∀ i d acc M', src.items[i]? = some d → I i acc M' → src.live M' ∧ gt d (wipeS e vs) M' (fun e2 M2 => tt e2 M2 (fun b M3 =>
    if b = true then te e2 M3 (fun y M4 => acc.length < 4000 ∧ ∃ k, keyD y = some k ∧ I (i + 1) (acc ++ [k]) M4) EF else I (i + 1) acc M3) EF) EF) ∧
  ∀ acc M', I src.items.length acc M' → src.live M' ∧ Q acc M') E
/-- how many are unlike -/
def dLenS (t : DTK) : DTE := fun e M Q E => t e M (fun ks M1 => ks.length ≤ 4000 ∧ Q (.int (ddup ks).length) M1) E
theorem setK_snoc (P : Program) (w : World) (p : Addr) (ks : List Key) (k : Key) : SetK P w p (fun j => memB j (ddup ks) || decide (j = k)) (if memB k (ddup ks) = true then (ddup ks).length else (ddup ks).length + 1) = SetK P w p (fun j => memB j (ddup (ks ++ [k]))) (ddup (ks ++ [k])).length := by
  rw [ddup_snoc]
  have e1 : (fun j => memB j (ddup ks) || decide (j = k)) = fun j => memB j (dstep (ddup ks) k) := by
    funext j
    unfold memB
    rw [Bool.eq_iff_iff]
    simp only [Bool.or_eq_true, decide_eq_true_eq, mem_dstep]
  have e2 : (if memB k (ddup ks) = true then (ddup ks).length else (ddup ks).length + 1) = (dstep (ddup ks) k).length := by
    unfold dstep
    by_cases h : k ∈ ddup ks
    · rw [if_pos (memB_iff.mpr h), if_pos h]
    · rw [if_neg (fun e => h (memB_iff.mp e)), if_neg h]; simp
  rw [e1, e2]
section
variable {g : Gd} {elt tg iter : Expr} {ifs : List Expr} {scope : Scope} {own : List (Str × Nat)} {pos : Pos} {w : DTI} {gt : DTG} {tt : DTT} {te : DTE} {ns : List Nat}
theorem sc_low {w' : TI} {g' : TG} {tt' : TT} (ki : ∀ σ H e M R (RV : It → Hp → Prop), SRel g.X.K H e σ → MRel g.X.K M H → Fr g.M0 g.H0 M H → w e M R g.E →
      (∀ J src M1 H1, JRel g.X.K H1 J src → MRel g.X.K M1 H1 → Fr M H M1 H1 → R src M1 → RV J H1) → w' σ H RV)
    (kg : ∀ σ H e M v d Q (QV : L2.St → Hp → Prop), SRel g.X.K H e σ → MRel g.X.K M H → Is g.X.K H d v → gt d e M Q EF →
      (∀ σ' H' e' M', SRel g.X.K H' e' σ' → MRel g.X.K M' H' → Fr M H M' H' → (∀ vs, (∀ i ∈ ns, i ∈ vs) → L2.wipe σ' vs = L2.wipe σ vs) → Q e' M' → QV σ' H') → g' v σ H QV)
    (kt : ∀ σ H e M Q (QV : Bool → Hp → Prop), SRel g.X.K H e σ → MRel g.X.K M H → tt e M Q EF → (∀ b M' H', MRel g.X.K M' H' → Fr M H M' H' → Q b M' → QV b H') → tt' σ H QV)
    (hns : ∀ i ∈ ns, i ∈ own.map (·.2)) {σ : L2.St} {H : Hp} {e : Sl} {M : Mem} {Q : List Key → Mem → Prop} {QV : VK} (sl : SRel g.X.K H e σ) (mr : MRel g.X.K M H) (fr : Fr g.M0 g.H0 M H) (q : dSc w gt tt te (own.map (·.2)) e M Q g.E)
    (k : ∀ a ks M' H', H' a = some (SetK g.X.prog g.X.w a (fun j => memB j (ddup ks)) (ddup ks).length) → M' a = none → H a = none → MRel g.X.K M' H' → Fr M H M' H' → Q ks M' → QV (.ref a) H') : tScK g.X.prog g.X.w w' g' tt' (lowAny g.X.K te) (own.map (·.2)) σ H QV := by
  refine ki σ H e M _ _ sl mr fr q fun J src M1 H1 jr m1 f1 q => ?_
  obtain ⟨I, h0, turn, last⟩ := q
  intro p hp
  have np1 : M1 p = none := m1.none_of hp
  have h0p : H p = none := f1.there p hp
  have fn := fr_new (o := SetK g.X.prog g.X.w p (fun _ => false) 0) m1 hp
  have e0 : SetK g.X.prog g.X.w p (fun _ => false) 0 = SetK g.X.prog g.X.w p (fun j => memB j (ddup [])) (ddup ([] : List Key)).length := rfl
  refine ⟨fun i n H' => i + n = src.items.length ∧ ∃ ks M', H' p = some (SetK g.X.prog g.X.w p (fun j => memB j (ddup ks)) (ddup ks).length) ∧ M' p = none ∧ MRel g.X.K M' H' ∧ Fr M1 H1 M' H' ∧ I i ks M',
    ⟨src.items.length, by omega, [], M1, by rw [upd_same, e0], np1, mr_new m1 hp, fn, h0⟩, fun i n H' hw => ?_⟩
  obtain ⟨hn, ks, M', hp', np, m', f', hw⟩ := hw
  cases n with
  | zero =>
    obtain rfl : i = src.items.length := by omega
    obtain ⟨lv, q⟩ := last ks M' hw
    exact .inl ⟨(jr _ M' H' m' (f'.ext m1) lv).2 (Nat.le_refl _), k p ks M' H' hp' np h0p m' (f1.trans f') q⟩
  | succ n =>
    have hi : i < src.items.length := by omega
    have hd := List.getElem?_eq_getElem hi
    obtain ⟨lv, q⟩ := turn i _ ks M' hd hw
    obtain ⟨go, yl⟩ := (jr i M' H' m' (f'.ext m1) lv).1 _ hd
    refine .inr ⟨go, fun H2 => ∃ ks M', H2 p = some (SetK g.X.prog g.X.w p (fun j => memB j (ddup ks)) (ddup ks).length) ∧ M' p = none ∧ MRel g.X.K M' H2 ∧ Fr M1 H1 M' H2 ∧ I (i + 1) ks M', fun H2 z => ⟨n, by omega, by omega, z⟩, fun x H2 y => ?_⟩
    obtain ⟨ix, m2, f2⟩ := yl x H2 y
    refine kg (wipe σ (own.map (·.2))) H2 (wipeS e (own.map (·.2))) M' x _ _ _ ((sl.ext ((f1.trans (f'.trans f2)).ext mr)).wipe _) m2 ix q fun σ3 H3 e3 M3 sl3 m3 f3 hwp q => ?_
    refine ⟨(hwp _ hns).trans (wipe_wipe σ _), ?_⟩
    refine kt σ3 H3 e3 M3 _ _ sl3 m3 q fun b M4 H4 m4 f4 q => ?_
    have f24 := f2.trans (f3.trans f4)
    cases b with
    | false =>
      obtain ⟨p4, np4⟩ := f24.keep p _ hp' np
      exact ⟨ks, M4, p4, np4, m4, f'.trans f24, q⟩
    | true =>
      refine lowAny_start (sl3.ext (f4.ext m3)) m4 q fun y dy M5 H5 i5 m5 f5 q => ?_
      have f25 := f24.trans f5
      obtain ⟨p5, np5⟩ := f25.keep p _ hp' np
      obtain ⟨hz, kk, hk, q⟩ := q
      have ey := keyD_is i5 hk
      have hle := ddup_le ks
      have hb : 4000 + 1 < scanBound := by unfold scanBound; omega
      refine ⟨kk, _, _, ey, p5, by omega, ks ++ [kk], M5, ?_, np5, mr_outS m5 p5 np5, fr_out (f'.trans f25) hp, q⟩
      rw [upd_same, setK_snoc]
theorem de_lenS {p pos2 : Pos} (hc : g.X.calm = true) (hN : g.X.N.Nodup) (hl : Gl g.X "len") (hm : g.X.mg "len" = none) (hi : DI g tg iter w) (ok : BlkOk g.X.N g.X.env.scope scope own) (hg : BlkG g scope tg gt ns) (ht : BlkT g scope ifs tt) (he : BlkE g scope elt te) (hns : ∀ i ∈ ns, i ∈ own.map (·.2))
    (hs : ∀ x, foldedSetIterable iter g.X.env x = pure x) : DE g (.Call (.Name "len" p) [.SetComp elt [⟨tg, iter, ifs, 0⟩] scope pos] [] pos2) (dLenS (dSc w gt tt te (own.map (·.2)))) := by
  obtain ⟨w', pi, ki⟩ := hi.pi
  obtain ⟨g', pg, kg⟩ := hg
  obtain ⟨t', pt, kt⟩ := ht
  refine DE.of (pe_lenS hl hm (pe_scK hc hN pi ok pg pt he.pe hs) rfl) fun σ H e M Q sl mr fr q => ?_
  refine sc_low ki kg kt hns sl mr fr q fun a ks M' H' h n n0 m f q => ?_
  have hle := ddup_le ks
  have hb : 4000 + 1 < scanBound := by unfold scanBound; omega
  exact ⟨a, _, _, rfl, h, by omega, lowQ.mk ii_int m f q.2⟩
end
end DL

/-! Targets that are tuples of places. -/
namespace DL
open PySem PySem.Spec PyProof.Rows L2
def dgTup2 (u : DTGs) : DTG := fun d e M Q E => match d with
  | .tup ds => ds.length = 2 ∧ u ds e M Q E
  | .tx ds => ds.length = 2 ∧ u ds e M Q E
  | .rl ds => ds.length = 2 ∧ u ds e M Q E
  | _ => False
theorem dg_tup2 {g : Gd} {xs : List Expr} {pos : Pos} {u : DTGs} {ns : List Nat} {k : Nat} (hc : g.X.calm = true) (h : DGs g xs u ns) (h2 : xs.length = 2) (hst : xs.all (fun x => !isStar x) = true) : DG g (.Tuple xs k pos) (dgTup2 u) ns := by
  obtain ⟨u', p, k2⟩ := h.pg
  refine ⟨⟨_, pg_tupQ (n := xs.length) hc p dgs_len (dgs_nostar hst), fun σ H e M v d Q QV sl mr fr i q kk => ?_⟩⟩
  cases d with
  | tup ds =>
    rw [is_tup] at i
    obtain ⟨a, vs, rfl, h1, l⟩ := i
    exact ⟨a, vs, rfl, .inl (SqT.of h1), by rw [l.length, h2]; exact q.1, k2 σ H e M vs ds Q QV sl mr fr l q.2 kk⟩
  | tx ds =>
    rw [is_tx] at i
    obtain ⟨a, vs, rfl, h1, l⟩ := i
    exact ⟨a, vs, rfl, .inl h1.sq, by rw [l.length, h2]; exact q.1, k2 σ H e M vs ds Q QV sl mr fr l q.2 kk⟩
  | rl ds =>
    rw [is_rl] at i
    obtain ⟨a, vs, rfl, h1, l⟩ := i
    exact ⟨a, vs, rfl, .inr h1.sq, by rw [l.length, h2]; exact q.1, k2 σ H e M vs ds Q QV sl mr fr l q.2 kk⟩
  | _ => exact q.elim
theorem filter_less {α β : Type} {f : α → Option β} : ∀ {l : List α}, (∃ x ∈ l, f x = none) → (l.filterMap f).length < l.length
  | [], h => by obtain ⟨x, hx, _⟩ := h; cases hx
  | a :: l, h => by
    have le : (l.filterMap f).length ≤ l.length := List.length_filterMap_le f l
    obtain ⟨x, hx, e⟩ := h
    rw [List.filterMap_cons]
    rcases List.mem_cons.mp hx with rfl | hx
    · rw [e]; simp only [List.length_cons]; omega
    · have ih := filter_less ⟨x, hx, e⟩
      cases f a with
      | none => simp only [List.length_cons]; omega
      | some b => simp only [List.length_cons]; omega
/-- two places are stored one behind the other -/
theorem stores_sub {x y x2 y2 z : Expr} {p p2 pos : Pos} {n : Nat} {env : PySem.Env} : swappedStores [.Tuple [.Subscript x y p, .Subscript x2 y2 p2] n pos] z env = pure none := by
  unfold swappedStores
  cases z with
  | Tuple vs _ _ =>
    simp only [List.length_cons, List.length_nil, List.filterMap_cons, List.filterMap_nil]
    split
    · rfl
    · split
      · rfl
      · rfl
  | _ => rfl
theorem stores_long {a b c d : Expr} {r : List Expr} {z : Expr} {pos : Pos} {n : Nat} {env : PySem.Env} : swappedStores [.Tuple (a :: b :: c :: d :: r) n pos] z env = pure none := by
  unfold swappedStores
  cases z with
  | Tuple vs _ _ =>
    simp only [List.length_cons]
    split
    · rfl
    · rename_i h
      exfalso
      apply h
      have : ¬ (r.length + 1 + 1 + 1 + 1 = 2) := by omega
      have : ¬ (r.length + 1 + 1 + 1 + 1 = 3) := by omega
      simp_all
  | _ => rfl
end DL

/-! A small syntax, and what it reads. -/
namespace DL
open PySem PySem.Spec PyProof.Rows L2
inductive CD where
  | non | bl (b : Bool) | int (i : Int) | str (s : Str)
  deriving DecidableEq
def CD.d : CD → D
  | .non => .non
  | .bl b => .bl b
  | .int i => .int i
  | .str s => .str s
/-- built-in functions -/
inductive BF where
  | abs | len | min | max | all | any | sum | sorted | repr | isi
  deriving DecidableEq
/-- built-in types that are called -/
inductive BT where
  | int | tuple | list | dict
  deriving DecidableEq
/-- built-in methods -/
inductive BM where
  | join | upper | append | extend | pop | get | setd
  deriving DecidableEq
def BF.nm : BF → String
  | .abs => "abs" | .len => "len" | .min => "min" | .max => "max" | .all => "all" | .any => "any" | .sum => "sum" | .sorted => "sorted" | .repr => "repr" | .isi => "isinstance"
def BF.rd : BF → RnD
  | .abs => rAbs | .len => rLenD | .min => rMin2 | .max => rMax2 | .all => rBools fun bs => bs.all id | .any => rBools fun bs => bs.any id | .sum => rSumD | .sorted => rSortedD | .repr => rRepr | .isi => rIsiD
def BF.rt : BF → RtD
  | .len => tLen | .all => tBools fun bs => bs.all id | .any => tBools fun bs => bs.any id | .sum => tSum | _ => fun _ _ _ => False
def BT.nm : BT → String
  | .int => "int" | .tuple => "tuple" | .list => "list" | .dict => "dict"
def BT.rd : BT → RnD
  | .int => rInt | .tuple => rTuple | .list => rList | .dict => rDict
def BT.rt : BT → RtD
  | .tuple => tTuple | _ => fun _ _ _ => False
def BM.nm : BM → String
  | .join => "join" | .upper => "upper" | .append => "append" | .extend => "extend" | .pop => "pop" | .get => "get" | .setd => "setdefault"
def BM.ty : BM → String
  | .join => "str" | .upper => "str" | .get => "dict" | .setd => "dict" | _ => "list"
def BM.id : BM → String
  | .join => "str.join" | .upper => "str.upper" | .append => "list.append" | .extend => "list.extend" | .pop => "list.pop" | .get => "dict.get" | .setd => "dict.setdefault"
def BM.rd : BM → RmD
  | .join => mJoin | .upper => mUpper | .append => mAppend | .extend => mExtend | .pop => mPop | .get => mGet | .setd => mSetd
/-- a text, so often -/
def dMulS : R2D := fun x y M Q => match x, y with | .str s, .int n => MulOk s n ∧ Q (.str (Txt.mul s n)) M | _, _ => False
theorem opd_mulS {X : Cx} : OpD X (binaryOp .Mult) dMulS := by
  refine ⟨fun x y H Q => ∃ s n, x = .str s ∧ y = .int n ∧ MulOk s n ∧ Q (.str (Txt.mul s n)) H, ?_, fun M H Mo Ho x y a b Q QV m f i j fin q => ?_⟩
  · intro pins s σ H x y v u Q I rx ry h
    obtain ⟨i, j, rfl, rfl, hz, q⟩ := h
    obtain ⟨t, rfl⟩ := rx
    obtain ⟨t', rfl⟩ := ry
    exact PySem.SB.mul hz fun t' k => ⟨.str (Txt.mul i j), H, I.tok _, ⟨_, rfl⟩, q⟩
  · cases a with
    | str k => cases b with
      | int l =>
        rw [is_str] at i
        rw [is_int] at j
        exact ⟨k, l, i, j, q.1, fin _ _ _ _ ii_str m f q.2⟩
      | _ => exact q.elim
    | _ => exact q.elim
def dMulA : R2D := fun x y M Q => match x with
  | .ref _ => dMulL x y M Q
  | .str _ => dMulS x y M Q
  | _ => dMulI x y M Q
/-- a power of at most 2 ^ 27 bits -/
def CPowG (i j : Int) : Prop := 0 ≤ j ∧ ((i.natAbs.log2 + 1 : Nat) : Int) * j ≤ 2 ^ 27
theorem op_powG {X : Cx} : OpR X (binaryOp .Pow) (rI CPowG fun i j => .int (i ^ j.toNat)) := opI fun i j _ _ _ _ _ hc q => by
  refine pow_int hc.1 (Int.le_trans (Int.mul_le_mul_of_nonneg_right ?_ hc.1) hc.2) q
  have : Builtin.Int.intBits i ≤ i.natAbs.log2 + 1 := by
    unfold Builtin.Int.intBits
    split <;> omega
  exact Int.ofNat_le.mpr this
def boR : Operator → R2D
  | .Add => dAdd
  | .Sub => dSub
  | .Mult => dMulA
  | .FloorDiv => dFdiv
  | .Mod => dMod
  | .Pow => dI CPowG fun i j => .int (i ^ j.toNat)
  | _ => fun _ _ _ _ => False
def coR : CmpOp → R2D
  | .Eq => dEq
  | .NotEq => dNe
  | .Lt => dLt
  | .LtE => dIB fun i j => decide (i ≤ j)
  | .Gt => dIB fun i j => decide (j < i)
  | .GtE => dIB fun i j => decide (j ≤ i)
  | .Is => dIs false
  | .IsNot => dIs true
  | .In => dIn false
  | .NotIn => dIn true
mutual
inductive IG where
  | nm (i : Nat)
  | tp (gs : IGs)
  | st (i j : Nat)
inductive IGs where
  | nil
  | cons (g : IG) (r : IGs)
end
mutual
def IG.slots : IG → List Nat
  | .nm i => [i]
  | .tp gs => IGs.slots gs
  | .st i j => [i, j]
def IGs.slots : IGs → List Nat
  | .nil => []
  | .cons g r => IG.slots g ++ IGs.slots r
end
mutual
def wG : IG → DTG
  | .nm i => dgName i
  | .tp gs => dgTup (wGs gs)
  | .st i j => dgStar i j
def wGs : IGs → DTGs
  | .nil => dgNil
  | .cons g r => dgCons (wG g) (wGs r)
end
mutual
inductive IE where
  | sl (i : Nat)
  | lit (c : CD)
  | gc (c : CD)
  | gty (T : BTy)
  | tup (es : IEs)
  | lst (es : IEs)
  | bin (o : Operator) (a b : IE)
  | neg (a : IE)
  | cmp (o : CmpOp) (a b : IE)
  | chain (o o' : CmpOp) (a b c : IE)
  | andE (a b : IE)
  | orE (a b : IE)
  | one (a : IE)
  | nt (a : IE)
  | ife (c a b : IE)
  | ix (a i : IE)
  | sli (a : IE) (lo hi : IO)
  | cb (f : BF) (a : IE) (es : IEs)
  | ct (f : BT) (a : IE) (es : IEs)
  | tb (f : BF) (l : IE)
  | tt (f : BT) (l : IE)
  | cal (f : Nat) (es ks : IEs)
  | mth (f ci : Nat) (m : Str) (o : IE) (es ks : IEs)
  | fld (ci : Nat) (f : Str) (o : IE)
  | fz (a : IE)
  | lcF (l : IE)
  | bad
  | slst (a : IE) (lo hi st : IO)
  | revX (a : IE) (lo hi st : IO)
  | lenK (a : IE)
  | dc (own : List (Str × Nat)) (g : IG) (it : II) (cs : IO) (k e : IE)
  | newK
  | newT
  | ttX (l : IE)
  | ctX (a : IE)
  | ctK (a : IE)
  | tupX (es : IEs)
  | catX (a b : IE)
  | itX (o : IE)
  | lz (a b : IE)
  | dc2 (own : List (Str × Nat)) (vs1 : List Nat) (g : IG) (it : II) (cs : IO) (g1 : IG) (it1 : II) (cs1 : IO) (k e : IE)
  | lenS (own : List (Str × Nat)) (g : IG) (it : II) (cs : IO) (e : IE)
  | mt (m : BM) (o : IE) (a : IE) (es : IEs)
  | mt0 (m : BM) (o : IE)
  | lc (own : List (Str × Nat)) (g : IG) (it : II) (cs : IO) (e : IE)
  | lc2 (own : List (Str × Nat)) (vs1 : List Nat) (g : IG) (it : II) (cs : IO) (g1 : IG) (it1 : II) (cs1 : IO) (e : IE)
inductive IEs where
  | nil
  | cons (a : IE) (r : IEs)
inductive IO where
  | no
  | yes (a : IE)
inductive II where
  | any (a : IE)
  | rg1 (a : IE)
  | rg2 (a b : IE)
  | en (a : IE)
  | zp (a b : IE)
/-- a type as a value -/
inductive BTy where
  | str | int | tuple | bool | list | dict
end
def BTy.nm : BTy → String
  | .str => "str" | .int => "int" | .tuple => "tuple" | .bool => "bool" | .list => "list" | .dict => "dict"
def IEs.len : IEs → Nat
  | .nil => 0
  | .cons _ r => r.len + 1
/-- what calls keep, which classes stand where -/
structure Tb where
  g : Nat → DSp := fun _ _ _ _ _ => False
  m : Nat → DSp := fun _ _ _ _ _ => False
  c : Nat → Addr := fun _ => 0
section
variable (S : Tb)
mutual
/-- the value; the test; a new list -/
def wE : IE → DTE
  | .sl i => dSlot i
  | .lit c => dC c.d
  | .gc c => dC c.d
  | .gty T => dC (.ty T.nm)
  | .tup es => dTup (wEs es)
  | .lst es => dLst (wEs es)
  | .bin o a b => dBin (boR o) (wE a) (wE b)
  | .neg a => dNeg (wE a)
  | .cmp o a b => dBin (coR o) (wE a) (wE b)
  | .chain o o' a b c => dChain (coR o) (coR o') (wE a) (wE b) (wE c)
  | .andE a b => dAnd (wE a) (wE b)
  | .orE a b => dOr (wE a) (wE b)
  | .one a => wE a
  | .nt a => dNot (wE a)
  | .ife c a b => dIfE (wT c) (wE a) (wE b)
  | .ix a i => dBin dIx (wE a) (wE i)
  | .sli a lo hi => dSlice (wE a) (wO lo) (wO hi)
  | .cb f a es => dCall f.rd (dCons (wE a) (wEs es))
  | .ct f a es => dCall f.rd (dCons (wE a) (wEs es))
  | .tb f l => dTmp f.rt (wL l)
  | .tt f l => dTmp f.rt (wL l)
  | .cal f es ks => dFnN (S.g f) es.len ks.len (wEs es) (wEs ks)
  | .mth f ci m o es ks => dMth (S.c ci) m (S.m f) es.len ks.len (wE o) (wEs es) (wEs ks)
  | .fld ci f o => dFld (S.c ci) f (wE o)
  | .fz a => dFz (wE a)
  | .lcF l => dLcF (wL l)
  | .bad => dBadE
  | .slst a lo hi st => dSliS (wE a) (wO lo) (wO hi) (wO st)
  | .revX a lo hi st => dRevX (wE a) (wO lo) (wO hi) (wO st)
  | .lenK a => dLenK (wE a)
  | .dc own g it cs k e => dNewD (dDc (wI it) (wG g) (wC cs) (wE k) (wE e) (own.map (·.2)))
  | .newK => dNewK
  | .newT => dNewT
  | .ttX l => dTmp tTupleX (wL l)
  | .ctX a => dCall rTupleX (dCons (wE a) dNil)
  | .ctK a => dCall rTupleK (dCons (wE a) dNil)
  | .tupX es => dTupX (wEs es)
  | .catX a b => dBin dAddX (wE a) (wE b)
  | .itX o => dItX (wE o)
  | .lz a b => dLz (dCons (wE a) (dCons (wE b) dNil))
  | .dc2 own vs1 g it cs g1 it1 cs1 k e => dNewD (dDc2 (wI it) (wG g) (wC cs) (wI it1) (wG g1) (wC cs1) (wE k) (wE e) (own.map (·.2)) vs1)
  | .lenS own g it cs e => dLenS (dSc (wI it) (wG g) (wC cs) (wE e) (own.map (·.2)))
  | .mt m o a es => dMt m.ty m.rd (wE o) (dCons (wE a) (wEs es))
  | .mt0 m o => dMt m.ty m.rd (wE o) dNil
  | .lc own g it cs e => dNew (dLc (wI it) (wG g) (wC cs) (wE e) (own.map (·.2)))
  | .lc2 own vs1 g it cs g1 it1 cs1 e => dNew (dLc2 (wI it) (wG g) (wC cs) (wI it1) (wG g1) (wC cs1) (wE e) (own.map (·.2)) vs1)
def wT : IE → DTT
  | .cmp o a b => dTest (dBin (coR o) (wE a) (wE b))
  | .chain o o' a b c => dTest (dChain (coR o) (coR o') (wE a) (wE b) (wE c))
  | .andE a b => dAndT (wT a) (wT b)
  | .orE a b => dOrT (wT a) (wT b)
  | .one a => wT a
  | .nt a => dNotT (wT a)
  | .sl i => dTruth (dSlot i)
  | .lit c => dTruth (dC c.d)
  | .gc c => dTruth (dC c.d)
  | .ix a i => dTruth (dBin dIx (wE a) (wE i))
  | .sli a lo hi => dTruth (dSlice (wE a) (wO lo) (wO hi))
  | .cb f a es => dTruth (dCall f.rd (dCons (wE a) (wEs es)))
  | .ct f a es => dTruth (dCall f.rd (dCons (wE a) (wEs es)))
  | .tb f l => dTruth (dTmp f.rt (wL l))
  | .tt f l => dTruth (dTmp f.rt (wL l))
  | .cal f es ks => dTruth (dFnN (S.g f) es.len ks.len (wEs es) (wEs ks))
  | .mth f ci m o es ks => dTruth (dMth (S.c ci) m (S.m f) es.len ks.len (wE o) (wEs es) (wEs ks))
  | .fld ci f o => dTruth (dFld (S.c ci) f (wE o))
  | .lenK a => dTruth (dLenK (wE a))
  | .mt m o a es => dTruth (dMt m.ty m.rd (wE o) (dCons (wE a) (wEs es)))
  | .mt0 m o => dTruth (dMt m.ty m.rd (wE o) dNil)
  | _ => fun _ _ _ _ => False
def wL : IE → DTA
  | .lc own g it cs e => dLc (wI it) (wG g) (wC cs) (wE e) (own.map (·.2))
  | .lc2 own vs1 g it cs g1 it1 cs1 e => dLc2 (wI it) (wG g) (wC cs) (wI it1) (wG g1) (wC cs1) (wE e) (own.map (·.2)) vs1
  | _ => fun _ _ _ _ => False
def wEs : IEs → DTA
  | .nil => dNil
  | .cons a r => dCons (wE a) (wEs r)
def wO : IO → DTO
  | .no => dNoPart
  | .yes a => dPart (wE a)
def wC : IO → DTT
  | .no => dYes
  | .yes a => wT a
def wI : II → DTI
  | .any a => diAny (wE a)
  | .rg1 a => diRng1 (dCons (wE a) dNil)
  | .rg2 a b => diRng2 (dCons (wE a) (dCons (wE b) dNil))
  | .en a => diEnum (dCons (wE a) dNil)
  | .zp a b => diZip (dCons (wE a) (dCons (wE b) dNil))
end
mutual
inductive IS where
  | ex (a : IE)
  | asg (g : IG) (a : IE)
  | aug (add : Bool) (i : Nat) (a : IE)
  | sto (o i a : IE)
  | sto2 (o i o2 i2 a : IE)
  | hed (o c a : IE)
  | sfl (ci : Nat) (f : Str) (o a : IE)
  | bad
  | par (i j : Nat) (a b : IE)
  | ret (a : IE)
  | retN
  | iff (c : IE) (a b : ISs)
  | fo (g : IG) (it : II) (b : ISs)
  | wh (c : IE) (b : ISs)
  | pas | brk | cnt
inductive ISs where
  | nil
  | cons (s : IS) (r : ISs)
  | frz (i : Nat) (r : ISs)
  | fgt (r : ISs)
end
mutual
def wS : IS → DTS
  | .ex a => dDrop (wE S a)
  | .asg g a => dAsg (wE S a) (wG g)
  | .aug add i a => dAug add i (wE S a)
  | .sto o i a => dAsg (wE S a) (dgSub (wE S o) (wE S i))
  | .sto2 o i o2 i2 a => dAsg (wE S a) (dgTup2 (dgCons (dgSub (wE S o) (wE S i)) (dgCons (dgSub (wE S o2) (wE S i2)) dgNil)))
  | .hed o c a => dAsg (wE S a) (dgHead (wE S o) (dPart (wE S c)))
  | .sfl ci f o a => dSfl (S.c ci) f (wE S o) (wE S a)
  | .bad => dBadS
  | .par i j a b => dPar i j (wE S a) (wE S b)
  | .ret a => dRet (wE S a)
  | .retN => dRetN
  | .iff c a b => dIf (wT S c) (wSs a) (wSs b)
  | .fo g it b => dFor (wI S it) (wG g) (wSs b)
  | .wh c b => dWhile (wT S c) (wSs b)
  | .pas => dNext
  | .brk => fun D _ e M => D.bk e M
  | .cnt => fun D _ e M => D.ct e M
def wSs : ISs → DTS
  | .nil => dNext
  | .cons s r => dSeq (wS s) (wSs r)
  | .frz i r => dFrz i (wSs r)
  | .fgt r => dForget (wSs r)
end
end
end DL

/-! The look at a def's syntax. -/
namespace DL
open PySem PySem.Spec PyProof.Rows L2
structure Cc where
  sc : Scope
  N : List Str
  cals : List (Str × Nat × List Str)
  mths : List (Nat × Str × Nat × List Str)
  flds : List (Nat × Str)
  cs : List (Str × CD)
  blk : Bool
def Cc.into (c : Cc) (scope : Scope) : Cc := { c with sc := relS scope c.sc, blk := true }
def Cc.kd (c : Cc) (n : Str) : Option NameKind := c.sc.names.lookup n
def visB : Option NameKind → Bool
  | some .local => true
  | some .cell => true
  | some .free => true
  | _ => false
def glB : Option NameKind → Bool
  | some .globalImplicit => true
  | _ => false
def slotB (c : Cc) (i : Nat) (n : Str) : Bool := decide (c.N[i]? = some n)
def okName (n : Str) : Bool := !(n == ("__debug__" : Str)) && !(n == ("__classdict__" : Str)) && !(n == ("__name__" : Str))
def litB : CD → Const → Bool
  | .non, .none => true
  | .bl b, .bool b' => b == b'
  | .int i, .int j => decide (i = j)
  | .str s, .str t => decide (s = t)
  | _, _ => false
def isLc : IE → Bool
  | .lc .. => true
  | .lc2 .. => true
  | _ => false
def isAny : II → Bool
  | .any _ => true
  | _ => false
mutual
def chkG : IG → Cc → Expr → Bool
  | .nm i, c, e => match e with
    | .Name n _ => slotB c i n && (match c.kd n with | some .local => true | some .cell => !c.blk | _ => false)
    | _ => false
  | .tp gs, c, e => match e with
    | .Tuple xs _ _ => chkGs gs c xs
    | _ => false
  | .st i j, c, e => match e with
    | .Tuple [.Name n _, .Starred (.Name m _) _] _ _ => (slotB c i n && (match c.kd n with | some .local => true | some .cell => !c.blk | _ => false)) && (slotB c j m && (match c.kd m with | some .local => true | some .cell => !c.blk | _ => false))
    | _ => false
def chkGs : IGs → Cc → List Expr → Bool
  | .nil, _, xs => match xs with | [] => true | _ => false
  | .cons g r, c, xs => match xs with
    | x :: ys => !isStar x && (chkG g c x && chkGs r c ys)
    | _ => false
end
mutual
def chkE : IE → Cc → Bool → Expr → Bool
  | .sl i, c, m, e => match e with
    | .Name n _ => slotB c i n && visB (c.kd n)
    | _ => false
  | .lit d, c, m, e => match e with
    | .Constant k _ _ => litB d k
    | _ => false
  | .gc d, c, m, e => match e with
    | .Name n _ => glB (c.kd n) && decide (c.cs.lookup n = some d)
    | _ => false
  | .gty T, c, m, e => match e with
    | .Name n _ => !m && (glB (c.kd n) && decide (n = (T.nm : Str)))
    | _ => false
  | .tup es, c, m, e => match e with
    | .Tuple xs _ _ => !m && chkEs es c xs
    | _ => false
  | .lst es, c, m, e => match e with
    | .List xs _ => !m && chkEs es c xs
    | _ => false
  | .bin o a b, c, m, e => match e with
    | .BinOp x op y _ => !m && (decide (op = o) && (chkE a c false x && chkE b c false y))
    | _ => false
  | .neg a, c, m, e => match e with
    | .UnaryOp .USub x _ => !m && chkE a c false x
    | _ => false
  | .cmp o a b, c, m, e => match e with
    | .Compare x [op] [y] _ => decide (op = o) && (!isSetD y && (chkE a c false x && chkE b c false y))
    | _ => false
  | .chain o o' a b d, c, m, e => match e with
    | .Compare x [op, op'] [y, z] _ => decide (op = o) && (decide (op' = o') && (!isSetD z && (chkE a c false x && (chkE b c false y && chkE d c false z))))
    | _ => false
  | .andE a b, c, m, e => match e with
    | .BoolOp .And (x :: y :: r) p => chkE a c m x && chkE b c m (.BoolOp .And (y :: r) p)
    | _ => false
  | .orE a b, c, m, e => match e with
    | .BoolOp .Or (x :: y :: r) p => chkE a c m x && chkE b c m (.BoolOp .Or (y :: r) p)
    | _ => false
  | .one a, c, m, e => match e with
    | .BoolOp _ [x] _ => chkE a c m x
    | _ => false
  | .nt a, c, m, e => match e with
    | .UnaryOp .Not x _ => chkE a c m x
    | _ => false
  | .ife t a b, c, m, e => match e with
    | .IfExp w x y _ => !m && (chkE t c true w && (chkE a c false x && chkE b c false y))
    | _ => false
  | .ix a i, c, m, e => match e with
    | .Subscript x y _ => !isSlice y && (chkE a c false x && chkE i c false y)
    | _ => false
  | .sli a lo hi, c, m, e => match e with
    | .Subscript x (.Slice l h none _) _ => chkE a c false x && (chkO lo c l && chkO hi c h)
    | _ => false
  | .cb f a es, c, m, e => match e with
    | .Call (.Name n _) (x :: xs) [] _ => glB (c.kd n) && (decide (n = (f.nm : Str)) && (!isStar x && (chkE a c false x && chkEs es c xs)))
    | _ => false
  | .ct f a es, c, m, e => match e with
    | .Call (.Name n _) (x :: xs) [] _ => glB (c.kd n) && (decide (n = (f.nm : Str)) && (!isStar x && (chkE a c false x && chkEs es c xs)))
    | _ => false
  | .tb f l, c, m, e => match e with
    | .Call (.Name n _) [x] [] _ => glB (c.kd n) && (decide (n = (f.nm : Str)) && (!isStar x && (chkE l c false x && isLc l)))
    | _ => false
  | .tt f l, c, m, e => match e with
    | .Call (.Name n _) [x] [] _ => glB (c.kd n) && (decide (n = (f.nm : Str)) && (!isStar x && (chkE l c false x && isLc l)))
    | _ => false
  | .cal f es ks, c, m, e => match e with
    | .Call (.Name n _) xs kws _ => glB (c.kd n) && (decide (c.cals[f]? = some (n, xs.length, kws.filterMap (·.arg))) && ((match xs with | x :: _ => !isStar x | [] => true) && (chkEs es c xs && chkKs ks c kws)))
    | _ => false
  | .mth f ci mm o es ks, c, m, e => match e with
    | .Call (.Attribute x n q) xs kws p => decide (n = mm) && (noSup x && ((q.endLine == p.line) && (decide (xs.length + kws.length + 1 < 30) && (decide (c.mths[f]? = some (ci, mm, xs.length, kws.filterMap (·.arg))) && ((match xs with | x :: _ => !isStar x | [] => true) && (chkE o c false x && (chkEs es c xs && chkKs ks c kws)))))))
    | _ => false
  | .fld ci f o, c, m, e => match e with
    | .Attribute x n _ => decide (n = f) && (noSup x && (c.flds.contains (ci, f) && chkE o c false x))
    | _ => false
  | .fz a, c, m, e => !m && (notComp e && chkE a c false e)
  | .lcF l, c, m, e => !m && (isLc l && chkE l c false e)
  | .bad, _, m, _ => !m
  | .slst a lo hi st, c, m, e => match e with
    | .Subscript x (.Slice l h (some s) _) _ => !m && (chkE a c false x && (chkO lo c l && (chkO hi c h && chkO st c (some s))))
    | _ => false
  | .revX a lo hi st, c, m, e => match e with
    | .Subscript x (.Slice l h (some s) _) _ => !m && (chkE a c false x && (chkO lo c l && (chkO hi c h && chkO st c (some s))))
    | _ => false
  | .lenK a, c, m, e => match e with
    | .Call (.Name n _) [.Call (.Name n2 _) [x] [] _] [] _ => glB (c.kd n) && (glB (c.kd n2) && (decide (n = ("len" : Str)) && (decide (n2 = ("set" : Str)) && (!isStar x && chkE a c false x))))
    | _ => false
  | .dc own g it cs k a, c, m, e => match e with
    | .DictComp kx vx [⟨tg, iter, ifs, as⟩] scope _ => !m && (decide (as = 0) && (blkC c.N c.sc scope own && (decide (∀ i ∈ IG.slots g, i ∈ own.map (·.2)) && (!isSetD iter && (chkI it c tg iter && (chkG g (c.into scope) tg && (chkC cs (c.into scope) ifs && (chkE k (c.into scope) false kx && chkE a (c.into scope) false vx))))))))
    | _ => false
  | .newK, _, m, e => match e with | .Dict [] [] _ => !m | _ => false
  | .newT, _, m, e => match e with | .Dict [] [] _ => !m | _ => false
  | .ttX l, c, m, e => match e with
    | .Call (.Name n _) [x] [] _ => !m && (glB (c.kd n) && (decide (n = ("tuple" : Str)) && (!isStar x && (chkE l c false x && isLc l))))
    | _ => false
  | .ctX a, c, m, e => match e with
    | .Call (.Name n _) [x] [] _ => !m && (glB (c.kd n) && (decide (n = ("tuple" : Str)) && (!isStar x && chkE a c false x)))
    | _ => false
  | .ctK a, c, m, e => match e with
    | .Call (.Name n _) [x] [] _ => !m && (glB (c.kd n) && (decide (n = ("tuple" : Str)) && (!isStar x && chkE a c false x)))
    | _ => false
  | .tupX es, c, m, e => match e with
    | .Tuple xs _ _ => !m && chkEs es c xs
    | _ => false
  | .catX a b, c, m, e => match e with
    | .BinOp x .Add y _ => !m && (chkE a c false x && chkE b c false y)
    | _ => false
  | .itX o, c, m, e => match e with
    | .Call (.Name n _) [.Call (.Attribute x n2 q) [] [] p] [] _ => !m && (glB (c.kd n) && (decide (n = ("tuple" : Str)) && (decide (n2 = ("items" : Str)) && (noSup x && ((q.endLine == p.line) && chkE o c false x)))))
    | _ => false
  | .lz a b, c, m, e => match e with
    | .Call (.Name n _) [.Call (.Name n2 _) [x, y] [] _] [] _ => !m && (glB (c.kd n) && (decide (n = ("list" : Str)) && (glB (c.kd n2) && (decide (n2 = ("zip" : Str)) && (!isStar x && (!isStar y && (chkE a c false x && chkE b c false y)))))))
    | _ => false
  | .dc2 own vs g it cs g1 it1 cs1 k a, c, m, e => match e with
    | .DictComp kx vx [⟨tg, iter, ifs, as⟩, ⟨tg1, iter1, ifs1, as1⟩] scope _ => !m && (decide (as = 0) && (decide (as1 = 0) && (blkC c.N c.sc scope own && (decide (∀ i ∈ IG.slots g, i ∈ own.map (·.2)) && (decide (∀ i ∈ IG.slots g1, i ∈ vs) && (decide (∀ i ∈ vs, i ∈ own.map (·.2)) && (!isSetD iter && (!isSetD iter1 && (isAny it1 && (chkI it c tg iter && (chkG g (c.into scope) tg && (chkC cs (c.into scope) ifs &&
        (chkI it1 (c.into scope) tg1 iter1 && (chkG g1 (c.into scope) tg1 && (chkC cs1 (c.into scope) ifs1 && (chkE k (c.into scope) false kx && chkE a (c.into scope) false vx))))))))))))))))
    | _ => false
  | .lenS own g it cs a, c, m, e => match e with
    | .Call (.Name n _) [.SetComp el [⟨tg, iter, ifs, as⟩] scope _] [] _ => !m && (glB (c.kd n) && (decide (n = ("len" : Str)) && (decide (as = 0) && (blkC c.N c.sc scope own && (decide (∀ i ∈ IG.slots g, i ∈ own.map (·.2)) && (!isSetD iter && (chkI it c tg iter && (chkG g (c.into scope) tg && (chkC cs (c.into scope) ifs && chkE a (c.into scope) false el)))))))))
    | _ => false
  | .mt k o a es, c, m, e => match e with
    | .Call (.Attribute x n q) (y :: ys) [] p => decide (n = (k.nm : Str)) && (noSup x && ((q.endLine == p.line) && (decide (ys.length < 28) && (!isStar y && (chkE o c false x && (chkE a c false y && chkEs es c ys))))))
    | _ => false
  | .mt0 k o, c, m, e => match e with
    | .Call (.Attribute x n q) [] [] p => decide (n = (k.nm : Str)) && (noSup x && ((q.endLine == p.line) && chkE o c false x))
    | _ => false
  | .lc own g it cs a, c, m, e => match e with
    | .ListComp el [⟨tg, iter, ifs, as⟩] scope _ => !m && (decide (as = 0) && (blkC c.N c.sc scope own && (decide (∀ i ∈ IG.slots g, i ∈ own.map (·.2)) && (!isSetD iter && (chkI it c tg iter && (chkG g (c.into scope) tg && (chkC cs (c.into scope) ifs && chkE a (c.into scope) false el)))))))
    | _ => false
  | .lc2 own vs g it cs g1 it1 cs1 a, c, m, e => match e with
    | .ListComp el [⟨tg, iter, ifs, as⟩, ⟨tg1, iter1, ifs1, as1⟩] scope _ => !m && (decide (as = 0) && (decide (as1 = 0) && (blkC c.N c.sc scope own && (decide (∀ i ∈ IG.slots g, i ∈ own.map (·.2)) && (decide (∀ i ∈ IG.slots g1, i ∈ vs) && (decide (∀ i ∈ vs, i ∈ own.map (·.2)) && (!isSetD iter && (!isSetD iter1 && (isAny it1 && (chkI it c tg iter && (chkG g (c.into scope) tg && (chkC cs (c.into scope) ifs &&
        (chkI it1 (c.into scope) tg1 iter1 && (chkG g1 (c.into scope) tg1 && (chkC cs1 (c.into scope) ifs1 && chkE a (c.into scope) false el)))))))))))))))
    | _ => false
def chkEs : IEs → Cc → List Expr → Bool
  | .nil, _, xs => match xs with | [] => true | _ => false
  | .cons a r, c, xs => match xs with
    | x :: ys => !isStar x && (chkE a c false x && chkEs r c ys)
    | _ => false
def chkKs : IEs → Cc → List Keyword → Bool
  | .nil, _, xs => match xs with | [] => true | _ => false
  | .cons a r, c, xs => match xs with
    | ⟨some _, x, _⟩ :: ys => chkE a c false x && chkKs r c ys
    | _ => false
def chkO : IO → Cc → Option Expr → Bool
  | .no, _, x => match x with | none => true | _ => false
  | .yes a, c, x => match x with | some y => chkE a c false y | _ => false
def chkC : IO → Cc → List Expr → Bool
  | .no, _, x => match x with | [] => true | _ => false
  | .yes a, c, x => match x with | [y] => chkE a c true y | _ => false
def chkI : II → Cc → Expr → Expr → Bool
  | .any a, c, _, x => chkE a c false x
  | .rg1 a, c, _, x => match x with
    | .Call (.Name n _) [y] [] _ => glB (c.kd n) && (decide (n = ("range" : Str)) && (!isStar y && chkE a c false y))
    | _ => false
  | .rg2 a b, c, _, x => match x with
    | .Call (.Name n _) [y, z] [] _ => glB (c.kd n) && (decide (n = ("range" : Str)) && (!isStar y && (!isStar z && (chkE a c false y && chkE b c false z))))
    | _ => false
  | .en a, c, t, x => match t, x with
    | .Tuple .., .Call (.Name n _) [y] [] _ => glB (c.kd n) && (decide (n = ("enumerate" : Str)) && (!isStar y && chkE a c false y))
    | _, _ => false
  | .zp a b, c, t, x => match t, x with
    | .Tuple .., .Call (.Name n _) [y, z] [] _ => glB (c.kd n) && (decide (n = ("zip" : Str)) && (!isStar y && (!isStar z && (chkE a c false y && chkE b c false z))))
    | _, _ => false
end
def locB (k : Option NameKind) : Bool := match k with | some .local => true | _ => false
def noSwap (c : Cc) : Expr → Expr → Bool
  | .Tuple [.Name x _, .Name y _] _ _, v => !(locB (c.kd x) && locB (c.kd y)) || noPair (.Tuple [] 0 ⟨0, 0, 0, 0⟩) v
  | .Tuple (_ :: _ :: _ :: _ :: _) _ _, _ => true
  | t, v => noPair t v
mutual
def chkS : IS → Cc → Stmt → Bool
  | .ex a, c, s => match s with
    | .Expr x _ => notComp x && chkE a c false x
    | _ => false
  | .asg g a, c, s => match s with
    | .Assign [t] x _ => !isStar t && (noSwap c t x && (chkG g c t && (chkE a c false x && (notComp x || (match t, x with
      | .Name y p, .ListComp _ _ sc q => (!(p.line == q.line) || !locB (c.kd y)) || ((match c.kd y with | some .local => true | _ => false) && !(sc.names.any fun (n, k) => n == y && (k == .local || k == .cell)))
      | _, _ => false)))))
    | _ => false
  | .sto o i a, c, s => match s with
    | .Assign [.Subscript x y _] z _ => !isSlice y && (notComp z && (chkE o c false x && (chkE i c false y && chkE a c false z)))
    | _ => false
  | .sto2 o i o2 i2 a, c, s => match s with
    | .Assign [.Tuple [.Subscript x y _, .Subscript x2 y2 _] _ _] z _ => !isSlice y && (!isSlice y2 && (notComp z && (chkE o c false x && (chkE i c false y && (chkE o2 c false x2 && (chkE i2 c false y2 && chkE a c false z))))))
    | _ => false
  | .hed o d a, c, s => match s with
    | .Assign [.Subscript x (.Slice none (some y) none _) _] z _ => notComp z && (chkE o c false x && (chkE d c false y && chkE a c false z))
    | _ => false
  | .aug add i a, c, s => match s with
    | .AugAssign (.Name n _) op x _ => decide (op = if add then .Add else .Sub) && (slotB c i n && ((match c.kd n with | some .local => true | some .cell => !c.blk | _ => false) && chkE a c false x))
    | _ => false
  | .sfl ci f o a, c, s => match s with
    | .Assign [.Attribute x n _] z _ => decide (n = f) && (c.flds.contains (ci, f) && (chkE o c false x && chkE a c false z))
    | _ => false
  | .bad, _, _ => true
  | .par i j a b, c, s => match s with
    | .Assign [.Tuple [.Name x p, .Name y q] _ _] (.Tuple [u, v] _ _) _ => decide (i ≠ j) && (slotB c i x && (slotB c j y && ((match c.kd x, c.kd y with | some .local, some .local => true | _, _ => false) && ((q.line == p.line) && (decide (x ≠ y) && (!isStar u && (!isStar v && (!(foldedForSure 8 u && foldedForSure 8 v) && (!(constantsAlone 8 u && constantsAlone 8 v) && (chkE a c false u && chkE b c false v))))))))))
    | _ => false
  | .ret a, c, s => match s with
    | .Return (some x) _ => chkE a c false x
    | _ => false
  | .retN, _, s => match s with
    | .Return none _ => true
    | _ => false
  | .iff t a b, c, s => match s with
    | .If w x y _ => chkE t c true w && (chkSs a c x && chkSs b c y)
    | _ => false
  | .fo g it b, c, s => match s with
    | .For tg iter x [] _ => !isSetD iter && (chkI it c tg iter && (chkG g c tg && chkSs b c x))
    | _ => false
  | .wh t b, c, s => match s with
    | .While w x [] _ => chkE t c true w && chkSs b c x
    | _ => false
  | .pas, _, s => match s with | .Pass _ => true | _ => false
  | .brk, _, s => match s with | .Break _ => true | _ => false
  | .cnt, _, s => match s with | .Continue _ => true | _ => false
def chkSs : ISs → Cc → List Stmt → Bool
  | .nil, _, xs => match xs with | [] => true | _ => false
  | .cons a r, c, xs => match xs with
    | x :: ys => chkS a c x && chkSs r c ys
    | _ => false
  | .frz _ r, c, xs => chkSs r c xs
  | .fgt r, c, xs => chkSs r c xs
end
theorem swaps_att (x : Expr) {o : Expr} {f : Str} {p2 : Pos} {l : Nat} {env : PySem.Env} : swapsWith x (some (.Attribute o f p2)) l env = pure false := by cases x <;> rfl
end DL

/-! The ground of a look. -/
namespace DL
open PySem PySem.Spec PyProof.Rows L2
def freeNames : List Str := ["abs", "len", "min", "max", "all", "any", "sum", "sorted", "repr", "isinstance", "int", "tuple", "list", "range", "enumerate", "str", "bool", "dict", "set", "zip"]
def CD.v : CD → V
  | .non => .non
  | .bl b => .bl b
  | .int i => .int i
  | .str s => .str s
theorem CD.is (c : CD) (K : PySem.W.Frag) (H : Hp) : Is K H c.d c.v := by
  cases c with
  | non => exact ii_non
  | bl => exact ii_bl
  | int => exact ii_int
  | str => exact ii_str
/-- a global of the table that is called: a def, a class -/
def GlobOk (P : Program) (w : World) (K : PySem.W.Frag) (mg : Str → Option Value) (base : Heap) (k : Nat) (n : Str) (np : Nat) (ks : List Str) (sp : DSp) : Prop :=
  ∃ fv : Value, mg n = some fv ∧ PySem.W.keepIn K fv = true ∧ CallOk P w K mg base k fv np ks sp
/-- a method -/
def MethOk (P : Program) (w : World) (K : PySem.W.Frag) (mg : Str → Option Value) (base : Heap) (k : Nat) (C : Addr) (m : Str) (np : Nat) (ks : List Str) (sp : DSp) : Prop :=
  ∃ f : Addr, Cls K C ∧ Meth K C m f ∧ CallOk P w K mg base k (.ref f) (np + 1) ks sp
structure CtxOk (c : Cc) (S : Tb) (k : Nat) (g : Gd) : Prop where
  sc : g.X.env.scope = c.sc
  N : g.X.N = c.N
  nd : c.N.Nodup
  nn : ∀ n ∈ c.N, okName n = true
  kind : c.sc.kind = .function
  calm : g.X.calm = true
  gok : Gok g k
  fn : c.blk = false → ∀ n, g.X.fn n = true
  free : ∀ n ∈ freeNames, g.X.mg n = none
  cs : ∀ n d, c.cs.lookup n = some d → okName n = true ∧ ∃ u, g.X.mg n = some u ∧ RelV d.v u
  cals : ∀ i n np ks, c.cals[i]? = some (n, np, ks) → okName n = true ∧ GlobOk g.X.prog g.X.w g.X.K g.X.mg g.X.base k n np ks (S.g i)
  mths : ∀ i ci m np ks, c.mths[i]? = some (ci, m, np, ks) → MethOk g.X.prog g.X.w g.X.K g.X.mg g.X.base k (S.c ci) m np ks (S.m i)
  flds : ∀ ci f, (ci, f) ∈ c.flds → Cls g.X.K (S.c ci) ∧ NoAttr g.X.K (S.c ci) f
section
variable {c : Cc} {S : Tb} {k : Nat} {g : Gd}
theorem CtxOk.hu (O : CtxOk c S k g) : g.X.A.units + 70 < cLine := by have := O.gok.room.un; omega
theorem CtxOk.hN (O : CtxOk c S k g) : g.X.N.Nodup := by rw [O.N]; exact O.nd
theorem okName.dbg {n : Str} (h : okName n = true) : (n == ("__debug__" : Str)) = false := by
  unfold okName at h
  simp only [Bool.and_eq_true, Bool.not_eq_true'] at h
  exact h.1.1
theorem okName.cd {n : Str} (h : okName n = true) : (n == ("__classdict__" : Str)) = false := by
  unfold okName at h
  simp only [Bool.and_eq_true, Bool.not_eq_true'] at h
  exact h.1.2
theorem okName.nm {n : Str} (h : okName n = true) : n ≠ "__name__" := by
  unfold okName at h
  simp only [Bool.and_eq_true, Bool.not_eq_true'] at h
  exact fun z => by have := h.2; rw [z] at this; exact nomatch (this.symm.trans (by decide +kernel : (("__name__" : Str) == ("__name__" : Str)) = true))
theorem CtxOk.slot (O : CtxOk c S k g) {i : Nat} {n : Str} (h : slotB c i n = true) : g.X.N[i]? = some n ∧ okName n = true := by
  have := of_decide_eq_true h
  exact ⟨by rw [O.N]; exact this, O.nn n (List.mem_of_getElem? this)⟩
theorem CtxOk.vis (O : CtxOk c S k g) {n : Str} (h : visB (c.kd n) = true) : Vis g.X.env.scope n := by
  rw [O.sc]
  have h' : visB (c.sc.names.lookup n) = true := h
  unfold Vis
  cases e : c.sc.names.lookup n with
  | none => rw [e] at h'; cases h'
  | some q => rw [e] at h'; cases q <;> first | exact .inl rfl | exact .inr (.inl rfl) | exact .inr (.inr rfl) | cases h'
theorem CtxOk.gl (O : CtxOk c S k g) {n : Str} (h : glB (c.kd n) = true) : Gl g.X n := by
  show g.X.env.scope.names.lookup n = _
  rw [O.sc]
  have h' : glB (c.sc.names.lookup n) = true := h
  cases e : c.sc.names.lookup n with
  | none => rw [e] at h'; cases h'
  | some q => rw [e] at h'; cases q <;> first | rfl | cases h'
theorem CtxOk.into (O : CtxOk c S k g) {scope : Scope} (hs : scope.kind = .function) (s : Shared) (H : Hp) (C : Addr) (cl : List (Str × Addr)) (fp : List Addr) (M1 : Mem) (H1 : Hp) : CtxOk (c.into scope) S k (blkG g scope s H C cl fp M1 H1) where
  sc := by
    have : relS scope g.X.env.scope = relS scope c.sc := by rw [O.sc]
    exact this
  N := O.N
  nd := O.nd
  nn := O.nn
  kind := hs
  calm := O.calm
  gok := ⟨O.gok.room, O.gok.gu, fun u s' x => by
    obtain ⟨a, B, sI, pins, σ, H, cls, d, e, I, nb, up, sky, na, os, ag, w⟩ := x
    obtain ⟨_, _, _, _, _, z⟩ := w
    exact z.elim⟩
  fn := fun h => nomatch h
  free := O.free
  cs := O.cs
  cals := O.cals
  mths := O.mths
  flds := O.flds
end
/-! built-ins -/
def BF.id : BF → String := BF.nm
theorem BF.ok (f : BF) : okName (f.nm : Str) = true ∧ (f.nm : Str) ∈ freeNames ∧ bootBuiltins (f.nm : Str) = some (.builtin f.nm) := by
  cases f <;> exact ⟨by decide +kernel, by decide +kernel, by rfl⟩
theorem BT.ok (f : BT) : okName (f.nm : Str) = true ∧ (f.nm : Str) ∈ freeNames ∧ bootBuiltins (f.nm : Str) = some (.type f.nm) := by
  cases f <;> exact ⟨by decide +kernel, by decide +kernel, by rfl⟩
theorem BTy.ok (f : BTy) : okName (f.nm : Str) = true ∧ (f.nm : Str) ∈ freeNames ∧ bootBuiltins (f.nm : Str) = some (.type f.nm) := by
  cases f <;> exact ⟨by decide +kernel, by decide +kernel, by rfl⟩
section
variable {X : Cx}
theorem BF.cd (f : BF) (hc : X.calm = true) (hg : X.A.guards = some []) (hu : X.A.units + 70 < cLine) : CallD X (.builtin f.nm) f.rd := by
  cases f with
  | abs => exact cd_abs
  | len => exact cd_len
  | min => exact cd_min2 hc
  | max => exact cd_max2 hc
  | all => exact cd_all hc
  | any => exact cd_any hc
  | sum => exact cd_sum hc
  | sorted => exact cd_sorted
  | repr => exact cd_repr hg hu
  | isi => exact cd_isi
theorem BF.tmp (f : BF) : TmpOk f.rd f.rt := by
  cases f <;> first | exact ok_tLen | exact ok_tBools | exact ok_tSum | exact fun _ _ _ z => z.elim
theorem BT.cd (f : BT) (hc : X.calm = true) : CallD X (.type f.nm) f.rd := by
  cases f with
  | int => exact cd_int
  | tuple => exact cd_tuple
  | list => exact cd_list hc
  | dict => exact cd_dict hc
theorem BT.tmp (f : BT) : TmpOk f.rd f.rt := by
  cases f <;> first | exact ok_tTuple | exact fun _ _ _ z => z.elim
theorem BM.md (m : BM) (hu : X.A.units + 70 < cLine) : MtD X m.ty m.nm m.id m.rd := by
  cases m with
  | join => exact md_join
  | upper => exact md_upper
  | append => exact md_append
  | extend => exact md_extend
  | pop => exact md_pop
  | get => exact md_get (by omega)
  | setd => exact md_setd
theorem opd_no {f : Value → Value → Sem Value} : OpD X f (fun _ _ _ _ => False) := ⟨fun _ _ _ _ => False, fun _ _ _ _ _ _ _ _ _ _ _ _ z => z.elim, fun _ _ _ _ _ _ _ _ _ _ _ _ _ _ _ z => z.elim⟩
theorem boR_ok (o : Operator) : OpD X (binaryOp o) (boR o) := by
  cases o with
  | Add => exact opd_add
  | Sub => exact opd_sub
  | FloorDiv => exact opd_fdiv
  | Mod => exact opd_mod
  | Pow => exact opd_int op_powG
  | Mult =>
    refine OpD.imp (opd_mulL.or ((opd_int op_mulM).or opd_mulS)) fun x y M Q q => ?_
    cases x with
    | ref => exact .inl q
    | str => exact .inr (.inr q)
    | _ => exact .inr (.inl q)
  | _ => exact opd_no
theorem coR_ok (o : CmpOp) (hu : X.A.units + 70 < cLine) : OpD X (compareOp o) (coR o) := by
  cases o with
  | Eq => exact opd_eq (by omega)
  | NotEq => exact opd_ne (by omega)
  | Lt => exact opd_lt
  | LtE => exact opd_le
  | Gt => exact opd_gt
  | GtE => exact opd_ge
  | Is => exact opd_is
  | IsNot => exact opd_isNot
  | In => exact opd_in hu
  | NotIn => exact opd_notIn hu
end
end DL

/-! What is looked at is so. -/
namespace DL
open PySem PySem.Spec PyProof.Rows L2
def isBoolE : Expr → Bool
  | .BoolOp .. => true
  | _ => false
structure Snd (S : Tb) (g : Gd) (ir : IE) (m : Bool) (e : Expr) : Prop where
  de : m = false → DE g e (wE S ir)
  dt : m = true → DT g e (wT S ir)
  dw : m = true → isBoolE e = true → DW g e (wT S ir)
  dle : m = false → isLc ir = true → DLE g e (wL S ir)
  slc : m = false → isLc ir = true → ∀ (i : Nat) (y : Str) (py spos : Pos), g.X.N[i]? = some y → g.X.env.scope.names.lookup y = some .local → swapsWith e (some (.Name y py)) spos.line g.X.env = pure true → DS g (.Assign [.Name y py] e spos) (dAsg (wE S ir) (dgName i))
  slcF : m = false → isLc ir = true → ∀ (i : Nat) (y : Str) (py spos : Pos), g.X.N[i]? = some y → g.X.env.scope.names.lookup y = some .local → swapsWith e (some (.Name y py)) spos.line g.X.env = pure true → DS g (.Assign [.Name y py] e spos) (dAsg (dLcF (wL S ir)) (dgName i))
section
variable {S : Tb} {k : Nat} {c : Cc} {g : Gd} {ir : IE} {m : Bool} {e : Expr}
theorem Snd.leaf (h : DE g e (wE S ir)) (ht : wT S ir = dTruth (wE S ir)) (hp : plainT e = true) (hl : isLc ir = false) : Snd S g ir m e where
  de := fun _ => h
  dt := fun _ => by rw [ht]; exact dt_truth h fun w => truth_of hp g.X.env w
  dw := fun _ hb => by
    exfalso
    cases e <;> first | (cases hb; done) | (cases hp; done)
  dle := fun _ z => by rw [hl] at z; cases z
  slc := fun _ z => by rw [hl] at z; cases z
  slcF := fun _ z => by rw [hl] at z; cases z
theorem Snd.val (hm : (!m) = true) (h : DE g e (wE S ir)) (hl : isLc ir = false) : Snd S g ir m e where
  de := fun _ => h
  dt := fun z => by subst z; cases hm
  dw := fun z => by subst z; cases hm
  dle := fun _ z => by rw [hl] at z; cases z
  slc := fun _ z => by rw [hl] at z; cases z
  slcF := fun _ z => by rw [hl] at z; cases z
theorem Snd.both (h : m = false → DE g e (wE S ir)) (ht : m = true → DT g e (wT S ir)) (hb : isBoolE e = false) (hl : isLc ir = false) : Snd S g ir m e where
  de := h
  dt := ht
  dw := fun _ z => by rw [hb] at z; cases z
  dle := fun _ z => by rw [hl] at z; cases z
  slc := fun _ z => by rw [hl] at z; cases z
  slcF := fun _ z => by rw [hl] at z; cases z
theorem Snd.bool (h : m = false → DE g e (wE S ir)) (ht : m = true → DW g e (wT S ir)) (hl : isLc ir = false) : Snd S g ir m e where
  de := h
  dt := fun z => (ht z).dt
  dw := fun z _ => ht z
  dle := fun _ z => by rw [hl] at z; cases z
  slc := fun _ z => by rw [hl] at z; cases z
  slcF := fun _ z => by rw [hl] at z; cases z
theorem Snd.comp (hm : (!m) = true) (h : DLE g e (wL S ir)) (hw : wE S ir = dNew (wL S ir)) (hs : ∀ (i : Nat) (y : Str) (py spos : Pos), g.X.N[i]? = some y → g.X.env.scope.names.lookup y = some .local → swapsWith e (some (.Name y py)) spos.line g.X.env = pure true → DS g (.Assign [.Name y py] e spos) (dAsg (dNew (wL S ir)) (dgName i))) (hsF : ∀ (i : Nat) (y : Str) (py spos : Pos), g.X.N[i]? = some y → g.X.env.scope.names.lookup y = some .local → swapsWith e (some (.Name y py)) spos.line g.X.env = pure true → DS g (.Assign [.Name y py] e spos) (dAsg (dLcF (wL S ir)) (dgName i))) : Snd S g ir m e where
  de := fun _ => by rw [hw]; exact h.de
  dt := fun z => by subst z; cases hm
  dw := fun z => by subst z; cases hm
  dle := fun _ _ => h
  slc := fun _ _ => by rw [hw]; exact hs
  slcF := fun _ _ => hsF
/-! targets -/
mutual
theorem hitG : ∀ (t : IG) (d : D) (e : Sl) (M : Mem) (Q : Sl → Mem → Prop) (E : EX), wG t d e M Q E → ∃ e' M', Q e' M'
  | .nm i, d, e, M, Q, E, h => ⟨_, _, h⟩
  | .tp gs, d, e, M, Q, E, h => by
    cases d with
    | tup ds => exact hitGs gs ds e M Q E h
    | tx ds => exact hitGs gs ds e M Q E h
    | rl ds => exact hitGs gs ds e M Q E h
    | ref a => obtain ⟨ds, _, h⟩ := h; exact hitGs gs ds e M Q E h
    | _ => exact False.elim h
  | .st i j, d, e, M, Q, E, h => by
    cases d with
    | tup ds => cases ds with
      | cons x xs => exact ⟨_, _, h⟩
      | nil => exact False.elim h
    | _ => exact False.elim h
theorem hitGs : ∀ (t : IGs) (ds : List D) (e : Sl) (M : Mem) (Q : Sl → Mem → Prop) (E : EX), wGs t ds e M Q E → ∃ e' M', Q e' M'
  | .nil, ds, e, M, Q, E, h => ⟨_, _, h.2⟩
  | .cons t r, ds, e, M, Q, E, h => by
    cases ds with
    | nil => exact False.elim h
    | cons d ds =>
      obtain ⟨e1, M1, h1⟩ := hitG t d e M _ E h
      exact hitGs r ds e1 M1 Q E h1
end
mutual
theorem sndG : ∀ (t : IG) (c : Cc) (e : Expr), chkG t c e = true → ∀ g, CtxOk c S k g → DG g e (wG t) (IG.slots t)
  | .nm i, c, e, h, g, O => by
    unfold chkG at h
    split at h
    · simp only [Bool.and_eq_true] at h
      obtain ⟨h1, h2⟩ := h
      obtain ⟨hN, ok⟩ := O.slot h1
      split at h2
      · rename_i e1
        have e1' := (congrArg (fun z : Scope => z.names.lookup _) O.sc).trans e1
        exact dg_name O.hN hN (.inl e1') (.inr e1')
      · rename_i e1
        have e1' := (congrArg (fun z : Scope => z.names.lookup _) O.sc).trans e1
        exact dg_name O.hN hN (.inr e1') (.inl (O.fn (by simpa using h2) _))
      · cases h2
    · cases h
  | .tp gs, c, e, h, g, O => by
    unfold chkG at h
    split at h
    · obtain ⟨h1, h2, h3⟩ := sndGs gs c _ h g O
      exact dg_tup O.calm h1 h2 h3
    · cases h
  | .st i j, c, e, h, g, O => by
    unfold chkG at h
    split at h
    · simp only [Bool.and_eq_true] at h
      obtain ⟨⟨h1, h2⟩, h3, h4⟩ := h
      obtain ⟨hN1, ok1⟩ := O.slot h1
      obtain ⟨hN2, ok2⟩ := O.slot h3
      have nm : ∀ {n : Str} {i : Nat} {p : Pos}, g.X.N[i]? = some n → (match c.kd n with | some .local => true | some .cell => !c.blk | _ => false) = true → PG g.X (.Name n p) (gName i) := fun {n i p} hN h => by
        split at h
        · rename_i e1
          have e1' := (congrArg (fun z : Scope => z.names.lookup _) O.sc).trans e1
          exact pg_name O.hN hN (.inl e1') (.inr e1')
        · rename_i e1
          have e1' := (congrArg (fun z : Scope => z.names.lookup _) O.sc).trans e1
          exact pg_name O.hN hN (.inr e1') (.inl (O.fn (by simpa using h) _))
        · cases h
      exact dg_star O.calm rfl (nm hN1 h2) (nm hN2 h4)
    · cases h
theorem sndGs : ∀ (t : IGs) (c : Cc) (xs : List Expr), chkGs t c xs = true → ∀ g, CtxOk c S k g → DGs g xs (wGs t) (IGs.slots t) ∧ (∀ ds e M Q E, wGs t ds e M Q E → ds.length = xs.length) ∧ xs.all (fun x => !isStar x) = true
  | .nil, c, xs, h, g, O => by
    unfold chkGs at h
    split at h
    · exact ⟨dgs_nil, fun ds e M Q E q => by have q : ds = [] ∧ Q e M := q; rw [q.1]; rfl, rfl⟩
    · cases h
  | .cons t r, c, xs, h, g, O => by
    unfold chkGs at h
    split at h
    · simp only [Bool.and_eq_true, Bool.not_eq_true'] at h
      obtain ⟨h0, h1, h2⟩ := h
      obtain ⟨h3, h4, h5⟩ := sndGs r c _ h2 g O
      refine ⟨dgs_cons (sndG t c _ h1 g O) h3 h0, fun ds e M Q E q => ?_, by rw [List.all_cons, h0, h5]; rfl⟩
      cases ds with
      | nil => exact q.elim
      | cons d ds =>
        have q : wG t d e M (fun e' M' => wGs r ds e' M' Q E) E := q
        obtain ⟨e1, M1, q1⟩ := hitG t d e M _ E q
        rw [List.length_cons, List.length_cons, h4 _ _ _ _ _ q1]
    · cases h
end
def BlkGs (g : Gd) (scope : Scope) (xs : List Expr) (t : DTGs) (ns : List Nat) : Prop := ∃ t' : TGs, (∀ s H C cl fp, PGs (g.X.blk s H scope (compEnvC scope cl C g.X.env) fp) xs t') ∧
  ∀ σ H e M vs ds Q (QV : L2.St → Hp → Prop), SRel g.X.K H e σ → MRel g.X.K M H → IsL g.X.K H ds vs → t ds e M Q EF →
    (∀ σ' H' e' M', SRel g.X.K H' e' σ' → MRel g.X.K M' H' → Fr M H M' H' → (∀ vs, (∀ i ∈ ns, i ∈ vs) → L2.wipe σ' vs = L2.wipe σ vs) → Q e' M' → QV σ' H') → t' vs σ H QV
mutual
theorem sndGB : ∀ (t : IG) (c : Cc) (scope : Scope) (e : Expr), scope.kind = .function → chkG t (c.into scope) e = true → ∀ g, CtxOk c S k g → BlkG g scope e (wG t) (IG.slots t)
  | .nm i, c, scope, e, hk, h, g, O => by
    unfold chkG at h
    split at h
    · simp only [Bool.and_eq_true] at h
      obtain ⟨h1, h2⟩ := h
      refine ⟨gName i, fun s H C cl fp => ?_, fun σ H e M v d Q QV sl mr id q k => k _ H _ M (SRel.set id i sl) mr Fr.refl (fun vs hv => set_wipe σ i _ vs (hv i (List.mem_cons_self))) q⟩
      have O2 := O.into hk s H C cl fp (fun _ => none) H
      obtain ⟨hN, ok⟩ := O2.slot h1
      split at h2
      · rename_i e1
        have e1' := (congrArg (fun z : Scope => z.names.lookup _) O2.sc).trans e1
        exact pg_name O2.hN hN (.inl e1') (.inr e1')
      · cases h2
      · cases h2
    · cases h
  | .tp gs, c, scope, e, hk, h, g, O => by
    unfold chkG at h
    split at h
    · rename_i xs kk pos
      obtain ⟨⟨t', h1, k2⟩, h2, h3⟩ := sndGsB gs c scope xs hk h g O
      refine ⟨gTupQ g.X.K xs.length t', fun s H C cl fp => pg_tupQ (X := g.X.blk s H scope (compEnvC scope cl C g.X.env) fp) (n := xs.length) O.calm (h1 s H C cl fp) dgs_len (dgs_nostar h3), fun σ H e M v d Q QV sl mr i q kk => ?_⟩
      cases d with
      | tup ds =>
        rw [is_tup] at i
        obtain ⟨a, vs, rfl, h1, l⟩ := i
        exact ⟨a, vs, rfl, .inl (SqT.of h1), by rw [l.length]; exact h2 _ _ _ _ _ q, k2 σ H e M vs ds Q QV sl mr l q kk⟩
      | tx ds =>
        rw [is_tx] at i
        obtain ⟨a, vs, rfl, h1, l⟩ := i
        exact ⟨a, vs, rfl, .inl h1.sq, by rw [l.length]; exact h2 _ _ _ _ _ q, k2 σ H e M vs ds Q QV sl mr l q kk⟩
      | rl ds =>
        rw [is_rl] at i
        obtain ⟨a, vs, rfl, h1, l⟩ := i
        exact ⟨a, vs, rfl, .inr h1.sq, by rw [l.length]; exact h2 _ _ _ _ _ q, k2 σ H e M vs ds Q QV sl mr l q kk⟩
      | ref a =>
        rw [is_ref] at i
        subst i
        obtain ⟨ds, h1, q⟩ := q
        obtain ⟨vs, h3, l⟩ := mr a _ h1
        exact ⟨a, vs, rfl, .inr (.inl (.inl h3)), by rw [l.length]; exact h2 _ _ _ _ _ q, k2 σ H e M vs ds Q QV sl mr l q kk⟩
      | _ => exact False.elim q
    · cases h
  | .st i j, c, scope, e, hk, h, g, O => by
    unfold chkG at h
    split at h
    · simp only [Bool.and_eq_true] at h
      obtain ⟨⟨h1, h2⟩, h3, h4⟩ := h
      refine ⟨gStar g.X.K (gName i) (gName j), fun s H C cl fp => ?_, fun σ H e M v d Q QV sl mr id q kk => star_low (E := EF) sl mr id q kk⟩
      have O2 := O.into hk s H C cl fp (fun _ => none) H
      obtain ⟨hN1, ok1⟩ := O2.slot h1
      obtain ⟨hN2, ok2⟩ := O2.slot h3
      have nm : ∀ {n : Str} {i : Nat} {p : Pos}, (blkG g scope s H C cl fp (fun _ => none) H).X.N[i]? = some n → (match (c.into scope).kd n with | some .local => true | some .cell => !(c.into scope).blk | _ => false) = true → PG (blkG g scope s H C cl fp (fun _ => none) H).X (.Name n p) (gName i) := fun {n i p} hN h => by
        split at h
        · rename_i e1
          have e1' := (congrArg (fun z : Scope => z.names.lookup _) O2.sc).trans e1
          exact pg_name O2.hN hN (.inl e1') (.inr e1')
        · cases h
        · cases h
      exact pg_star (X := (blkG g scope s H C cl fp (fun _ => none) H).X) O2.calm rfl (nm hN1 h2) (nm hN2 h4)
    · cases h
theorem sndGsB : ∀ (t : IGs) (c : Cc) (scope : Scope) (xs : List Expr), scope.kind = .function → chkGs t (c.into scope) xs = true → ∀ g, CtxOk c S k g → BlkGs g scope xs (wGs t) (IGs.slots t) ∧ (∀ ds e M Q E, wGs t ds e M Q E → ds.length = xs.length) ∧ xs.all (fun x => !isStar x) = true
  | .nil, c, scope, xs, hk, h, g, O => by
    unfold chkGs at h
    split at h
    · refine ⟨⟨_, fun s H C cl fp => pgs_nil, fun σ H e M vs ds Q QV sl mr il q k => ?_⟩, fun ds e M Q E q => by have q : ds = [] ∧ Q e M := q; rw [q.1]; rfl, rfl⟩
      obtain ⟨h, q⟩ := q
      subst h
      rw [isL_nil] at il
      exact ⟨il, k σ H e M sl mr Fr.refl (fun _ _ => rfl) q⟩
    · cases h
  | .cons t r, c, scope, xs, hk, h, g, O => by
    unfold chkGs at h
    split at h
    · simp only [Bool.and_eq_true, Bool.not_eq_true'] at h
      obtain ⟨h0, h1, h2⟩ := h
      obtain ⟨⟨u', h3, k3⟩, h4, h5⟩ := sndGsB r c scope _ hk h2 g O
      obtain ⟨t', ht, kt⟩ := sndGB t c scope _ hk h1 g O
      refine ⟨⟨_, fun s H C cl fp => pgs_cons (ht s H C cl fp) (h3 s H C cl fp) (assign_cons h0), fun σ H e M vs ds Q QV sl mr il q kk => ?_⟩, fun ds e M Q E q => ?_, by rw [List.all_cons, h0, h5]; rfl⟩
      · cases ds with
        | nil => exact False.elim q
        | cons d r =>
          rw [isL_cons] at il
          obtain ⟨v, rv, rfl, i, l⟩ := il
          refine ⟨v, rv, rfl, kt σ H e M v d _ _ sl mr i q fun σ1 H1 e1 M1 sl1 m1 f1 w1 q => ?_⟩
          refine k3 σ1 H1 e1 M1 rv r _ _ sl1 m1 (IsL.ext (f1.ext mr) _ _ l) q fun σ2 H2 e2 M2 sl2 m2 f2 w2 q => ?_
          exact kk σ2 H2 e2 M2 sl2 m2 (f1.trans f2) (fun vs hv => (w2 vs fun i hi => hv i (List.mem_append_right _ hi)).trans (w1 vs fun i hi => hv i (List.mem_append_left _ hi))) q
      · cases ds with
        | nil => exact False.elim q
        | cons d ds =>
          have q : wG t d e M (fun e' M' => wGs r ds e' M' Q E) E := q
          obtain ⟨e1, M1, q1⟩ := hitG t d e M _ E q
          rw [List.length_cons, List.length_cons, h4 _ _ _ _ _ q1]
    · cases h
end
theorem blkI_any {scope : Scope} {tg x : Expr} {t : DTE} (h : BlkE g scope x t) : BlkI g scope tg x (diAny t) := by
  refine ⟨wAny g.X.K (lowAny g.X.K t), fun s H C cl fp => pi_any (h.pe s H C cl fp), fun σ H e M R RV sl mr q k => ?_⟩
  refine lowAny_start sl mr q fun v d M1 H1 i m f q => ?_
  cases d with
  | str z => rw [is_str] at i; exact .inl ⟨z, i, k _ _ M1 H1 jrel_str m f q⟩
  | tup ds =>
    rw [is_tup] at i
    obtain ⟨a, vs, rfl, h1, l⟩ := i
    refine .inr (.inl ⟨a, vs, rfl, SqT.of h1, k _ _ M1 H1 (jrel_tup fun M' H' m' f' => ⟨vs, ?_, IsL.ext f' _ _ l⟩) m f q⟩)
    exact SqT.of (f'.1 _ _ h1)
  | rl ds =>
    rw [is_rl] at i
    obtain ⟨a, vs, rfl, h1, l⟩ := i
    refine .inr (.inr ⟨a, vs, rfl, h1.sq, k _ _ M1 H1 (jrel_list fun M' H' m' f' _ => ⟨vs, ?_, IsL.ext f' _ _ l⟩) m f q⟩)
    exact (f'.2.1 _ _ h1).sq
  | tx ds =>
    rw [is_tx] at i
    obtain ⟨a, vs, rfl, h1, l⟩ := i
    refine .inr (.inl ⟨a, vs, rfl, h1.sq, k _ _ M1 H1 (jrel_tup fun M' H' m' f' => ⟨vs, ?_, IsL.ext f' _ _ l⟩) m f q⟩)
    exact (f'.2.2 _ _ h1).sq
  | ref a =>
    rw [is_ref] at i
    subst i
    obtain ⟨ds, h1, q⟩ := q
    obtain ⟨ws, e1, l1⟩ := m a _ h1
    refine .inr (.inr ⟨a, ws, rfl, SqL.of e1, k _ _ M1 H1 (jrel_list fun M' H' m' f' p => ?_) m f q⟩)
    obtain ⟨ws', e2, l2⟩ := m' a _ p
    exact ⟨ws', SqL.of e2, l2⟩
  | _ => exact False.elim q
end
end DL

/-! Expressions that are looked at. -/
namespace DL
open PySem PySem.Spec PyProof.Rows L2
section
variable {S : Tb} {k : Nat} {c : Cc} {g : Gd}
theorem blk_kind {N : List Str} {sc scope : Scope} {own : List (Str × Nat)} (h : blkC N sc scope own = true) : scope.kind = .function := (blkOk_by h).kind
theorem de_imp {x : Expr} {t t' : DTE} (h : DE g x t) (q : ∀ e M Q, t' e M Q g.E → t e M Q g.E) : DE g x t' := ⟨fun pins s σ H e M Q I z => h.run pins s σ H e M Q I (q e M Q z)⟩
/-- a test clause, in any block -/
def CsOk (S : Tb) (k : Nat) (cs : IO) (c : Cc) (xs : List Expr) : Prop := (cs = .no ∧ xs = []) ∨ ∃ a x, cs = .yes a ∧ xs = [x] ∧ ∀ g, CtxOk c S k g → DT g x (wT S a)
theorem CsOk.blk {cs : IO} {scope : Scope} {xs : List Expr} (h : CsOk S k cs (c.into scope) xs) (hk : scope.kind = .function) (O : CtxOk c S k g) : BlkT g scope xs (wC S cs) := by
  rcases h with ⟨rfl, rfl⟩ | ⟨a, x, rfl, rfl, h⟩
  · exact blkT_nil
  · exact blkT_one fun s H C cl fp M1 H1 => h _ (O.into hk s H C cl fp M1 H1)
end
section
variable {S : Tb} {k : Nat}
theorem few_of {g : Gd} {x : Expr} {xs : List Expr} {t : DTE} {r : DTA} {pos : Pos} (hx : DE g x t) (ha : DA g xs r) (ns : isStar x = false) (hn : xs.length < 28) :
    ((backTo pos (starEach (x :: xs) g.X.env)).all (fun z => !z.1) && (backToKw pos (keywordEach [] g.X.env)).all (fun z => z.1.isSome)
      && decide ((x :: xs).length + ([] : List Keyword).length + (if ([] : List Keyword).isEmpty then 0 else 1) < 30)) = true := by
  have h := bt_any (pos := pos) (da_cons hx ha ns)
  have h1 : (backTo pos (starEach (x :: xs) g.X.env)).all (fun z => !z.1) = true := by
    rw [List.all_eq_true]
    intro z hz
    rw [List.any_eq_false] at h
    simpa using h z hz
  rw [h1]
  have h2 : (x :: xs).length + ([] : List Keyword).length + (if ([] : List Keyword).isEmpty then 0 else 1) < 30 := by
    show xs.length + 1 + 0 + 0 < 30
    omega
  rw [decide_eq_true h2]
  rfl
theorem lenEs : ∀ (es : IEs) (c : Cc) (xs : List Expr), chkEs es c xs = true → es.len = xs.length
  | .nil, c, xs, h => by
    unfold chkEs at h
    split at h
    · rfl
    · cases h
  | .cons a r, c, xs, h => by
    unfold chkEs at h
    split at h
    · simp only [Bool.and_eq_true] at h
      rw [List.length_cons, ← lenEs r c _ h.2.2]; rfl
    · cases h
theorem lenKs : ∀ (es : IEs) (c : Cc) (xs : List Keyword), chkKs es c xs = true → es.len = (xs.filterMap (·.arg)).length
  | .nil, c, xs, h => by
    unfold chkKs at h
    split at h
    · rfl
    · cases h
  | .cons a r, c, xs, h => by
    unfold chkKs at h
    split at h
    · rename_i n x p ys
      simp only [Bool.and_eq_true] at h
      have := lenKs r c _ h.2
      show r.len + 1 = ((⟨some n, x, p⟩ :: ys : List Keyword).filterMap (·.arg)).length
      rw [this]; rfl
    · cases h
mutual
theorem sndE : ∀ (ir : IE) (c : Cc) (m : Bool) (e : Expr), chkE ir c m e = true → ∀ g, CtxOk c S k g → Snd S g ir m e
  | .sl i, c, m, e, h, g, O => by
    unfold chkE at h
    split at h
    · simp only [Bool.and_eq_true] at h
      obtain ⟨h1, h2⟩ := O.slot h.1
      exact Snd.leaf (de_slot h1 (O.vis h.2) (okName.dbg h2) (okName.cd h2)) rfl rfl rfl
    · cases h
  | .lit d, c, m, e, h, g, O => by
    unfold chkE at h
    split at h
    · rename_i kk j pos
      have : DE g (.Constant kk j pos) (dC d.d) := by
        cases d <;> cases kk <;> first | (cases h; done) | skip
        · exact de_non
        · cases eq_of_beq h; exact de_bl
        · cases of_decide_eq_true h; exact de_int
        · cases of_decide_eq_true h; exact de_str
      exact Snd.leaf this rfl rfl rfl
    · cases h
  | .gc d, c, m, e, h, g, O => by
    unfold chkE at h
    split at h
    · simp only [Bool.and_eq_true, decide_eq_true_eq] at h
      obtain ⟨ok, u, hm, r⟩ := O.cs _ _ h.2
      exact Snd.leaf (de_glob (O.gl h.1) hm r (fun H => d.is _ H) (okName.dbg ok)) rfl rfl rfl
    · cases h
  | .gty T, c, m, e, h, g, O => by
    unfold chkE at h
    split at h
    · simp only [Bool.and_eq_true, decide_eq_true_eq] at h
      obtain ⟨h1, h2, rfl⟩ := h
      obtain ⟨ok, fr, bb⟩ := T.ok
      exact Snd.val h1 (de_bltn (O.gl h2) (O.free _ fr) bb (v := .ty T.nm) rfl (fun H => ii_ty) (okName.nm ok) (okName.dbg ok)) rfl
    · cases h
  | .tup es, c, m, e, h, g, O => by
    unfold chkE at h
    split at h
    · simp only [Bool.and_eq_true] at h
      exact Snd.val h.1 (de_tup (sndEs es c _ h.2 g O)) rfl
    · cases h
  | .lst es, c, m, e, h, g, O => by
    unfold chkE at h
    split at h
    · simp only [Bool.and_eq_true] at h
      exact Snd.val h.1 (de_lst (sndEs es c _ h.2 g O)) rfl
    · cases h
  | .bin o a b, c, m, e, h, g, O => by
    unfold chkE at h
    split at h
    · simp only [Bool.and_eq_true, decide_eq_true_eq] at h
      obtain ⟨h0, rfl, h1, h2⟩ := h
      exact Snd.val h0 (de_bin (boR_ok _) ((sndE a c _ _ h1 g O).de rfl) ((sndE b c _ _ h2 g O).de rfl)) rfl
    · cases h
  | .neg a, c, m, e, h, g, O => by
    unfold chkE at h
    split at h
    · simp only [Bool.and_eq_true] at h
      exact Snd.val h.1 (de_neg ((sndE a c _ _ h.2 g O).de rfl)) rfl
    · cases h
  | .cmp o a b, c, m, e, h, g, O => by
    unfold chkE at h
    split at h
    · simp only [Bool.and_eq_true, decide_eq_true_eq, Bool.not_eq_true'] at h
      obtain ⟨rfl, h0, h1, h2⟩ := h
      have ha := (sndE a c _ _ h1 g O).de rfl
      have hb := (sndE b c _ _ h2 g O).de rfl
      exact Snd.both (fun _ => de_cmp (coR_ok _ O.hu) ha hb (behind_of h0)) (fun _ => dt_cmp (coR_ok _ O.hu) ha hb (behind_of h0)) rfl rfl
    · cases h
  | .chain o o' a b d, c, m, e, h, g, O => by
    unfold chkE at h
    split at h
    · simp only [Bool.and_eq_true, decide_eq_true_eq, Bool.not_eq_true'] at h
      obtain ⟨rfl, rfl, h0, h1, h2, h3⟩ := h
      have ha := (sndE a c _ _ h1 g O).de rfl
      have hb := (sndE b c _ _ h2 g O).de rfl
      have hd := (sndE d c _ _ h3 g O).de rfl
      exact Snd.both (fun _ => de_chain (coR_ok _ O.hu) (coR_ok _ O.hu) ha hb hd (behind_of h0)) (fun _ => dt_chain (coR_ok _ O.hu) (coR_ok _ O.hu) ha hb hd (behind_of h0)) rfl rfl
    · cases h
  | .andE a b, c, m, e, h, g, O => by
    unfold chkE at h
    split at h
    · simp only [Bool.and_eq_true] at h
      have ha := sndE a c _ _ h.1 g O
      have hb := sndE b c _ _ h.2 g O
      exact Snd.bool (fun z => de_and (ha.de z) (hb.de z)) (fun z => dw_and (ha.dt z) (hb.dw z rfl)) rfl
    · cases h
  | .orE a b, c, m, e, h, g, O => by
    unfold chkE at h
    split at h
    · simp only [Bool.and_eq_true] at h
      have ha := sndE a c _ _ h.1 g O
      have hb := sndE b c _ _ h.2 g O
      exact Snd.bool (fun z => de_or (ha.de z) (hb.de z)) (fun z => dw_or (ha.dt z) (hb.dw z rfl)) rfl
    · cases h
  | .one a, c, m, e, h, g, O => by
    unfold chkE at h
    split at h
    · rename_i op x pos
      have ha := sndE a c _ _ h g O
      exact Snd.bool (fun z => de_one (ha.de z)) (fun z => by cases op with
        | And => exact dw_and1 (ha.dt z)
        | Or => exact dw_or1 (ha.dt z)) rfl
    · cases h
  | .nt a, c, m, e, h, g, O => by
    unfold chkE at h
    split at h
    · have ha := sndE a c _ _ h g O
      exact Snd.both (fun z => de_not (ha.de z)) (fun z => dt_not (ha.dt z)) rfl rfl
    · cases h
  | .ife t a b, c, m, e, h, g, O => by
    unfold chkE at h
    split at h
    · simp only [Bool.and_eq_true] at h
      obtain ⟨h0, h1, h2, h3⟩ := h
      exact Snd.val h0 (de_if ((sndE t c _ _ h1 g O).dt rfl) ((sndE a c _ _ h2 g O).de rfl) ((sndE b c _ _ h3 g O).de rfl)) rfl
    · cases h
  | .ix a i, c, m, e, h, g, O => by
    unfold chkE at h
    split at h
    · simp only [Bool.and_eq_true, Bool.not_eq_true'] at h
      obtain ⟨h0, h1, h2⟩ := h
      exact Snd.leaf (de_ix (ixd (by have := O.hu; omega)) ((sndE a c _ _ h1 g O).de rfl) ((sndE i c _ _ h2 g O).de rfl) (plainIx_of h0)) rfl rfl rfl
    · cases h
  | .sli a lo hi, c, m, e, h, g, O => by
    unfold chkE at h
    split at h
    · simp only [Bool.and_eq_true] at h
      obtain ⟨h0, h1, h2⟩ := h
      exact Snd.leaf (de_slice ((sndE a c _ _ h0 g O).de rfl) (sndO lo c _ h1 g O) (sndO hi c _ h2 g O)) rfl rfl rfl
    · cases h
  | .cb f a es, c, m, e, h, g, O => by
    unfold chkE at h
    split at h
    · simp only [Bool.and_eq_true, decide_eq_true_eq, Bool.not_eq_true'] at h
      obtain ⟨h0, rfl, h1, h2, h3⟩ := h
      obtain ⟨ok, fr, bb⟩ := f.ok
      exact Snd.leaf (de_callB (f.cd O.calm O.gok.gu O.hu) (O.gl h0) (O.free _ fr) bb ((sndE a c _ _ h2 g O).de rfl) (sndEs es c _ h3 g O) h1 (okName.nm ok) (okName.dbg ok)) rfl rfl rfl
    · cases h
  | .ct f a es, c, m, e, h, g, O => by
    unfold chkE at h
    split at h
    · simp only [Bool.and_eq_true, decide_eq_true_eq, Bool.not_eq_true'] at h
      obtain ⟨h0, rfl, h1, h2, h3⟩ := h
      obtain ⟨ok, fr, bb⟩ := f.ok
      exact Snd.leaf (de_callT (f.cd O.calm) (O.gl h0) (O.free _ fr) bb ((sndE a c _ _ h2 g O).de rfl) (sndEs es c _ h3 g O) h1 (okName.nm ok) (okName.dbg ok)) rfl rfl rfl
    · cases h
  | .tb f l, c, m, e, h, g, O => by
    unfold chkE at h
    split at h
    · simp only [Bool.and_eq_true, decide_eq_true_eq, Bool.not_eq_true'] at h
      obtain ⟨h0, rfl, h1, h2, h3⟩ := h
      obtain ⟨ok, fr, bb⟩ := f.ok
      exact Snd.leaf (de_tmpB (f.cd O.calm O.gok.gu O.hu) f.tmp (O.gl h0) (O.free _ fr) bb ((sndE l c _ _ h2 g O).dle rfl h3) h1 (okName.nm ok) (okName.dbg ok)) rfl rfl rfl
    · cases h
  | .tt f l, c, m, e, h, g, O => by
    unfold chkE at h
    split at h
    · simp only [Bool.and_eq_true, decide_eq_true_eq, Bool.not_eq_true'] at h
      obtain ⟨h0, rfl, h1, h2, h3⟩ := h
      obtain ⟨ok, fr, bb⟩ := f.ok
      exact Snd.leaf (de_tmpT (f.cd O.calm) f.tmp (O.gl h0) (O.free _ fr) bb ((sndE l c _ _ h2 g O).dle rfl h3) h1 (okName.nm ok) (okName.dbg ok)) rfl rfl rfl
    · cases h
  | .cal f es ks, c, m, e, h, g, O => by
    unfold chkE at h
    split at h
    · rename_i n p xs kws pos
      simp only [Bool.and_eq_true, decide_eq_true_eq] at h
      obtain ⟨h0, h1, h2, h3, h4⟩ := h
      obtain ⟨ok, fv, hm, hk, hc⟩ := O.cals _ _ _ _ h1
      have HA := sndEs es c _ h3 g O
      have HK := sndKs ks c kws h4 g O
      cases xs with
      | nil =>
        have e0 : wEs S es = dNil := by
          cases es with
          | nil => rfl
          | cons => unfold chkEs at h3; cases h3
        have z := de_cal0 (pos := pos) (p := p) O.gok (O.gl h0) hm hk hc HK (okName.dbg ok)
        refine Snd.leaf ?_ ?_ rfl rfl
        · show DE g _ (dFnN _ _ _ _ _)
          rw [lenEs es c _ h3, lenKs ks c _ h4, e0]
          exact z
        · rfl
      | cons x xs =>
        refine Snd.leaf ?_ rfl rfl rfl
        show DE g _ (dFnN _ _ _ _ _)
        rw [lenEs es c _ h3, lenKs ks c _ h4]
        exact de_cal O.gok (O.gl h0) hm hk hc HA HK (by simpa using h2) (okName.dbg ok)
    · cases h
  | .mth f ci mm o es ks, c, m, e, h, g, O => by
    unfold chkE at h
    split at h
    · rename_i x n q xs kws pos
      simp only [Bool.and_eq_true, decide_eq_true_eq] at h
      obtain ⟨rfl, h0, h1, h2, h3, h4, h5, h6, h7⟩ := h
      obtain ⟨fa, hcl, hme, hc⟩ := O.mths _ _ _ _ _ h3
      have HO := (sndE o c _ _ h5 g O).de rfl
      have HA := sndEs es c _ h6 g O
      have HK := sndKs ks c kws h7 g O
      cases xs with
      | nil =>
        have e0 : wEs S es = dNil := by
          cases es with
          | nil => rfl
          | cons => unfold chkEs at h6; cases h6
        refine Snd.leaf ?_ rfl rfl rfl
        show DE g _ (dMth _ _ _ _ _ _ _ _)
        rw [lenEs es c _ h6, lenKs ks c _ h7, e0]
        exact de_mth0 O.gok HO hcl hme hc HK (base_of h0) (by simpa using h2) h1
      | cons y ys =>
        refine Snd.leaf ?_ rfl rfl rfl
        show DE g _ (dMth _ _ _ _ _ _ _ _)
        rw [lenEs es c _ h6, lenKs ks c _ h7]
        exact de_mth O.gok HO hcl hme hc HA HK (by simpa using h4) (base_of h0) h2 h1
    · cases h
  | .fld ci f o, c, m, e, h, g, O => by
    unfold chkE at h
    split at h
    · simp only [Bool.and_eq_true, decide_eq_true_eq, List.contains_iff_mem] at h
      obtain ⟨rfl, h0, h1, h2⟩ := h
      obtain ⟨hc, hn⟩ := O.flds _ _ h1
      exact Snd.leaf (de_fld ((sndE o c _ _ h2 g O).de rfl) hc hn (base_of h0)) rfl rfl rfl
    · cases h
  | .fz a, c, m, e, h, g, O => by
    unfold chkE at h
    simp only [Bool.and_eq_true] at h
    exact Snd.val h.1 (de_fz ((sndE a c _ _ h.2.2 g O).de rfl)) rfl
  | .lcF l, c, m, e, h, g, O => by
    unfold chkE at h
    simp only [Bool.and_eq_true] at h
    have hm : m = false := by simpa using h.1
    subst hm
    have H := sndE l c false e h.2.2 g O
    exact { de := fun _ => de_lcF (H.dle rfl h.2.1), dt := fun z => (nomatch z), dw := fun z => (nomatch z), dle := fun _ z => (nomatch z), slc := fun _ z => (nomatch z), slcF := fun _ z => (nomatch z) }
  | .bad, c, m, e, h, g, O => by
    unfold chkE at h
    exact Snd.val h de_bad rfl
  | .slst a lo hi st, c, m, e, h, g, O => by
    unfold chkE at h
    split at h
    · simp only [Bool.and_eq_true] at h
      obtain ⟨h0, h1, h2, h3, h4⟩ := h
      exact Snd.val h0 (de_sliceS ((sndE a c _ _ h1 g O).de rfl) (sndO lo c _ h2 g O) (sndO hi c _ h3 g O) (sndO st c _ h4 g O)) rfl
    · cases h
  | .revX a lo hi st, c, m, e, h, g, O => by
    unfold chkE at h
    split at h
    · simp only [Bool.and_eq_true] at h
      obtain ⟨h0, h1, h2, h3, h4⟩ := h
      exact Snd.val h0 (de_revX ((sndE a c _ _ h1 g O).de rfl) (sndO lo c _ h2 g O) (sndO hi c _ h3 g O) (sndO st c _ h4 g O)) rfl
    · cases h
  | .lenK a, c, m, e, h, g, O => by
    unfold chkE at h
    split at h
    · simp only [Bool.and_eq_true, decide_eq_true_eq, Bool.not_eq_true'] at h
      obtain ⟨h0, h1, rfl, rfl, h2, h3⟩ := h
      exact Snd.leaf (de_lenK O.calm (O.gl h0) (O.free _ (by decide +kernel)) (O.gl h1) (O.free _ (by decide +kernel)) ((sndE a c _ _ h3 g O).de rfl) h2) rfl rfl rfl
    · cases h
  | .dc own t it cs ke a, c, m, e, h, g, O => by
    unfold chkE at h
    split at h
    · simp only [Bool.and_eq_true, decide_eq_true_eq, Bool.not_eq_true'] at h
      rename_i kx vx tg iter ifs as scope pos
      obtain ⟨h0, rfl, hb, hs, hf, hi, hg, hc, hk1, he⟩ := h
      have hk := blk_kind hb
      have ok := blkOk_by hb
      rw [← O.N, ← O.sc] at ok
      have HI := sndI it c _ _ hi g O
      have HG := sndGB t c _ _ hk hg g O
      have HC := (sndC cs _ _ hc).blk hk O
      have HK : BlkE g scope kx (wE S ke) := fun s H C cl fp M1 H1 => (sndE ke _ _ _ hk1 _ (O.into hk s H C cl fp M1 H1)).de rfl
      have HE : BlkE g scope vx (wE S a) := fun s H C cl fp M1 H1 => (sndE a _ _ _ he _ (O.into hk s H C cl fp M1 H1)).de rfl
      exact Snd.val (by rw [h0]; rfl) (de_dc O.calm O.hN HI ok HG HC HK HE hs fun x => folded_of hf _ x) rfl
    · cases h
  | .newK, c, m, e, h, g, O => by
    unfold chkE at h
    split at h
    · exact Snd.val h de_newK rfl
    · cases h
  | .newT, c, m, e, h, g, O => by
    unfold chkE at h
    split at h
    · exact Snd.val h de_newT rfl
    · cases h
  | .ttX l, c, m, e, h, g, O => by
    unfold chkE at h
    split at h
    · simp only [Bool.and_eq_true, decide_eq_true_eq, Bool.not_eq_true'] at h
      obtain ⟨hm, h0, rfl, h1, h2, h3⟩ := h
      exact Snd.val (by rw [hm]; rfl) (de_tmpT cd_tupleX ok_tTupleX (O.gl h0) (O.free _ (by decide +kernel)) (by rfl) ((sndE l c _ _ h2 g O).dle rfl h3) h1 (by decide +kernel) (by decide +kernel)) rfl
    · cases h
  | .ctX a, c, m, e, h, g, O => by
    unfold chkE at h
    split at h
    · simp only [Bool.and_eq_true, decide_eq_true_eq, Bool.not_eq_true'] at h
      obtain ⟨hm, h0, rfl, h1, h2⟩ := h
      exact Snd.val (by rw [hm]; rfl) (de_callT cd_tupleX (O.gl h0) (O.free _ (by decide +kernel)) (by rfl) ((sndE a c _ _ h2 g O).de rfl) da_nil h1 (by decide +kernel) (by decide +kernel)) rfl
    · cases h
  | .ctK a, c, m, e, h, g, O => by
    unfold chkE at h
    split at h
    · simp only [Bool.and_eq_true, decide_eq_true_eq, Bool.not_eq_true'] at h
      obtain ⟨hm, h0, rfl, h1, h2⟩ := h
      exact Snd.val (by rw [hm]; rfl) (de_callT (cd_tupleK O.calm) (O.gl h0) (O.free _ (by decide +kernel)) (by rfl) ((sndE a c _ _ h2 g O).de rfl) da_nil h1 (by decide +kernel) (by decide +kernel)) rfl
    · cases h
  | .tupX es, c, m, e, h, g, O => by
    unfold chkE at h
    split at h
    · simp only [Bool.and_eq_true] at h
      exact Snd.val h.1 (de_tupX (sndEs es c _ h.2 g O)) rfl
    · cases h
  | .catX a b, c, m, e, h, g, O => by
    unfold chkE at h
    split at h
    · simp only [Bool.and_eq_true] at h
      obtain ⟨h0, h1, h2⟩ := h
      exact Snd.val h0 (de_bin opd_addX ((sndE a c _ _ h1 g O).de rfl) ((sndE b c _ _ h2 g O).de rfl)) rfl
    · cases h
  | .itX o, c, m, e, h, g, O => by
    unfold chkE at h
    split at h
    · simp only [Bool.and_eq_true, decide_eq_true_eq] at h
      obtain ⟨h0, h1, rfl, rfl, h2, h3, h4⟩ := h
      exact Snd.val h0 (de_itX O.calm ((sndE o c _ _ h4 g O).de rfl) (O.gl h1) (O.free _ (by decide +kernel)) (base_of h2) h3) rfl
    · cases h
  | .lz a b, c, m, e, h, g, O => by
    unfold chkE at h
    split at h
    · simp only [Bool.and_eq_true, decide_eq_true_eq, Bool.not_eq_true'] at h
      obtain ⟨h0, h1, rfl, h2, rfl, h3, h4, h5, h6⟩ := h
      exact Snd.val (by rw [h0]; rfl) (de_listZip O.calm (O.gl h2) (O.free _ (by decide +kernel)) (O.gl h1) (O.free _ (by decide +kernel)) (da_cons ((sndE a c _ _ h5 g O).de rfl) (da_cons ((sndE b c _ _ h6 g O).de rfl) da_nil h4) h3) h3 h4) rfl
    · cases h
  | .dc2 own vs t it cs t1 it1 cs1 ke a, c, m, e, h, g, O => by
    unfold chkE at h
    split at h
    · simp only [Bool.and_eq_true, decide_eq_true_eq, Bool.not_eq_true'] at h
      rename_i kx vx tg iter ifs as tg1 iter1 ifs1 as1 scope pos
      obtain ⟨h0, rfl, rfl, hb, hs, hs1, hv, hf, hf1, hany, hi, hg, hc, hi1, hg1, hc1, hk1, he⟩ := h
      have hk := blk_kind hb
      have ok := blkOk_by hb
      rw [← O.N, ← O.sc] at ok
      have HI := sndI it c _ _ hi g O
      have HG := sndGB t c _ _ hk hg g O
      have HC := (sndC cs _ _ hc).blk hk O
      have HI1 : BlkI g scope tg1 iter1 (wI S it1) := by
        cases it1 with
        | any b => exact blkI_any fun s H C cl fp M1 H1 => (sndE b _ _ _ hi1 _ (O.into hk s H C cl fp M1 H1)).de rfl
        | _ => cases hany
      have HG1 := sndGB t1 c _ _ hk hg1 g O
      have HC1 := (sndC cs1 _ _ hc1).blk hk O
      have HK : BlkE g scope kx (wE S ke) := fun s H C cl fp M1 H1 => (sndE ke _ _ _ hk1 _ (O.into hk s H C cl fp M1 H1)).de rfl
      have HE : BlkE g scope vx (wE S a) := fun s H C cl fp M1 H1 => (sndE a _ _ _ he _ (O.into hk s H C cl fp M1 H1)).de rfl
      exact Snd.val (by rw [h0]; rfl) (de_dc2 O.calm O.hN HI ok hv HG HC HI1 HG1 HC1 HK HE hs hs1 (fun x => folded_of hf _ x) fun env x => folded_of hf1 env x) rfl
    · cases h
  | .lenS own t it cs a, c, m, e, h, g, O => by
    unfold chkE at h
    split at h
    · simp only [Bool.and_eq_true, decide_eq_true_eq, Bool.not_eq_true'] at h
      rename_i n p el tg iter ifs as scope pos pos2
      obtain ⟨h0, h1, rfl, rfl, hb, hs, hf, hi, hg, hc, he⟩ := h
      have hk := blk_kind hb
      have ok := blkOk_by hb
      rw [← O.N, ← O.sc] at ok
      have HI := sndI it c _ _ hi g O
      have HG := sndGB t c _ _ hk hg g O
      have HC := (sndC cs _ _ hc).blk hk O
      have HE : BlkE g scope el (wE S a) := fun s H C cl fp M1 H1 => (sndE a _ _ _ he _ (O.into hk s H C cl fp M1 H1)).de rfl
      exact Snd.val (by rw [h0]; rfl) (de_lenS O.calm O.hN (O.gl h1) (O.free _ (by decide +kernel)) HI ok HG HC HE hs fun x => folded_of hf _ x) rfl
    · cases h
  | .mt t o a es, c, m, e, h, g, O => by
    unfold chkE at h
    split at h
    · simp only [Bool.and_eq_true, decide_eq_true_eq, Bool.not_eq_true'] at h
      obtain ⟨rfl, h0, h1, h2, h3, h4, h5, h6⟩ := h
      have hx := (sndE a c _ _ h5 g O).de rfl
      have ha := sndEs es c _ h6 g O
      exact Snd.leaf (de_mt (t.md O.hu) ((sndE o c _ _ h4 g O).de rfl) hx ha h3 (base_of h0) (few_of hx ha h3 h2) h1) rfl rfl rfl
    · cases h
  | .mt0 t o, c, m, e, h, g, O => by
    unfold chkE at h
    split at h
    · simp only [Bool.and_eq_true, decide_eq_true_eq] at h
      obtain ⟨rfl, h0, h1, h2⟩ := h
      exact Snd.leaf (de_mt0 (t.md O.hu) ((sndE o c _ _ h2 g O).de rfl) (base_of h0) h1) rfl rfl rfl
    · cases h
  | .lc own t it cs a, c, m, e, h, g, O => by
    unfold chkE at h
    split at h
    · simp only [Bool.and_eq_true, decide_eq_true_eq, Bool.not_eq_true'] at h
      rename_i el tg iter ifs as scope pos
      obtain ⟨h0, rfl, hb, hs, hf, hi, hg, hc, he⟩ := h
      have hk := blk_kind hb
      have ok := blkOk_by hb
      rw [← O.N, ← O.sc] at ok
      have HI := sndI it c _ _ hi g O
      have HG := sndGB t c _ _ hk hg g O
      have HC := (sndC cs _ _ hc).blk hk O
      have HE : BlkE g scope el (wE S a) := fun s H C cl fp M1 H1 => (sndE a _ _ _ he _ (O.into hk s H C cl fp M1 H1)).de rfl
      exact Snd.comp (by rw [h0]; rfl) (dle_lc O.calm O.hN HI ok HG HC HE hs fun x => folded_of hf _ x) rfl (fun i y py spos hy hyl hsw => ds_lc O.calm O.hN hy hyl hsw HI ok HG HC HE hs fun x => folded_of hf _ x) (fun i y py spos hy hyl hsw => ds_lcF O.calm O.hN hy hyl hsw HI ok HG HC HE hs fun x => folded_of hf _ x)
    · cases h
  | .lc2 own vs t it cs t1 it1 cs1 a, c, m, e, h, g, O => by
    unfold chkE at h
    split at h
    · simp only [Bool.and_eq_true, decide_eq_true_eq, Bool.not_eq_true'] at h
      rename_i el tg iter ifs as tg1 iter1 ifs1 as1 scope pos
      obtain ⟨h0, rfl, rfl, hb, hs, hs1, hv, hf, hf1, hany, hi, hg, hc, hi1, hg1, hc1, he⟩ := h
      have hk := blk_kind hb
      have ok := blkOk_by hb
      rw [← O.N, ← O.sc] at ok
      have HI := sndI it c _ _ hi g O
      have HG := sndGB t c _ _ hk hg g O
      have HC := (sndC cs _ _ hc).blk hk O
      have HI1 : BlkI g scope tg1 iter1 (wI S it1) := by
        cases it1 with
        | any b => exact blkI_any fun s H C cl fp M1 H1 => (sndE b _ _ _ hi1 _ (O.into hk s H C cl fp M1 H1)).de rfl
        | _ => cases hany
      have HG1 := sndGB t1 c _ _ hk hg1 g O
      have HC1 := (sndC cs1 _ _ hc1).blk hk O
      have HE : BlkE g scope el (wE S a) := fun s H C cl fp M1 H1 => (sndE a _ _ _ he _ (O.into hk s H C cl fp M1 H1)).de rfl
      exact Snd.comp (by rw [h0]; rfl) (dle_lc2 O.calm O.hN HI ok hv HG HC HI1 HG1 HC1 HE hs hs1 (fun x => folded_of hf _ x) fun env x => folded_of hf1 env x) rfl (fun i y py spos hy hyl hsw => ds_lc2 O.calm O.hN hy hyl hsw HI ok hv HG HC HI1 HG1 HC1 HE hs hs1 (fun x => folded_of hf _ x) fun env x => folded_of hf1 env x) (fun i y py spos hy hyl hsw => ds_lc2F O.calm O.hN hy hyl hsw HI ok hv HG HC HI1 HG1 HC1 HE hs hs1 (fun x => folded_of hf _ x) fun env x => folded_of hf1 env x)
    · cases h
theorem sndEs : ∀ (es : IEs) (c : Cc) (xs : List Expr), chkEs es c xs = true → ∀ g, CtxOk c S k g → DA g xs (wEs S es)
  | .nil, c, xs, h, g, O => by
    unfold chkEs at h
    split at h
    · exact da_nil
    · cases h
  | .cons a r, c, xs, h, g, O => by
    unfold chkEs at h
    split at h
    · simp only [Bool.and_eq_true, Bool.not_eq_true'] at h
      obtain ⟨h0, h1, h2⟩ := h
      exact da_cons ((sndE a c _ _ h1 g O).de rfl) (sndEs r c _ h2 g O) h0
    · cases h
theorem sndKs : ∀ (es : IEs) (c : Cc) (xs : List Keyword), chkKs es c xs = true → ∀ g, CtxOk c S k g → DKs g xs (wEs S es) (xs.filterMap (·.arg))
  | .nil, c, xs, h, g, O => by
    unfold chkKs at h
    split at h
    · exact dks_nil
    · cases h
  | .cons a r, c, xs, h, g, O => by
    unfold chkKs at h
    split at h
    · simp only [Bool.and_eq_true] at h
      exact dks_cons ((sndE a c _ _ h.1 g O).de rfl) (sndKs r c _ h.2 g O)
    · cases h
theorem sndO : ∀ (o : IO) (c : Cc) (x : Option Expr), chkO o c x = true → ∀ g, CtxOk c S k g → DO g x (wO S o)
  | .no, c, x, h, g, O => by
    unfold chkO at h
    split at h
    · exact do_none
    · cases h
  | .yes a, c, x, h, g, O => by
    unfold chkO at h
    split at h
    · exact do_some ((sndE a c _ _ h g O).de rfl)
    · cases h
theorem sndC : ∀ (o : IO) (c : Cc) (xs : List Expr), chkC o c xs = true → CsOk S k o c xs
  | .no, c, x, h => by
    unfold chkC at h
    split at h
    · exact .inl ⟨rfl, rfl⟩
    · cases h
  | .yes a, c, x, h => by
    unfold chkC at h
    split at h
    · exact .inr ⟨a, _, rfl, rfl, fun g O => (sndE a c _ _ h g O).dt rfl⟩
    · cases h
theorem sndI : ∀ (it : II) (c : Cc) (t x : Expr), chkI it c t x = true → ∀ g, CtxOk c S k g → DI g t x (wI S it)
  | .any a, c, t, x, h, g, O => by
    unfold chkI at h
    exact di_any ((sndE a c _ _ h g O).de rfl)
  | .rg1 a, c, t, x, h, g, O => by
    unfold chkI at h
    split at h
    · simp only [Bool.and_eq_true, decide_eq_true_eq, Bool.not_eq_true'] at h
      obtain ⟨h0, rfl, h1, h2⟩ := h
      exact di_range1 (O.gl h0) (O.free _ (by decide +kernel)) (da_cons ((sndE a c _ _ h2 g O).de rfl) da_nil h1) h1
    · cases h
  | .rg2 a b, c, t, x, h, g, O => by
    unfold chkI at h
    split at h
    · simp only [Bool.and_eq_true, decide_eq_true_eq, Bool.not_eq_true'] at h
      obtain ⟨h0, rfl, h1, h2, h3, h4⟩ := h
      exact di_range2 (O.gl h0) (O.free _ (by decide +kernel)) (da_cons ((sndE a c _ _ h3 g O).de rfl) (da_cons ((sndE b c _ _ h4 g O).de rfl) da_nil h2) h1) h1 h2
    · cases h
  | .en a, c, t, x, h, g, O => by
    unfold chkI at h
    split at h
    · simp only [Bool.and_eq_true, decide_eq_true_eq, Bool.not_eq_true'] at h
      obtain ⟨h0, rfl, h1, h2⟩ := h
      exact di_enum (O.gl h0) (O.free _ (by decide +kernel)) (da_cons ((sndE a c _ _ h2 g O).de rfl) da_nil h1) h1
    · cases h
  | .zp a b, c, t, x, h, g, O => by
    unfold chkI at h
    split at h
    · simp only [Bool.and_eq_true, decide_eq_true_eq, Bool.not_eq_true'] at h
      obtain ⟨h0, rfl, h1, h2, h3, h4⟩ := h
      exact di_zip (O.gl h0) (O.free _ (by decide +kernel)) (da_cons ((sndE a c _ _ h3 g O).de rfl) (da_cons ((sndE b c _ _ h4 g O).de rfl) da_nil h2) h1) h1 h2
    · cases h
end
end
end DL

/-! Statements that are looked at; a def's body. -/
namespace DL
open PySem PySem.Spec PyProof.Rows L2
section
variable {S : Tb} {k : Nat}
theorem noSwap_ok {c : Cc} {g : Gd} (O : CtxOk c S k g) {t x : Expr} (h : noSwap c t x = true) : swappedStores [t] x g.X.env = pure none := by
  unfold noSwap at h
  split at h
  · rename_i a _ b _ _ _
    rw [Bool.or_eq_true] at h
    rcases h with h | h
    · refine nopair_of ?_
      have e : ∀ n, g.X.env.kindOf n = c.kd n := fun n => by show g.X.env.scope.names.lookup n = _; rw [O.sc]; rfl
      rw [e, e]
      have l : ∀ z : Option NameKind, decide (z = some .local) = locB z := fun z => by
        cases z with
        | none => rfl
        | some z => cases z <;> rfl
      rw [l, l]
      cases h1 : locB (c.kd a) <;> cases h2 : locB (c.kd b) <;> first | rfl | (rw [h1, h2] at h; cases h)
    · exact stores_of (by cases x <;> first | rfl | cases h)
  · exact stores_long
  · exact stores_of h
theorem sw_cell {elt : Expr} {gs : List Comprehension} {scope : Scope} {pos py : Pos} {y : Str} {l : Nat} {env : PySem.Env} (h : locB (env.kindOf y) = false) : swapsWith (.ListComp elt gs scope pos) (some (.Name y py)) l env = pure false := by
  have e : (env.kindOf y == some .local) = false := by
    cases h2 : env.kindOf y with
    | none => rfl
    | some z => cases z <;> first | rfl | (rw [h2] at h; cases h)
  unfold swapsWith
  simp only [e, Bool.and_false, Bool.false_and]
mutual
theorem sndS : ∀ (s : IS) (c : Cc) (st : Stmt), chkS s c st = true → ∀ g, CtxOk c S k g → PassesOwn (model g.X.prog g.X.w) g.X.A g.X.env g.X.xe → DS g st (wS S s)
  | .ex a, c, st, h, g, O, hp => by
    unfold chkS at h
    split at h
    · simp only [Bool.and_eq_true] at h
      exact ds_expr ((sndE a c _ _ h.2 g O).de rfl) (swaps_of h.1)
    · cases h
  | .asg t a, c, st, h, g, O, hp => by
    unfold chkS at h
    split at h
    · rename_i tg x pos
      simp only [Bool.and_eq_true, Bool.not_eq_true'] at h
      obtain ⟨h0, h1, h2, h3, h4⟩ := h
      have HG := sndG t c tg h2 g O
      have HE := sndE a c false x h3 g O
      cases hn : notComp x with
      | true => exact ds_asg (HE.de rfl) HG h0 (sole_of hn) (noSwap_ok O h1)
      | false =>
        rw [hn, Bool.false_or] at h4
        split at h4
        · rename_i y p elt gs sc q
          cases hl : p.line == q.line with
          | false => exact ds_asg (HE.de rfl) HG h0 (sw_false (l := pos.line) hl) (noSwap_ok O h1)
          | true =>
           cases hk : locB (c.kd y) with
           | false => exact ds_asg (HE.de rfl) HG h0 (sw_cell (l := pos.line) (by rw [show g.X.env.kindOf y = c.kd y from by show g.X.env.scope.names.lookup y = _; rw [O.sc]; rfl]; exact hk)) (noSwap_ok O h1)
           | true =>
            rw [hl, hk, Bool.not_true, Bool.or_false, Bool.false_or, Bool.and_eq_true] at h4
            obtain ⟨h5, h6⟩ := h4
            have e1 : c.kd y = some .local := by
              split at h5
              · assumption
              · cases h5
            have e2 : g.X.env.scope.names.lookup y = some .local := by rw [O.sc]; exact e1
            cases t with
            | tp => cases h2
            | st => cases h2
            | nm i =>
              have h2' : slotB c i y = true := by
                unfold chkG at h2
                simp only [Bool.and_eq_true] at h2
                exact h2.1
              have hsw := sw_true (env := g.X.env) (l := pos.line) (py := p) (elt := elt) (gs := gs) (scope := sc) (pos := q) (by rw [O.sc]; exact O.kind) e2 hl (by simpa using h6)
              have hlc : isLc a = true ∨ (∃ l, a = .lcF l) ∨ a = .bad ∨ ∃ l, a = .fz l := by
                cases a <;> first | exact .inl rfl | exact .inr (.inl ⟨_, rfl⟩) | exact .inr (.inr (.inl rfl)) | exact .inr (.inr (.inr ⟨_, rfl⟩)) | (unfold chkE at h3; cases h3)
              rcases hlc with hlc | ⟨l, rfl⟩ | rfl | ⟨l, rfl⟩
              · exact HE.slc rfl hlc i y p pos (O.slot h2').1 e2 hsw
              · unfold chkE at h3
                simp only [Bool.and_eq_true] at h3
                exact (sndE l c false _ h3.2.2 g O).slcF rfl h3.2.1 i y p pos (O.slot h2').1 e2 hsw
              · exact ds_bad
              · unfold chkE at h3
                simp only [Bool.and_eq_true] at h3
                rw [hn] at h3
                cases h3.2.1
        · cases h4
    · cases h
  | .sto o i a, c, st, h, g, O, hp => by
    unfold chkS at h
    split at h
    · simp only [Bool.and_eq_true, Bool.not_eq_true'] at h
      obtain ⟨h0, h1, h2, h3, h4⟩ := h
      exact ds_asg ((sndE a c _ _ h4 g O).de rfl) (dg_sub (by have := O.hu; omega) ((sndE o c _ _ h2 g O).de rfl) ((sndE i c _ _ h3 g O).de rfl) (sub_of h0)) rfl (sole_of h1) (stores_of rfl)
    · cases h
  | .sto2 o i o2 i2 a, c, st, h, g, O, hp => by
    unfold chkS at h
    split at h
    · simp only [Bool.and_eq_true, Bool.not_eq_true'] at h
      obtain ⟨h0, h1, h2, h3, h4, h5, h6, h7⟩ := h
      have hu : g.X.A.units + 1 < cLine := by have := O.hu; omega
      exact ds_asg ((sndE a c _ _ h7 g O).de rfl) (dg_tup2 O.calm (dgs_cons (dg_sub hu ((sndE o c _ _ h3 g O).de rfl) ((sndE i c _ _ h4 g O).de rfl) (sub_of h0)) (dgs_cons (dg_sub hu ((sndE o2 c _ _ h5 g O).de rfl) ((sndE i2 c _ _ h6 g O).de rfl) (sub_of h1)) dgs_nil rfl) rfl) rfl rfl) rfl (sole_of h2) stores_sub
    · cases h
  | .hed o d a, c, st, h, g, O, hp => by
    unfold chkS at h
    split at h
    · simp only [Bool.and_eq_true] at h
      obtain ⟨h1, h2, h3, h4⟩ := h
      exact ds_asg ((sndE a c _ _ h4 g O).de rfl) (dg_head ((sndE o c _ _ h2 g O).de rfl) (do_some ((sndE d c _ _ h3 g O).de rfl))) rfl (sole_of h1) (stores_of rfl)
    · cases h
  | .aug add i a, c, st, h, g, O, hp => by
    unfold chkS at h
    split at h
    · simp only [Bool.and_eq_true, decide_eq_true_eq] at h
      obtain ⟨ho, h1, h2, h3⟩ := h
      obtain ⟨hN, ok⟩ := O.slot h1
      have HE := (sndE a c false _ h3 g O).de rfl
      split at h2
      · rename_i e1
        have e1' := (congrArg (fun z : Scope => z.names.lookup _) O.sc).trans e1
        exact ds_aug add ho O.hN hN (.inl e1') (.inr e1') HE
      · rename_i e1
        have e1' := (congrArg (fun z : Scope => z.names.lookup _) O.sc).trans e1
        exact ds_aug add ho O.hN hN (.inr e1') (.inl (O.fn (by simpa using h2) _)) HE
      · cases h2
    · cases h
  | .sfl ci f o a, c, st, h, g, O, hp => by
    unfold chkS at h
    split at h
    · simp only [Bool.and_eq_true, decide_eq_true_eq, List.contains_iff_mem] at h
      obtain ⟨rfl, h1, h3, h4⟩ := h
      obtain ⟨hc, hn⟩ := O.flds _ _ h1
      exact ds_sfl ((sndE o c _ _ h3 g O).de rfl) ((sndE a c _ _ h4 g O).de rfl) hc hn (swaps_att _)
    · cases h
  | .bad, c, st, h, g, O, hp => ds_bad
  | .par i j a b, c, st, h, g, O, hp => by
    unfold chkS at h
    split at h
    · rename_i x p y q kt pt u v k2 pt2 pos
      simp only [Bool.and_eq_true, Bool.not_eq_true', decide_eq_true_eq] at h
      obtain ⟨hij, h1, h2, h3, h4, h5, h6, h7, h8, h9, h10, h11⟩ := h
      have e : c.kd x = some .local ∧ c.kd y = some .local := by
        split at h3
        · exact ⟨by assumption, by assumption⟩
        · cases h3
      have ex : g.X.env.scope.names.lookup x = some .local := by rw [O.sc]; exact e.1
      have ey : g.X.env.scope.names.lookup y = some .local := by rw [O.sc]; exact e.2
      exact ds_par O.calm O.hN (O.slot h1).1 (O.slot h2).1 hij ex ey ((sndE a c _ _ h10 g O).de rfl) ((sndE b c _ _ h11 g O).de rfl) h6 h7 (pair_of (by rw [O.sc]; exact O.kind) ex ey h4 h5 h6 h7 h8 h9)
    · cases h
  | .ret a, c, st, h, g, O, hp => by
    unfold chkS at h
    split at h
    · exact ds_ret ((sndE a c _ _ h g O).de rfl)
    · cases h
  | .retN, c, st, h, g, O, hp => by
    unfold chkS at h
    split at h
    · exact ds_retN
    · cases h
  | .iff t a b, c, st, h, g, O, hp => by
    unfold chkS at h
    split at h
    · simp only [Bool.and_eq_true] at h
      exact ds_if ((sndE t c _ _ h.1 g O).dt rfl) (sndSs a c _ h.2.1 g O hp) (sndSs b c _ h.2.2 g O hp)
    · cases h
  | .fo t it b, c, st, h, g, O, hp => by
    unfold chkS at h
    split at h
    · simp only [Bool.and_eq_true, Bool.not_eq_true'] at h
      obtain ⟨h0, h1, h2, h3⟩ := h
      exact ds_for hp O.calm (sndI it c _ _ h1 g O) (sndG t c _ h2 g O) (sndSs b c _ h3 g O hp) fun x => folded_of h0 _ x
    · cases h
  | .wh t b, c, st, h, g, O, hp => by
    unfold chkS at h
    split at h
    · simp only [Bool.and_eq_true] at h
      exact ds_while hp ((sndE t c _ _ h.1 g O).dt rfl) (sndSs b c _ h.2 g O hp)
    · cases h
  | .pas, c, st, h, g, O, hp => by
    unfold chkS at h
    split at h
    · exact ds_pass
    · cases h
  | .brk, c, st, h, g, O, hp => by
    unfold chkS at h
    split at h
    · exact ds_break
    · cases h
  | .cnt, c, st, h, g, O, hp => by
    unfold chkS at h
    split at h
    · exact ds_continue
    · cases h
theorem sndSs : ∀ (s : ISs) (c : Cc) (st : List Stmt), chkSs s c st = true → ∀ g, CtxOk c S k g → PassesOwn (model g.X.prog g.X.w) g.X.A g.X.env g.X.xe → DSs g st (wSs S s)
  | .nil, c, st, h, g, O, hp => by
    unfold chkSs at h
    split at h
    · exact ds_nil
    · cases h
  | .cons a r, c, st, h, g, O, hp => by
    unfold chkSs at h
    split at h
    · simp only [Bool.and_eq_true] at h
      exact ds_cons (sndS a c _ h.1 g O hp) (sndSs r c _ h.2 g O hp)
    · cases h
  | .frz i r, c, st, h, g, O, hp => by
    unfold chkSs at h
    exact ds_frz i (sndSs r c st h g O hp)
  | .fgt r, c, st, h, g, O, hp => by
    unfold chkSs at h
    exact ds_forget (sndSs r c st h g O hp)
end
end
/-- what a table says, at a world's frame -/
structure TabOk (P : Program) (w : World) (K : PySem.W.Frag) (mg : Str → Option Value) (base : Heap) (c : Cc) (S : Tb) (k : Nat) : Prop where
  free : ∀ n ∈ freeNames, mg n = none
  cs : ∀ n d, c.cs.lookup n = some d → okName n = true ∧ ∃ u, mg n = some u ∧ RelV d.v u
  cals : ∀ i n np ks, c.cals[i]? = some (n, np, ks) → okName n = true ∧ GlobOk P w K mg base k n np ks (S.g i)
  mths : ∀ i ci m np ks, c.mths[i]? = some (ci, m, np, ks) → MethOk P w K mg base k (S.c ci) m np ks (S.m i)
  flds : ∀ ci f, (ci, f) ∈ c.flds → Cls K (S.c ci) ∧ NoAttr K (S.c ci) f
/-- what is looked at once in a def: names, scope -/
def scB (c : Cc) (ps : List Str) : Bool :=
  (match c.sc.kind with | .function => true | _ => false) && (!c.sc.isCoroutine && (!c.sc.isGenerator && (decide c.N.Nodup && (c.N.all okName && (decide (c.N.take ps.length = ps) &&
    ((ps.all fun x => match c.sc.names.lookup x with | some .local => true | some .cell => true | _ => false) && (c.sc.names.all fun y => match y.2 with | .free => false | _ => true)))))))
theorem scB_ok {c : Cc} {ps : List Str} (h : scB c ps = true) : FnScope c.N ps c.sc ∧ ∀ n ∈ c.N, okName n = true := by
  unfold scB at h
  simp only [Bool.and_eq_true, Bool.not_eq_true', decide_eq_true_eq, List.all_eq_true] at h
  obtain ⟨h1, h2, h3, h4, h5, h6, h7, h8⟩ := h
  refine ⟨⟨?_, h2, h3, h4, h6, fun x hx => ?_, fun y hy z => ?_⟩, h5⟩
  · split at h1
    · assumption
    · cases h1
  · have q := h7 x hx
    split at q
    · exact .inl (by assumption)
    · exact .inr (by assumption)
    · cases q
  · have q := h8 y hy
    rw [z] at q
    cases q
/-- a looked-at body keeps its promise -/
theorem fnG_chk {P : Program} {w : World} {K : PySem.W.Frag} {mg : Str → Option Value} {base : Heap} {k : Nat} {f : Addr} {name qual : Str} {params : Arguments} {body : List Stmt} {dV kV doc pm cdv ct oc : Value} {an od : Option Addr} {osl : Array (Option Value)} {ps : List Str} {sp : DSp} {c : Cc} {S : Tb} (ir : ISs)
    (lk : K.lookup f = some ⟨oc, od, .func (PySem.W.fnOf name qual params body c.sc dV kV doc pm an cdv ct), osl⟩) (hcd : PySem.W.codeIn K cdv qual = true) (hsc : scB c ps = true) (hb : c.blk = false) (hk : chkSs ir c body = true) (len : ∀ ds M Q E, sp ds M Q E → ds.length = ps.length)
    (T : TabOk P w K mg base c S k) (law : ∀ ds M Q E, sp ds M Q E → wSs S ir { nx := fun _ M' => ∃ M2, Sub M2 M' ∧ Q .non M2, rt := fun d M' => ∃ M2, Sub M2 M' ∧ Q d M2 } E (startD c.N.length ds) M) :
    FnG P w K mg base (k + 1) f (PySem.W.fnOf name qual params body c.sc dV kV doc pm an cdv ct) ps sp := by
  obtain ⟨FS, nn⟩ := scB_ok hsc
  refine fnG_of lk hcd FS len fun A outer s H ds M Q E XV hr hg hX hsp => ⟨_, sndSs (k := k) ir c body hk _ ?_ ?_, law ds M Q E hsp⟩
  · exact ⟨rfl, rfl, FS.nd, nn, FS.kind, rfl, ⟨hr, hg, (takes_of rfl rfl rfl rfl).imp fun cc d σ H' z => hX cc d H' z⟩, fun _ _ => rfl, T.free, T.cs, T.cals, T.mths, T.flds⟩
  · exact passes_of rfl
end DL

/-! Trees as data; readings for the hand. -/
namespace DL
open PySem PySem.Spec PyProof.Rows L2
mutual
/-- numbers, texts, None, tuples and read-only lists of such, at most n deep -/
def good : D → Nat → Bool
  | .non, _ => true
  | .int _, _ => true
  | .str _, _ => true
  | .tup xs, n => match n with | 0 => false | m + 1 => goodL xs m
  | .rl xs, n => match n with | 0 => false | m + 1 => goodL xs m
  | .bl _, _ => false
  | .tx _, _ => false
  | .ref _, _ => false
  | .ty _, _ => false
def goodL : List D → Nat → Bool
  | [], _ => true
  | x :: xs, n => good x n && goodL xs n
end
mutual
theorem good_flat : ∀ (d : D) (n : Nat), good d n = true → flatD d = true ∧ (toPy d).plain = true ∧ (toPy d).depth ≤ n
  | .non, n, _ => ⟨rfl, rfl, Nat.zero_le _⟩
  | .int _, n, _ => ⟨rfl, rfl, Nat.zero_le _⟩
  | .str _, n, _ => ⟨rfl, rfl, Nat.zero_le _⟩
  | .tup xs, 0, h => by unfold good at h; cases h
  | .tup xs, m + 1, h => by
    unfold good at h
    obtain ⟨h1, h2, h3⟩ := goodL_flat xs m h
    refine ⟨by unfold flatD; exact h1, by unfold toPy; rw [PyData.plain]; exact h2, by unfold toPy; rw [PyData.depth]; omega⟩
  | .rl xs, 0, h => by unfold good at h; cases h
  | .rl xs, m + 1, h => by
    unfold good at h
    obtain ⟨h1, h2, h3⟩ := goodL_flat xs m h
    refine ⟨by unfold flatD; exact h1, by unfold toPy; rw [PyData.plain]; exact h2, by unfold toPy; rw [PyData.depth]; omega⟩
  | .bl _, _, h => by unfold good at h; cases h
  | .tx _, _, h => by unfold good at h; cases h
  | .ref _, _, h => by unfold good at h; cases h
  | .ty _, _, h => by unfold good at h; cases h
theorem goodL_flat : ∀ (ds : List D) (n : Nat), goodL ds n = true → flatDL ds = true ∧ PyData.plainAll (toPyL ds) = true ∧ PyData.depthAll (toPyL ds) ≤ n
  | [], n, _ => ⟨rfl, by unfold toPyL; rw [PyData.plainAll], by unfold toPyL; rw [PyData.depthAll]; omega⟩
  | x :: xs, n, h => by
    unfold goodL at h
    rw [Bool.and_eq_true] at h
    obtain ⟨h1, h2, h3⟩ := good_flat x n h.1
    obtain ⟨g1, g2, g3⟩ := goodL_flat xs n h.2
    refine ⟨by unfold flatDL; rw [h1, g1]; rfl, by unfold toPyL; rw [PyData.plainAll, h2, g2]; rfl, by unfold toPyL; rw [PyData.depthAll]; exact Nat.max_le.mpr ⟨h3, g3⟩⟩
end
mutual
theorem good_eqv : ∀ (x y : D) (n m : Nat), good x n = true → good y m = true → (PyData.eqv (toPy x) (toPy y) = true ↔ x = y)
  | .non, y, n, m, _, h => by
    cases y <;> first | (unfold good at h; cases h; done) | simp [toPy, PyData.eqv]
  | .int i, y, n, m, _, h => by
    cases y <;> first | (unfold good at h; cases h; done) | simp [toPy, PyData.eqv]
  | .str i, y, n, m, _, h => by
    cases y <;> first | (unfold good at h; cases h; done) | simp [toPy, PyData.eqv]
  | .tup xs, y, n, m, g, h => by
    cases n with
    | zero => unfold good at g; cases g
    | succ n =>
      cases y with
      | tup ys =>
        cases m with
        | zero => unfold good at h; cases h
        | succ m =>
          unfold good at g h
          simp only [toPy, PyData.eqv, D.tup.injEq]
          exact goodL_eqv xs ys n m g h
      | _ => first | (unfold good at h; cases h; done) | simp [toPy, PyData.eqv]
  | .rl xs, y, n, m, g, h => by
    cases n with
    | zero => unfold good at g; cases g
    | succ n =>
      cases y with
      | rl ys =>
        cases m with
        | zero => unfold good at h; cases h
        | succ m =>
          unfold good at g h
          simp only [toPy, PyData.eqv, D.rl.injEq]
          exact goodL_eqv xs ys n m g h
      | _ => first | (unfold good at h; cases h; done) | simp [toPy, PyData.eqv]
  | .bl _, _, _, _, h, _ => by unfold good at h; cases h
  | .tx _, _, _, _, h, _ => by unfold good at h; cases h
  | .ref _, _, _, _, h, _ => by unfold good at h; cases h
  | .ty _, _, _, _, h, _ => by unfold good at h; cases h
theorem goodL_eqv : ∀ (xs ys : List D) (n m : Nat), goodL xs n = true → goodL ys m = true → (PyData.eqvAll (toPyL xs) (toPyL ys) = true ↔ xs = ys)
  | [], ys, n, m, _, h => by cases ys <;> simp [toPyL, PyData.eqvAll]
  | x :: xs, ys, n, m, g, h => by
    cases ys with
    | nil => simp [toPyL, PyData.eqvAll]
    | cons y ys =>
      unfold goodL at g h
      rw [Bool.and_eq_true] at g h
      simp only [toPyL, PyData.eqvAll, Bool.and_eq_true, List.cons.injEq, good_eqv x y n m g.1 h.1, goodL_eqv xs ys n m g.2 h.2]
end
theorem good_ok {d : D} {n : Nat} (h : good d n = true) (hn : n ≤ 64) : okP (toPy d) = true := by
  obtain ⟨_, h2, h3⟩ := good_flat d n h
  unfold okP
  rw [h2, decide_eq_true (Nat.le_trans h3 hn)]
  rfl
theorem goodL_all {xs : List D} {n : Nat} : goodL xs n = true ↔ ∀ x ∈ xs, good x n = true := by
  induction xs with
  | nil => simp [goodL]
  | cons x xs ih => simp [goodL, ih]
theorem toPyL_map (xs : List D) : toPyL xs = xs.map toPy := by
  induction xs with
  | nil => rfl
  | cons x xs ih => rw [toPyL, ih]; rfl
section
variable {x y : D} {xs : List D} {M : Mem} {Q : QE} {n : Nat}
theorem dEqB_good {Qb : Bool → Prop} (hx : good x 64 = true) (hy : good y 64 = true) (h : ∀ b : Bool, (b = true ↔ x = y) → Qb b) : dEqB x y M Qb := by
  unfold dEqB
  cases e : scalD x y with
  | some b =>
    refine h b ?_
    cases x <;> cases y <;> simp only [scalD, Option.some.injEq, reduceCtorEq] at e <;> first | (subst e; simp; done) | (cases e; done) | (unfold good at hx; cases hx; done) | (unfold good at hy; cases hy; done)
  | none =>
    exact ⟨_, _, PD.of x (good_flat x _ hx).1, PD.of y (good_flat y _ hy).1, good_ok hx (Nat.le_refl _), good_ok hy (Nat.le_refl _), h _ (good_eqv x y _ _ hx hy)⟩
theorem dEq_good (hx : good x 64 = true) (hy : good y 64 = true) (h : ∀ b : Bool, (b = true ↔ x = y) → Q (.bl b) M) : dEq x y M Q := dEqB_good hx hy h
theorem dNe_good (hx : good x 64 = true) (hy : good y 64 = true) (h : ∀ b : Bool, (b = true ↔ x ≠ y) → Q (.bl b) M) : dNe x y M Q := dEqB_good hx hy fun b hb => h (!b) (by rw [ne_eq, ← hb]; cases b <;> simp)
theorem inSeq_good {Qb : Bool → Prop} (hx : good x 64 = true) (hy : goodL xs 63 = true) (h : ∀ b : Bool, (b = true ↔ x ∈ xs) → Qb b) : inSeq x xs M Qb := by
  refine .inr ⟨toPy x, toPyL xs, PD.of x (good_flat x _ hx).1, PDL.of xs (goodL_flat xs _ hy).1, good_ok hx (Nat.le_refl _), ?_, h _ ?_⟩
  · have : good (.tup xs) 64 = true := by unfold good; exact hy
    have := good_ok this (Nat.le_refl _)
    simpa [okP, PyData.plain, PyData.depth, toPy] using this
  · rw [toPyL_map, List.any_map, List.any_eq_true]
    constructor
    · rintro ⟨z, hz, e⟩
      have e' : PyData.eqv (toPy z) (toPy x) = true := e
      rw [good_eqv z x _ _ (goodL_all.mp hy z hz) hx] at e'
      exact e' ▸ hz
    · intro hz
      exact ⟨x, hz, (good_eqv x x _ _ hx hx).mpr rfl⟩
theorem dIn_tup {neg : Bool} (hx : good x 64 = true) (hy : goodL xs 63 = true) (h : ∀ b : Bool, (b = true ↔ x ∈ xs) → Q (.bl (if neg then !b else b)) M) : dIn neg x (.tup xs) M Q := inSeq_good hx hy h
end
end DL

/-! Readings at known memory; the hand that draws. -/
namespace DL
open PySem PySem.Spec PyProof.Rows L2
section
variable {M : Mem} {Q : QE} {a : Addr} {xs ys : List D} {k i j : Int} {v x y : D}
theorem dIx_ref (h : M a = some (.lst xs)) : dIx (.ref a) (.int k) M Q ↔ ∃ d, L2.atI xs k = some d ∧ Q d M := by
  constructor
  · rintro (⟨xs', i, d, h1, h2, h3, q⟩ | ⟨_, _, _, h1, _⟩ | ⟨_, _, _, _, h1, _⟩)
    · rw [h] at h1; cases h1; cases h2; exact ⟨d, h3, q⟩
    · rw [h] at h1; cases h1
    · rw [h] at h1; cases h1
  · rintro ⟨d, h1, q⟩
    exact .inl ⟨xs, k, d, h, rfl, h1, q⟩
theorem dIx_tup : dIx (.tup xs) (.int k) M Q ↔ ∃ d, L2.atI xs k = some d ∧ Q d M := Iff.rfl
theorem dIx_rl : dIx (.rl xs) (.int k) M Q ↔ ∃ d, L2.atI xs k = some d ∧ Q d M := Iff.rfl
theorem dIx_str {z : Str} : dIx (.str z) (.int k) M Q ↔ z.length ≤ sizeLine ∧ ∃ c, L2.atI z.cps.toList k = some c ∧ Q (.str ⟨#[c]⟩) M := Iff.rfl
theorem atI_0 {α : Type} {x : α} {r : List α} : L2.atI (x :: r) 0 = some x := by
  unfold L2.atI L2.ixN
  rw [if_pos (Int.le_refl 0), if_pos (by rw [List.length_cons]; omega)]
  rfl
theorem ixN_nat {n k : Nat} (h : k < n) : L2.ixN n (k : Int) = some k := by
  unfold L2.ixN
  rw [if_pos (by omega), if_pos (by omega)]
  rfl
theorem atI_nat {α : Type} {r : List α} {k : Nat} (h : k < r.length) : L2.atI r (k : Int) = some r[k] := by
  unfold L2.atI
  rw [ixN_nat h]
  exact List.getElem?_eq_getElem h
theorem atI_1 {α : Type} {x y : α} {r : List α} : L2.atI (x :: y :: r) 1 = some y := atI_nat (k := 1) (by simp)
theorem atI_2 {α : Type} {x y z : α} {r : List α} : L2.atI (x :: y :: z :: r) 2 = some z := atI_nat (k := 2) (by simp)
theorem dSet_ref (h : M a = some (.lst xs)) {R : Mem → Prop} : dSet (.ref a) (.int k) v M R ↔ ∃ j, L2.ixN xs.length k = some j ∧ R (wr M a (.lst (xs.set j v))) := by
  constructor
  · rintro (⟨xs', i, j, h1, h2, h3, q⟩ | ⟨_, _, h1, _⟩ | ⟨_, _, _, h1, _⟩)
    · rw [h] at h1; cases h1; cases h2; exact ⟨j, h3, q⟩
    · rw [h] at h1; cases h1
    · rw [h] at h1; cases h1
  · rintro ⟨j, h1, q⟩
    exact .inl ⟨xs, k, j, h, rfl, h1, q⟩
theorem set3_0 : ∀ {R : Mem → Prop} {x y z : D}, (∃ j, L2.ixN [x, y, z].length 0 = some j ∧ R (wr M a (.lst ([x, y, z].set j v)))) ↔ R (wr M a (.lst [v, y, z])) := fun {R x y z} =>
  ⟨fun ⟨j, h, q⟩ => by
    have : L2.ixN [x, y, z].length 0 = some 0 := ixN_nat (n := 3) (k := 0) (by omega)
    rw [this] at h; cases h; exact q, fun q => ⟨0, ixN_nat (n := 3) (k := 0) (by omega), q⟩⟩
theorem set3_2 : ∀ {R : Mem → Prop} {x y z : D}, (∃ j, L2.ixN [x, y, z].length 2 = some j ∧ R (wr M a (.lst ([x, y, z].set j v)))) ↔ R (wr M a (.lst [x, y, v])) := fun {R x y z} =>
  ⟨fun ⟨j, h, q⟩ => by
    have : L2.ixN [x, y, z].length 2 = some 2 := ixN_nat (n := 3) (k := 2) (by omega)
    rw [this] at h; cases h; exact q, fun q => ⟨2, ixN_nat (n := 3) (k := 2) (by omega), q⟩⟩
theorem lenD_ref (h : M a = some (.lst xs)) : rLenD [.ref a] M Q ↔ Q (.int xs.length) M := by
  constructor
  · rintro (⟨xs', h1, q⟩ | ⟨_, h1, _⟩)
    · rw [h] at h1; cases h1; exact q
    · rw [h] at h1; cases h1
  · intro q
    exact .inl ⟨xs, h, q⟩
theorem lenD_tup : rLenD [.tup xs] M Q ↔ Q (.int xs.length) M := Iff.rfl
theorem lenD_rl : rLenD [.rl xs] M Q ↔ Q (.int xs.length) M := Iff.rfl
theorem lenD_str {z : Str} : rLenD [.str z] M Q ↔ z.length ≤ sizeLine ∧ Q (.int z.length) M := Iff.rfl
theorem dI_int {C : Int → Int → Prop} {f : Int → Int → D} : dI C f (.int i) (.int j) M Q ↔ C i j ∧ Q (f i j) M := Iff.rfl
theorem ixN3_0 : L2.ixN 3 0 = some 0 := ixN_nat (n := 3) (k := 0) (by omega)
theorem ixN3_1 : L2.ixN 3 1 = some 1 := ixN_nat (n := 3) (k := 1) (by omega)
theorem ixN3_2 : L2.ixN 3 2 = some 2 := ixN_nat (n := 3) (k := 2) (by omega)
theorem dSl_str {z : Str} {lo hi : Option Int} : dSl (.str z) lo hi M Q ↔ z.length ≤ sizeLine ∧ Q (.str (cutS z lo hi)) M := Iff.rfl
theorem dTru_non {R : Bool → Prop} : dTru .non M R ↔ R false := Iff.rfl
theorem dTru_bl {b : Bool} {R : Bool → Prop} : dTru (.bl b) M R ↔ R b := Iff.rfl
theorem dTru_int {R : Bool → Prop} : dTru (.int i) M R ↔ R (i != 0) := Iff.rfl
theorem dTru_str {s : Str} {R : Bool → Prop} : dTru (.str s) M R ↔ s.length ≤ sizeLine ∧ R (!decide (s.length = 0)) := Iff.rfl
theorem dTru_tup {R : Bool → Prop} : dTru (.tup xs) M R ↔ R (!xs.isEmpty) := Iff.rfl
theorem dTru_rl {R : Bool → Prop} : dTru (.rl xs) M R ↔ R (!xs.isEmpty) := Iff.rfl
theorem rAbs_int : rAbs [.int i] M Q ↔ Q (.int (if i < 0 then -i else i)) M := Iff.rfl
theorem rMin_int : rMin2 [.int i, .int j] M Q ↔ Q (.int (if j < i then j else i)) M := Iff.rfl
theorem rMax_int : rMax2 [.int i, .int j] M Q ↔ Q (.int (if j > i then j else i)) M := Iff.rfl
theorem rMin_str {s t : Str} : rMin2 [.str s, .str t] M Q ↔ Q (.str (if ltS t s = true then t else s)) M := Iff.rfl
theorem rMax_str {s t : Str} : rMax2 [.str s, .str t] M Q ↔ Q (.str (if ltS s t = true then t else s)) M := Iff.rfl
theorem dMulA_int : dMulA (.int i) (.int j) M Q ↔ CM i j ∧ Q (.int (i * j)) M := Iff.rfl
theorem dIx_wr : dIx (.ref a) (.int k) (wr M a (.lst xs)) Q ↔ ∃ d, L2.atI xs k = some d ∧ Q d (wr M a (.lst xs)) := dIx_ref wr_same
theorem dSet_wr {R : Mem → Prop} : dSet (.ref a) (.int k) v (wr M a (.lst xs)) R ↔ ∃ j, L2.ixN xs.length k = some j ∧ R (wr (wr M a (.lst xs)) a (.lst (xs.set j v))) := dSet_ref wr_same
theorem lenD_wr : rLenD [.ref a] (wr M a (.lst xs)) Q ↔ Q (.int xs.length) (wr M a (.lst xs)) := lenD_ref wr_same
theorem dAdd_int : dAdd (.int i) (.int j) M Q ↔ Q (.int (i + j)) M := Iff.rfl
theorem dAdd_str {s t : Str} : dAdd (.str s) (.str t) M Q ↔ s.length + t.length ≤ sizeLine ∧ Q (.str (s ++ t)) M := Iff.rfl
theorem dAdd_tup : dAdd (.tup xs) (.tup ys) M Q ↔ xs.length + ys.length ≤ sizeLine ∧ Q (.tup (xs ++ ys)) M := Iff.rfl
theorem dIB_int {f : Int → Int → Bool} : dIB f (.int i) (.int j) M Q ↔ Q (.bl (f i j)) M := Iff.rfl
theorem dLt_int : dLt (.int i) (.int j) M Q ↔ Q (.bl (decide (i < j))) M := Iff.rfl
theorem dLt_str {s t : Str} : dLt (.str s) (.str t) M Q ↔ Q (.bl (ltS s t)) M := Iff.rfl
theorem dEq_int : dEq (.int i) (.int j) M Q ↔ Q (.bl (decide (i = j))) M := Iff.rfl
theorem dEq_str {s t : Str} : dEq (.str s) (.str t) M Q ↔ Q (.bl (decide (s = t))) M := Iff.rfl
theorem dNe_int : dNe (.int i) (.int j) M Q ↔ Q (.bl (!decide (i = j))) M := Iff.rfl
theorem dNe_str {s t : Str} : dNe (.str s) (.str t) M Q ↔ Q (.bl (!decide (s = t))) M := Iff.rfl
theorem cm_left (h : -(2 ^ 64) < i ∧ i < 2 ^ 64) : CM i j := .inl (.inl h)
theorem cm_right (h : -(2 ^ 64) < j ∧ j < 2 ^ 64) : CM i j := .inl (.inr h)
end
mutual
theorem good_mono' : ∀ (d : D) (n m : Nat), good d n = true → n ≤ m → good d m = true
  | .non, n, m, _, _ => rfl
  | .int _, n, m, _, _ => rfl
  | .str _, n, m, _, _ => rfl
  | .tup xs, 0, m, h, _ => by unfold good at h; cases h
  | .tup xs, n + 1, m, h, l => by
    cases m with
    | zero => omega
    | succ m =>
      unfold good at h ⊢
      exact goodL_mono' xs n m h (by omega)
  | .rl xs, 0, m, h, _ => by unfold good at h; cases h
  | .rl xs, n + 1, m, h, l => by
    cases m with
    | zero => omega
    | succ m =>
      unfold good at h ⊢
      exact goodL_mono' xs n m h (by omega)
  | .bl _, n, m, h, _ => by unfold good at h; cases h
  | .ref _, n, m, h, _ => by unfold good at h; cases h
  | .ty _, n, m, h, _ => by unfold good at h; cases h
theorem goodL_mono' : ∀ (ds : List D) (n m : Nat), goodL ds n = true → n ≤ m → goodL ds m = true
  | [], n, m, _, _ => rfl
  | d :: ds, n, m, h, l => by
    unfold goodL at h ⊢
    rw [Bool.and_eq_true] at h ⊢
    exact ⟨good_mono' d n m h.1 l, goodL_mono' ds n m h.2 l⟩
end
theorem good_mono {d : D} {n m : Nat} (h : good d n = true) (l : n ≤ m) : good d m = true := good_mono' d n m h l
def Sof (l : List DSp) : Nat → DSp := fun i => l.getD i (fun _ _ _ _ => False)
theorem signs_get {w : Str} {i : Nat} {d : D} (h : (signs w)[i]? = some d) : ∃ c, w.cps.toList[i]? = some c ∧ d = .str ⟨#[c]⟩ := by
  unfold signs at h
  rw [List.getElem?_map] at h
  cases e : w.cps.toList[i]? with
  | none => rw [e] at h; cases h
  | some c => rw [e] at h; cases h; exact ⟨c, rfl, rfl⟩
theorem signs_len {w : Str} : (signs w).length = w.length := by unfold signs; rw [List.length_map]; rfl
theorem dNe_empty {M : Mem} {p q : Addr} {xs : List D} {Q : QE} (h1 : M p = some (.lst xs)) (h2 : M q = some (.lst [])) (g : goodL xs 60 = true) (hq : Q (.bl (!xs.isEmpty)) M) : dNe (.ref p) (.ref q) M Q := by
  show dEqB (.ref p) (.ref q) M fun b => Q (.bl (!b)) M
  obtain ⟨f1, f2, f3⟩ := goodL_flat xs _ g
  refine ⟨.list (toPyL xs), .list [], .lst h1 (PDL.of xs f1), .lst h2 .nil, ?_, by decide +kernel, ?_⟩
  · have g2 : good (.tup xs) 64 = true := by
      unfold good
      exact goodL_all.mpr fun x hx => good_mono (n := 60) (m := 63) (goodL_all.mp g x hx) (by decide)
    simpa [okP, PyData.plain, PyData.depth, toPy] using good_ok g2 (Nat.le_refl _)
  · have : PyData.eqv (.list (toPyL xs)) (.list []) = xs.isEmpty := by
      cases xs with
      | nil => simp [toPyL, PyData.eqv, PyData.eqvAll]
      | cons => simp [toPyL, PyData.eqv, PyData.eqvAll]
    rw [this]
    exact hq
abbrev sg (c : Nat) : D := .str ⟨#[c]⟩
theorem cut_len {z : Str} {lo hi : Option Int} : (cutS z lo hi).length ≤ z.length := by
  have e : (cutS z lo hi).length = (((z.cps.toList.drop (HT.sIx z.length 0 lo)).take (HT.sIx z.length z.length hi - HT.sIx z.length 0 lo))).length := by
    show ((cutS z lo hi).cps).size = _
    unfold cutS
    simp
  rw [e, List.length_take, List.length_drop]
  have : z.cps.toList.length = z.length := rfl
  omega
theorem cut_mem {z : Str} {lo hi : Option Int} {c : Nat} (h : c ∈ (cutS z lo hi).cps.toList) : c ∈ z.cps.toList := by
  unfold cutS at h
  exact List.mem_of_mem_drop (List.mem_of_mem_take (by simpa using h))
theorem app_list (a b : Str) : (a ++ b).cps.toList = a.cps.toList ++ b.cps.toList := by
  show (a.cps ++ b.cps).toList = _
  simp
theorem app_len (a b : Str) : (a ++ b).length = a.length + b.length := strLen_append a b
theorem joinL_sing : ∀ cs : List Nat, TL.joinL [] (cs.map fun c => [c]) = cs
  | [] => rfl
  | [c] => rfl
  | c :: d :: r => by
    show [c] ++ ([] ++ TL.joinL [] ((d :: r).map fun c => [c])) = _
    rw [joinL_sing (d :: r)]
    rfl
theorem join_sing (cs : List Nat) : Txt.join (Str.ofString "") (cs.map fun c => (⟨#[c]⟩ : Str)) = ⟨cs.toArray⟩ := by
  have e0 : (Str.ofString "") = SX.S [] := by decide +kernel
  have e1 : (cs.map fun c => (⟨#[c]⟩ : Str)) = (cs.map fun c => [c]).map SX.S := by rw [List.map_map]; rfl
  rw [e0, e1, SX.join_S, joinL_sing]
theorem seqIx_nat {n k : Nat} (h : k < n) : seqIndex? (k : Int) n = some k := (L2.ixN_seq (ixN_nat h)).1
/-! ### the hand: three numbers in a list at h; at most T draws from its mixer so far -/
def Hand (M : Mem) (h : Addr) (T : Int) : Prop := ∃ a b t : Int, M h = some (.lst [.int a, .int b, .int t]) ∧ 0 ≤ a ∧ (0 ≤ b ∧ b < 2 ^ 61) ∧ (0 ≤ t ∧ t ≤ T)
/-- all but h stays -/
def Ex (h : Addr) (M M' : Mem) : Prop := ∀ a o, a ≠ h → M a = some o → M' a = some o
theorem Ex.refl {h : Addr} {M : Mem} : Ex h M M := fun _ _ _ e => e
theorem Ex.trans {h : Addr} {M M1 M2 : Mem} (p : Ex h M M1) (q : Ex h M1 M2) : Ex h M M2 := fun a o n e => q a o n (p a o n e)
theorem Ex.wr {h : Addr} {M : Mem} {o : MO} : Ex h M (wr M h o) := fun a u n e => by rw [wr_ne n]; exact e
theorem Ex.new {h p : Addr} {M : Mem} {o : MO} (hp : M p = none) : Ex h M (DL.wr M p o) := fun a u _ e => by
  have : a ≠ p := fun z => by subst z; rw [hp] at e; cases e
  rw [wr_ne this]; exact e
theorem Ex.wr' {h p : Addr} {M M' : Mem} {o : MO} (q : Ex h M M') (hp : M p = none) : Ex h M (DL.wr M' p o) := fun a u n e => by
  have : a ≠ p := fun z => by subst z; rw [hp] at e; cases e
  rw [wr_ne this]; exact q a u n e
theorem Ex.none {h p : Addr} {M M' : Mem} (q : Ex h M M') (hp : M' p = none) (hh : p ≠ h) : M p = none := by
  cases e : M p with
  | none => rfl
  | some o => rw [q p o hh e] at hp; cases hp
theorem Ex.sub {h : Addr} {M M' : Mem} (s : Sub M M') : Ex h M M' := fun a o _ e => s a o e
theorem Hand.mono {M : Mem} {h : Addr} {T T' : Int} (p : Hand M h T) (q : T ≤ T') : Hand M h T' := by
  obtain ⟨a, b, t, h1, h2, h3, h4⟩ := p
  exact ⟨a, b, t, h1, h2, h3, h4.1, Int.le_trans h4.2 q⟩
theorem Hand.new {M : Mem} {h p : Addr} {T : Int} {o : MO} (q : Hand M h T) (hp : M p = none) : Hand (wr M p o) h T := by
  obtain ⟨a, b, t, h1, z⟩ := q
  have : h ≠ p := fun e => by subst e; rw [hp] at h1; cases h1
  exact ⟨a, b, t, by rw [wr_ne this]; exact h1, z⟩
theorem Hand.wr {M : Mem} {h p : Addr} {T : Int} {o : MO} (q : Hand M h T) (hp : p ≠ h) : Hand (wr M p o) h T := by
  obtain ⟨a, b, t, h1, z⟩ := q
  exact ⟨a, b, t, by rw [wr_ne (fun e => hp e.symm)]; exact h1, z⟩
theorem Hand.sub {M M' : Mem} {h : Addr} {T : Int} (q : Hand M h T) (s : Sub M M') : Hand M' h T := by
  obtain ⟨a, b, t, h1, z⟩ := q
  exact ⟨a, b, t, s _ _ h1, z⟩
theorem Hand.ne {M : Mem} {h p : Addr} {T : Int} (q : Hand M h T) (hp : M p = none) : p ≠ h := by
  obtain ⟨a, b, t, h1, z⟩ := q
  exact fun e => by subst e; rw [hp] at h1; cases h1
theorem Hand.at {M : Mem} {h : Addr} {T : Int} (q : Hand M h T) : ∃ xs, M h = some (.lst xs) := by
  obtain ⟨a, b, t, h1, z⟩ := q
  exact ⟨_, h1⟩
end DL

/-! How long a tree's text is. -/
namespace DL
open PySem PySem.Spec PyProof.Rows L2
/-- may be shown, by at most n signs -/
def Shw (d : D) (n : Nat) : Prop := (toPy d).showable = true ∧ (toPy d).shown.length ≤ n
theorem shw_str {w : Str} {k : Nat} (h1 : w.length ≤ k) (h2 : ∀ c ∈ w.cps.toList, c < 200) : Shw (.str w) (10 * k + 2) := by
  refine ⟨by unfold toPy; rw [PyData.showable], ?_⟩
  unfold toPy
  rw [PyData.shown]
  have := PySem.StrLaws.reprText_len w fun c hc => Nat.lt_trans (h2 c hc) (by decide)
  omega
theorem tupleText_le (ts : List Str) : (tupleText ts).length ≤ piled ts + 3 := by
  unfold tupleText
  rw [strLen_append, strLen_append]
  have e1 : ((("(" : String) : Str)).length = 1 := rfl
  have e3 : ((if ts.length == 1 then ",)" else ")" : String) : Str).length ≤ 2 := by split <;> decide +kernel
  have e2 : (Str.join ", " ts).length ≤ piled ts := by
    cases ts with
    | nil => exact Nat.le_refl _
    | cons t r =>
      have := join_length_add (t :: r) (by simp)
      omega
  omega
theorem shw_all {xs : List D} {n : Nat} (h : ∀ x ∈ xs, Shw x n) : PyData.showableAll (toPyL xs) = true ∧ piled (PyData.shownAll (toPyL xs)) ≤ xs.length * (n + 2) := by
  induction xs with
  | nil => exact ⟨by unfold toPyL; rw [PyData.showableAll], by unfold toPyL; rw [PyData.shownAll]; exact Nat.zero_le _⟩
  | cons x xs ih =>
    obtain ⟨h1, h2⟩ := ih fun y hy => h y (List.mem_cons_of_mem _ hy)
    obtain ⟨g1, g2⟩ := h x List.mem_cons_self
    refine ⟨by unfold toPyL; rw [PyData.showableAll, g1, h1]; rfl, ?_⟩
    unfold toPyL
    rw [PyData.shownAll, piled_cons, List.length_cons, Nat.succ_mul]
    omega
theorem shw_tup {xs : List D} {n : Nat} (h : ∀ x ∈ xs, Shw x n) : Shw (.tup xs) (xs.length * (n + 2) + 3) := by
  obtain ⟨h1, h2⟩ := shw_all h
  refine ⟨by unfold toPy; rw [PyData.showable]; exact h1, ?_⟩
  unfold toPy
  rw [PyData.shown]
  have := tupleText_le (PyData.shownAll (toPyL xs))
  omega
theorem Shw.le {d : D} {n m : Nat} (h : Shw d n) (l : n ≤ m) : Shw d m := ⟨h.1, Nat.le_trans h.2 l⟩
/-- the text of a tree -/
def shD (d : D) : Str := (toPy d).shown
theorem rRepr_good {d : D} {n : Nat} {M : Mem} {Q : QE} (g : good d 64 = true) (s : Shw d n) (hn : n ≤ sizeLine) (q : Q (.str (shD d)) M) : rRepr [d] M Q := by
  obtain ⟨f1, f2, f3⟩ := good_flat d _ g
  exact ⟨toPy d, PD.of d f1, plain_nodict _ f2, s.1, Nat.le_trans s.2 hn, f3, q⟩
theorem rRepr_bools {a : Addr} {b c : Bool} {M : Mem} {Q : QE} (h : M a = some (.lst [.bl b, .bl c])) (q : Q (.str (PyData.list [.bool b, .bool c]).shown) M) : rRepr [.ref a] M Q :=
  ⟨.list [.bool b, .bool c], .lst h (.cons (.bl b) (.cons (.bl c) .nil)), by cases b <;> cases c <;> decide +kernel, by cases b <;> cases c <;> decide +kernel, by cases b <;> cases c <;> decide +kernel, by cases b <;> cases c <;> decide +kernel, q⟩
end DL

/-! Defs by their data; tables. -/
namespace DL
open PySem PySem.Spec PyProof.Rows L2
section
variable {P : Program} {w : World} {K : PySem.W.Frag} {mg : Str → Option Value} {base : Heap} {k k' : Nat}
theorem FnG.mono {f : Addr} {fd : FuncData} {ps : List Str} {sp : DSp} (F : FnG P w K mg base k f fd ps sp) (h : k ≤ k') : FnG P w K mg base k' f fd ps sp :=
  ⟨F.len, fun A outer s H args us vs ds M Q E QV XV hr => F.run A outer s H args us vs ds M Q E QV XV (hr.mono h)⟩
theorem GlobOk.mono {n : Str} {np : Nat} {ks : List Str} {sp : DSp} (h : GlobOk P w K mg base k n np ks sp) (l : k ≤ k') : GlobOk P w K mg base k' n np ks sp := by
  obtain ⟨fv, h1, h2, h3⟩ := h
  exact ⟨fv, h1, h2, h3.mono l⟩
theorem MethOk.mono {C : Addr} {m : Str} {np : Nat} {ks : List Str} {sp : DSp} (h : MethOk P w K mg base k C m np ks sp) (l : k ≤ k') : MethOk P w K mg base k' C m np ks sp := by
  obtain ⟨f, h1, h2, h3⟩ := h
  exact ⟨f, h1, h2, h3.mono l⟩
/-- a def of the text, as it stands -/
abbrev HasD (K : PySem.W.Frag) (d : He.DefD) (fd : FuncData) : Prop := FunD K d.name d.qual d.params d.body d.scope (d.dvs K) (d.kws K) (He.fAd K d.at_) fd
/-- the one reading that a body ends with: what is made may be forgotten -/
abbrev endB (Q : QE) : DEnds := { nx := fun _ M' => ∃ M2, Sub M2 M' ∧ Q .non M2, rt := fun d M' => ∃ M2, Sub M2 M' ∧ Q d M2 }
theorem mkG {d : He.DefD} {c : Cc} {ir : ISs} {ps : List Str} {S : Tb} {sp : DSp} {fd : FuncData} (h : HasD K d fd) (hs : d.scope = c.sc) (hsc : scB c ps = true) (hb : c.blk = false) (hk : chkSs ir c d.body = true) (len : ∀ ds M Q E, sp ds M Q E → ds.length = ps.length)
    (T : TabOk P w K mg base c S k) (law : ∀ ds M Q E, sp ds M Q E → wSs S ir (endB Q) E (startD c.N.length ds) M) : FnG P w K mg base (k + 1) (He.fAd K d.at_) fd ps sp := by
  obtain ⟨⟨oc, od, dV, kV, doc, pm, an, cdv, ct, osl, rfl, lk, hcd, _, _⟩, kp⟩ := h
  rw [hs] at lk ⊢
  exact fnG_chk ir lk hcd hsc hb hk len T law
/-- which of the values stand where -/
def gI {α : Type} (idx : List Nat) (xs : List α) : List α := idx.filterMap (xs[·]?)
/-- no defaults: n values by place, the others by name -/
theorem kbd_plain {x qual : Str} {params : Arguments} {body : List Stmt} {scope : Scope} {kws : List (Str × V)} {f : Addr} {fd : FuncData} {ps : List Str} (F : FunD K x qual params body scope [] kws f fd) (n : Nat) (ks : List Str) (idx : List Nat)
    (h : ∀ (kV doc pm : Value) (an : Option Addr) (cdv ct : Value) (us ws : List Value), us.length = n → ws.length = ks.length → bindArgs (PySem.W.fnOf x qual params body scope .none kV doc pm an cdv ct) ⟨us, ks.zip ws⟩ = pure (ps.zip (gI idx (us ++ ws)))) :
    KBd K fd ps n ks (fun ds cs => gI idx (ds ++ cs)) := by
  obtain ⟨oc, od, dV, kV, doc, pm, an, cdv, ct, osl, rfl, lk, hcd, hD, hK⟩ := F.ex
  rcases hD with ⟨_, rfl⟩ | ⟨e, _⟩
  · exact ⟨fun us ws => gI idx (us ++ ws), fun vs zs => gI idx (vs ++ zs), ⟨fun s us ws X l1 l2 => .of_eq (h kV doc pm an cdv ct us ws l1 l2), fun r1 r2 => vals_pick (r1.append r2) idx⟩, fun H ds vs cs zs l1 l2 _ _ => isL_pick (l1.append l2) idx⟩
  · exact absurd rfl e
/-- keyword-only defaults: ms those that are left out -/
theorem kbd_kwo {x qual : Str} {params : Arguments} {body : List Stmt} {scope : Scope} {kws : List (Str × V)} {f : Addr} {fd : FuncData} {ps : List Str} (F : FunD K x qual params body scope [] kws f fd) (n : Nat) (ks : List Str) (idx : List Nat) (ms : List (Str × V)) (dms : List D) (hk : kws ≠ []) (hms : ∀ q ∈ ms, q ∈ kws)
    (hd : ∀ H, IsL K H dms (ms.map (·.2)))
    (h : ∀ (D : Addr) (doc pm : Value) (an : Option Addr) (cdv ct : Value) (us mv ws : List Value), us.length = n → mv.length = ms.length → ws.length = ks.length →
      KwChain D ((ms.map (·.1)).zip mv) (bindArgs (PySem.W.fnOf x qual params body scope .none (.ref D) doc pm an cdv ct) ⟨us, ks.zip ws⟩) (ps.zip (gI idx (us ++ ws ++ mv)))) :
    KBd K fd ps n ks (fun ds cs => gI idx (ds ++ cs ++ dms)) := by
  obtain ⟨mv, kb⟩ := F.kbinds0 n ks ms (fun us mz ws => gI idx (us ++ ws ++ mz)) hk hms (fun r1 r2 r3 => vals_pick ((r1.append r3).append r2) idx) h
  exact ⟨_, _, kb, fun H ds vs cs zs l1 l2 _ _ => isL_pick ((l1.append l2).append (hd H)) idx⟩
def noSp : DSp := fun _ _ _ _ => False
def tb (gs ms : List DSp) (cs : List Addr) : Tb := ⟨fun i => gs.getD i noSp, fun i => ms.getD i noSp, fun i => cs.getD i 0⟩
def AllG (P : Program) (w : World) (K : PySem.W.Frag) (mg : Str → Option Value) (base : Heap) (k : Nat) : List (Str × Nat × List Str) → List DSp → Prop
  | [], [] => True
  | p :: l, s :: fs => okName p.1 = true ∧ GlobOk P w K mg base k p.1 p.2.1 p.2.2 s ∧ AllG P w K mg base k l fs
  | _, _ => False
theorem AllG.get : ∀ {l : List (Str × Nat × List Str)} {fs : List DSp}, AllG P w K mg base k l fs → ∀ i n np ks, l[i]? = some (n, np, ks) → okName n = true ∧ GlobOk P w K mg base k n np ks (fs.getD i noSp)
  | [], _, _, i, n, np, ks, h => by simp at h
  | p :: l, [], H, i, n, np, ks, h => H.elim
  | p :: l, s :: fs, H, 0, n, np, ks, h => by
    cases h
    exact ⟨H.1, H.2.1⟩
  | p :: l, s :: fs, H, i + 1, n, np, ks, h => AllG.get H.2.2 i n np ks h
def AllM (P : Program) (w : World) (K : PySem.W.Frag) (mg : Str → Option Value) (base : Heap) (k : Nat) (cs : List Addr) : List (Nat × Str × Nat × List Str) → List DSp → Prop
  | [], [] => True
  | p :: l, s :: fs => MethOk P w K mg base k (cs.getD p.1 0) p.2.1 p.2.2.1 p.2.2.2 s ∧ AllM P w K mg base k cs l fs
  | _, _ => False
theorem AllM.get {cs : List Addr} : ∀ {l : List (Nat × Str × Nat × List Str)} {fs : List DSp}, AllM P w K mg base k cs l fs → ∀ i ci m np ks, l[i]? = some (ci, m, np, ks) → MethOk P w K mg base k (cs.getD ci 0) m np ks (fs.getD i noSp)
  | [], _, _, i, ci, m, np, ks, h => by simp at h
  | p :: l, [], H, i, ci, m, np, ks, h => H.elim
  | p :: l, s :: fs, H, 0, ci, m, np, ks, h => by
    cases h
    exact H.1
  | p :: l, s :: fs, H, i + 1, ci, m, np, ks, h => AllM.get H.2 i ci m np ks h
def CsOk2 (mg : Str → Option Value) : List (Str × CD) → Prop
  | [] => True
  | p :: l => okName p.1 = true ∧ (∃ u, mg p.1 = some u ∧ RelV p.2.v u) ∧ CsOk2 mg l
theorem CsOk2.get : ∀ {l : List (Str × CD)}, CsOk2 mg l → ∀ n d, l.lookup n = some d → okName n = true ∧ ∃ u, mg n = some u ∧ RelV d.v u
  | [], _, n, d, h => by cases h
  | (m, c) :: l, H, n, d, h => by
    rw [List.lookup_cons] at h
    by_cases e : n = m
    · subst e
      simp at h
      subst h
      exact ⟨H.1, H.2.1⟩
    · have : (n == m) = false := by simpa using e
      rw [this] at h
      exact CsOk2.get H.2.2 n d h
def FldOk (K : PySem.W.Frag) (cs : List Addr) : List (Nat × Str) → Prop
  | [] => True
  | p :: l => (Cls K (cs.getD p.1 0) ∧ NoAttr K (cs.getD p.1 0) p.2) ∧ FldOk K cs l
theorem FldOk.get {cs : List Addr} : ∀ {l : List (Nat × Str)}, FldOk K cs l → ∀ ci f, (ci, f) ∈ l → Cls K (cs.getD ci 0) ∧ NoAttr K (cs.getD ci 0) f
  | [], _, ci, f, h => by cases h
  | p :: l, H, ci, f, h => by
    rcases List.mem_cons.mp h with e | h
    · rw [← e] at H; exact H.1
    · exact FldOk.get H.2 ci f h
theorem tab_of {c : Cc} {gs ms : List DSp} {cs : List Addr} (free : ∀ n ∈ freeNames, mg n = none) (hcs : CsOk2 mg c.cs) (hg : AllG P w K mg base k c.cals gs) (hm : AllM P w K mg base k cs c.mths ms) (hf : FldOk K cs c.flds) : TabOk P w K mg base c (tb gs ms cs) k :=
  ⟨free, hcs.get, hg.get, hm.get, hf.get⟩
/-- a def that is called by its global name -/
theorem glob_of {d : He.DefD} {fd : FuncData} {ps : List Str} {sp sp' : DSp} {n : Nat} {ks : List Str} {gD : List D → List D → List D} (h : HasD K d fd) (hm : mg d.name = some (.ref (He.fAd K d.at_))) (F : FnG P w K mg base k (He.fAd K d.at_) fd ps sp) (B : KBd K fd ps n ks gD)
    (imp : ∀ ds cs M Q E, ds.length = n → cs.length = ks.length → sp' (ds ++ cs) M Q E → sp (gD ds cs) M Q E) : GlobOk P w K mg base k d.name n ks sp' := ⟨_, hm, h.kp, callOk_fn F B imp⟩
/-- .. by place alone -/
theorem glob_plain {d : He.DefD} {fd : FuncData} {ps : List Str} {sp : DSp} (h : HasD K d fd) (hd : d.dfl = []) (hm : mg d.name = some (.ref (He.fAd K d.at_))) (F : FnG P w K mg base k (He.fAd K d.at_) fd ps sp)
    (hb : ∀ (kV doc pm : Value) (an : Option Addr) (cdv ct : Value) (us ws : List Value), us.length = ps.length → ws.length = 0 → bindArgs (PySem.W.fnOf d.name d.qual d.params d.body d.scope .none kV doc pm an cdv ct) ⟨us, [].zip ws⟩ = pure (ps.zip us)) : GlobOk P w K mg base k d.name ps.length [] sp := by
  have h' : FunD K d.name d.qual d.params d.body d.scope [] (d.kws K) (He.fAd K d.at_) fd := by
    have e : d.dvs K = [] := by unfold He.DefD.dvs; rw [hd]; rfl
    rw [← e]; exact h
  refine glob_of h hm F (B := kbd_plain h' ps.length [] (List.range ps.length) fun kV doc pm an cdv ct us ws l1 l2 => ?_) fun ds cs M Q E l1 l2 q => ?_
  · have : ws = [] := List.length_eq_zero_iff.mp l2
    subst this
    rw [hb kV doc pm an cdv ct us [] l1 rfl, List.append_nil]
    unfold gI
    rw [← l1, range_all]
  · have : cs = [] := List.length_eq_zero_iff.mp l2
    subst this
    unfold gI
    rw [List.append_nil] at q ⊢
    rw [← l1, range_all]
    exact q
theorem has_of {h : Heap} {fa : List He.Fa} {fn : List He.DefD} {d : He.DefD} (c : He.SaysD fa fn K) (hd : d ∈ fn) : ∃ fd, HasD K d fd := c.defs hd
theorem free_of {h : Heap} {fa : List He.Fa} {fn : List He.DefD} (X : K.In h) (G : h.Ns mainGlobals mg) (c : He.SaysD fa fn K) (hf : ∀ n ∈ freeNames, He.Fa.free n ∈ fa) : ∀ n ∈ freeNames, mg n = none := fun n hn => He.free_ok X G (c.facts (hf n hn))
end
end DL

/-! Loops and comprehensions over typed rows. -/
namespace DL
open PySem PySem.Spec PyProof.Rows L2
section
variable {α : Type} {w : DTI} {gt : DTG} {tt : DTT} {te tk tv : DTE} {tb : DTS} {vs vs1 : List Nat} {e : Sl} {M : Mem} {E : EX}
theorem drop_cons {xs : List α} {i : Nat} {a : α} (h : xs[i]? = some a) : xs.drop i = a :: xs.drop (i + 1) := by
  obtain ⟨h1, h2⟩ := List.getElem?_eq_some_iff.mp h
  rw [List.drop_eq_getElem_cons h1, h2]
/-- a comprehension, by what holds of the rest of the row -/
theorem lcI {Q : List D → Mem → Prop} (xs : List α) (toD : α → D) (I : List α → List D → Mem → Prop) (hw : ∀ R, (∀ live, (∀ r acc M', I r acc M' → live M') → R ⟨xs.map toD, live⟩ M) → w e M R E) (h0 : I xs [] M)
    (hb : ∀ a r acc M', (∃ pre, xs = pre ++ a :: r) → I (a :: r) acc M' → gt (toD a) (wipeS e vs) M' (fun e2 M2 => tt e2 M2 (fun b M3 => if b = true then te e2 M3 (fun y M4 => acc.length < sizeLine ∧ I r (acc ++ [y]) M4) EF else I r acc M3) EF) EF)
    (q : ∀ acc M', I [] acc M' → Q acc M') : dLc w gt tt te vs e M Q E := by
  refine hw _ fun live hl => ⟨fun i acc M' => I (xs.drop i) acc M', h0, fun i d acc M' hd hI => ⟨hl _ _ _ hI, ?_⟩, fun acc M' hI => ⟨hl _ _ _ hI, q acc M' ?_⟩⟩
  · obtain ⟨a, ha, rfl⟩ : ∃ a, xs[i]? = some a ∧ d = toD a := by
      have hd : (xs.map toD)[i]? = some d := hd
      rw [List.getElem?_map] at hd
      cases h : xs[i]? with
      | none => rw [h] at hd; cases hd
      | some a => rw [h] at hd; exact ⟨a, rfl, (Option.some.inj hd).symm⟩
    have e1 := drop_cons ha
    have hI : I (xs.drop i) acc M' := hI
    rw [e1] at hI
    exact hb a _ acc M' ⟨xs.take i, by rw [← e1, List.take_append_drop]⟩ hI
  · have hI : I (xs.drop (xs.map toD).length) acc M' := hI
    rw [List.length_map, List.drop_length] at hI
    exact hI
/-- .. that changes nothing -/
theorem lcT {Q : List D → Mem → Prop} (xs : List α) (toD : α → D) (c : α → Bool) (f : α → D) (hw : ∀ R, (∀ live, (live M) → R ⟨xs.map toD, live⟩ M) → w e M R E) (hz : xs.length ≤ sizeLine)
    (hb : ∀ a ∈ xs, ∀ (K : D → Mem → Prop) (N : Mem → Prop), (c a = true → K (f a) M) → (c a = false → N M) → gt (toD a) (wipeS e vs) M (fun e2 M2 => tt e2 M2 (fun b M3 => if b = true then te e2 M3 K EF else N M3) EF) EF)
    (q : Q ((xs.filter c).map f) M) : dLc w gt tt te vs e M Q E := by
  refine lcI xs toD (fun r acc M' => M' = M ∧ ∃ pre, xs = pre ++ r ∧ acc = (pre.filter c).map f) (fun R h => hw R fun live hl => h live fun r acc M' ⟨e, _⟩ => by rw [e]; exact hl) ⟨rfl, [], rfl, rfl⟩ ?_ ?_
  · rintro a r acc M' hp ⟨rfl, pre, e1, rfl⟩
    have ha : a ∈ xs := by rw [e1]; simp
    refine hb a ha _ _ (fun hc => ⟨?_, rfl, pre ++ [a], by rw [e1]; simp, by rw [List.filter_append, List.filter_cons_of_pos hc]; simp⟩) fun hc => ⟨rfl, pre ++ [a], by rw [e1]; simp, by rw [List.filter_append, List.filter_cons_of_neg (by rw [hc]; decide)]; simp⟩
    have h1 : ((pre.filter c).map f).length ≤ pre.length := by rw [List.length_map]; exact List.length_filter_le _ _
    have h2 : xs.length = pre.length + (r.length + 1) := by rw [e1]; simp
    omega
  · rintro acc M' ⟨rfl, pre, e1, rfl⟩
    rw [List.append_nil] at e1
    rw [← e1]; exact q
/-- all([..]), any([..]) of tests that change nothing -/
theorem allT {Q : QE} (xs : List α) (toD : α → D) (p : α → Bool) (hw : ∀ R, (∀ live, (live M) → R ⟨xs.map toD, live⟩ M) → w e M R E) (hz : xs.length ≤ sizeLine)
    (hb : ∀ a ∈ xs, ∀ (K : D → Mem → Prop), K (.bl (p a)) M → gt (toD a) (wipeS e vs) M (fun e2 M2 => te e2 M2 K EF) EF) (q : Q (.bl (xs.all p)) M) : dTmp (tBools fun bs => bs.all id) (dLc w gt dYes te vs) e M Q E := by
  refine lcT xs toD (fun _ => true) (fun a => .bl (p a)) hw hz (fun a ha K N h1 _ => hb a ha K (h1 rfl)) ⟨xs.map p, by rw [List.map_map, List.filter_eq_self.mpr (fun _ _ => rfl)]; rfl, ?_⟩
  have e : (xs.map p).all id = xs.all p := by rw [List.all_map]; rfl
  show Q (.bl ((xs.map p).all id)) M
  rw [e]; exact q
theorem anyT {Q : QE} (xs : List α) (toD : α → D) (p : α → Bool) (hw : ∀ R, (∀ live, (live M) → R ⟨xs.map toD, live⟩ M) → w e M R E) (hz : xs.length ≤ sizeLine)
    (hb : ∀ a ∈ xs, ∀ (K : D → Mem → Prop), K (.bl (p a)) M → gt (toD a) (wipeS e vs) M (fun e2 M2 => te e2 M2 K EF) EF) (q : Q (.bl (xs.any p)) M) : dTmp (tBools fun bs => bs.any id) (dLc w gt dYes te vs) e M Q E := by
  refine lcT xs toD (fun _ => true) (fun a => .bl (p a)) hw hz (fun a ha K N h1 _ => hb a ha K (h1 rfl)) ⟨xs.map p, by rw [List.map_map, List.filter_eq_self.mpr (fun _ _ => rfl)]; rfl, ?_⟩
  have e : (xs.map p).any id = xs.any p := by rw [List.any_map]; rfl
  show Q (.bl ((xs.map p).any id)) M
  rw [e]; exact q
/-- a for, by what holds of the rest of the row -/
theorem forI {Dn : DEnds} (xs : List α) (toD : α → D) (W : List α → Sl → Mem → Prop) (hw : ∀ R, (∀ live, (∀ r e' M', W r e' M' → live M') → R ⟨xs.map toD, live⟩ M) → w e M R E) (h0 : W xs e M)
    (hb : ∀ a r e' M', (∃ pre, xs = pre ++ a :: r) → W (a :: r) e' M' → gt (toD a) e' M' (fun e2 M2 => tb ⟨W r, Dn.rt, Dn.nx, W r⟩ E e2 M2) E)
    (q : ∀ e' M', W [] e' M' → Dn.nx e' M') : dFor w gt tb Dn E e M := by
  refine hw _ fun live hl => ⟨fun i e' M' => W (xs.drop i) e' M', h0, fun i d e' M' hd hI => ⟨hl _ _ _ hI, ?_⟩, fun e' M' hI => ⟨hl _ _ _ hI, q e' M' ?_⟩⟩
  · obtain ⟨a, ha, rfl⟩ : ∃ a, xs[i]? = some a ∧ d = toD a := by
      have hd : (xs.map toD)[i]? = some d := hd
      rw [List.getElem?_map] at hd
      cases h : xs[i]? with
      | none => rw [h] at hd; cases hd
      | some a => rw [h] at hd; exact ⟨a, rfl, (Option.some.inj hd).symm⟩
    have e1 := drop_cons ha
    have hI : W (xs.drop i) e' M' := hI
    rw [e1] at hI
    exact hb a _ e' M' ⟨xs.take i, by rw [← e1, List.take_append_drop]⟩ hI
  · have hI : W (xs.drop (xs.map toD).length) e' M' := hI
    rw [List.length_map, List.drop_length] at hI
    exact hI
/-- a dict's comprehension that changes nothing -/
theorem dcT {Q : List (Key × D) → Mem → Prop} (xs : List α) (toD : α → D) (kf : α → Key) (f : α → D) (hw : ∀ R, (∀ live, (live M) → R ⟨xs.map toD, live⟩ M) → w e M R E) (hz : xs.length ≤ sizeLine)
    (hb : ∀ a ∈ xs, ∀ (K : D → D → Mem → Prop), K (keyV (kf a)) (f a) M → gt (toD a) (wipeS e vs) M (fun e2 M2 => tk e2 M2 (fun y M3 => tv e2 M3 (fun z M4 => K y z M4) EF) EF) EF)
    (q : Q (mergeG [] (xs.map fun a => (kf a, f a))) M) : dDc w gt dYes tk tv vs e M Q E := by
  refine hw _ fun live hl => ⟨fun i acc M' => M' = M ∧ acc = mergeG [] ((xs.take i).map fun a => (kf a, f a)), ⟨rfl, rfl⟩, fun i d acc M' hd ⟨e1, e2⟩ => ⟨by rw [e1]; exact hl, ?_⟩, fun acc M' ⟨e1, e2⟩ => ⟨by rw [e1]; exact hl, ?_⟩⟩
  · subst e1
    obtain ⟨a, ha, rfl⟩ : ∃ a, xs[i]? = some a ∧ d = toD a := by
      have hd : (xs.map toD)[i]? = some d := hd
      rw [List.getElem?_map] at hd
      cases h : xs[i]? with
      | none => rw [h] at hd; cases hd
      | some a => rw [h] at hd; exact ⟨a, rfl, (Option.some.inj hd).symm⟩
    refine hb a (List.mem_of_getElem? ha) (fun y z M5 => acc.length < sizeLine ∧ ∃ k, keyD y = some k ∧ _ ∧ _) ⟨?_, kf a, keyD_V _, rfl, ?_⟩
    · have hlt := (List.getElem?_eq_some_iff.mp ha).1
      have : ∀ (more kvs : List (Key × D)), (mergeG kvs more).length ≤ kvs.length + more.length := by
        intro more
        induction more with
        | nil => intro kvs; simp [mergeG]
        | cons p r ih =>
          intro kvs
          have := ih (putG kvs p.1 p.2)
          have h2 : (putG kvs p.1 p.2).length ≤ kvs.length + 1 := by unfold putG; split <;> simp
          show (mergeG (putG kvs p.1 p.2) r).length ≤ _
          rw [List.length_cons]; omega
      have := this ((xs.take i).map fun a => (kf a, f a)) []
      rw [e2]
      rw [List.length_map, List.length_take, List.length_nil] at this
      omega
    · rw [e2, List.take_add_one, ha]
      simp [mergeG]
  · subst e1
    subst e2
    have : ((xs.map toD).length) = xs.length := List.length_map _
    show Q (mergeG [] ((xs.take (xs.map toD).length).map fun a => (kf a, f a))) M'
    rw [this, List.take_length]
    exact q
end
end DL

/-! More readings at known values. -/
namespace DL
open PySem PySem.Spec PyProof.Rows L2
section
variable {M : Mem} {Q : QE} {x : D} {xs : List D} {i : Int} {b c : Bool} {s z : Str}
theorem dIs_non {neg : Bool} : dIs neg x .non M Q ↔ Q (.bl (if neg then !isNon x else isNon x)) M := Iff.rfl
theorem dIs_bl {neg : Bool} : dIs neg (.bl b) (.bl c) M Q ↔ Q (.bl (if neg then !decide (b = c) else decide (b = c))) M := Iff.rfl
theorem dIn_str1 {neg : Bool} {k : Nat} : dIn neg (.str ⟨#[k]⟩) (.str z) M Q ↔ Q (.bl (if neg then !decide (k ∈ z.cps.toList) else decide (k ∈ z.cps.toList))) M := by
  constructor
  · rintro ⟨c, e, q⟩
    injection e with e
    injection e with e
    have : k = c := by simpa using e
    subst this
    exact q
  · exact fun q => ⟨k, rfl, q⟩
theorem isi_of {T : BTy} {Tn : String} {r : Bool} (h : hasTy M x Tn) (e : kitB Tn T.nm = some r) : rIsiD [x, .ty T.nm] M Q ↔ Q (.bl r) M := by
  constructor
  · rintro ⟨T', h', b', e', q⟩
    have : T' = Tn := by
      cases x with
      | ref a =>
        rcases h with ⟨rfl, xs, h⟩ | ⟨rfl, kvs, h⟩ <;> rcases h' with ⟨rfl, xs', h'⟩ | ⟨rfl, kvs', h'⟩ <;> first | rfl | (rw [h] at h'; cases h')
      | _ => exact Option.some.inj (h'.symm.trans h)
    subst this
    rw [e] at e'
    cases e'
    exact q
  · exact fun q => ⟨Tn, h, r, e, q⟩
theorem isi_str {T : BTy} : rIsiD [.str s, .ty T.nm] M Q ↔ Q (.bl (match T with | .str => true | _ => false)) M := by
  cases T <;> exact isi_of (Tn := "str") rfl (by decide +kernel)
theorem isi_tup {T : BTy} : rIsiD [.tup xs, .ty T.nm] M Q ↔ Q (.bl (match T with | .tuple => true | _ => false)) M := by
  cases T <;> exact isi_of (Tn := "tuple") rfl (by decide +kernel)
theorem isi_tx {T : BTy} : rIsiD [.tx xs, .ty T.nm] M Q ↔ Q (.bl (match T with | .tuple => true | _ => false)) M := by
  cases T <;> exact isi_of (Tn := "tuple") rfl (by decide +kernel)
theorem isi_rl {T : BTy} : rIsiD [.rl xs, .ty T.nm] M Q ↔ Q (.bl (match T with | .list => true | _ => false)) M := by
  cases T <;> exact isi_of (Tn := "list") rfl (by decide +kernel)
theorem isi_int {T : BTy} : rIsiD [.int i, .ty T.nm] M Q ↔ Q (.bl (match T with | .int => true | _ => false)) M := by
  cases T <;> exact isi_of (Tn := "int") rfl (by decide +kernel)
theorem isi_bl {T : BTy} : rIsiD [.bl b, .ty T.nm] M Q ↔ Q (.bl (match T with | .int => true | .bool => true | _ => false)) M := by
  cases T <;> exact isi_of (Tn := "bool") rfl (by decide +kernel)
theorem isi_non {T : BTy} : rIsiD [.non, .ty T.nm] M Q ↔ Q (.bl false) M := by
  cases T <;> exact isi_of (Tn := "NoneType") rfl (by decide +kernel)
end
end DL

/-! Words in rows and dicts; equality of trees. -/
namespace DL
open PySem PySem.Spec PyProof.Rows L2
section
variable {M : Mem} {Q : QE} {x y : D} {xs ys : List D} {i : Int} {w : Str} {ws : List Str} {a : Addr} {neg : Bool}
theorem goodL_strs {n : Nat} : goodL (ws.map D.str) n = true := goodL_all.mpr fun x hx => by
  obtain ⟨z, _, rfl⟩ := List.mem_map.mp hx
  rfl
theorem mem_strs : D.str w ∈ ws.map D.str ↔ w ∈ ws := by
  constructor
  · intro h
    obtain ⟨z, hz, e⟩ := List.mem_map.mp h
    injection e with e
    exact e ▸ hz
  · exact fun h => List.mem_map_of_mem h
theorem in_strs (q : Q (.bl (if neg then !decide (w ∈ ws) else decide (w ∈ ws))) M) : dIn neg (.str w) (.tup (ws.map D.str)) M Q :=
  dIn_tup (x := .str w) (xs := ws.map D.str) rfl goodL_strs fun b hb => by
    have : b = decide (w ∈ ws) := by rw [Bool.eq_iff_iff, hb, decide_eq_true_eq, mem_strs]
    rw [this]; exact q
theorem in_rl (q : Q (.bl (if neg then !decide (w ∈ ws) else decide (w ∈ ws))) M) : dIn neg (.str w) (.rl (ws.map D.str)) M Q := by
  show inSeq (.str w) (ws.map D.str) M fun b => Q (.bl (if neg then !b else b)) M
  refine inSeq_good (x := .str w) (xs := ws.map D.str) rfl goodL_strs fun b hb => ?_
  have : b = decide (w ∈ ws) := by rw [Bool.eq_iff_iff, hb, decide_eq_true_eq, mem_strs]
  rw [this]; exact q
theorem dIn_dict {kvs : List (Key × D)} {k : Key} (h : M a = some (.dK kvs)) (hk : keyD x = some k) : dIn neg x (.ref a) M Q ↔ Q (.bl (if neg then !(valG kvs k).isSome else (valG kvs k).isSome)) M := by
  constructor
  · rintro (⟨xs, h', _⟩ | ⟨kvs', k', h', hk', q⟩ | ⟨kvs', k', ks, h', _⟩)
    · rw [h] at h'; cases h'
    · rw [h] at h'
      cases h'
      rw [hk] at hk'
      cases hk'
      exact q
    · rw [h] at h'; cases h'
  · exact fun q => .inr (.inl ⟨kvs, k, h, hk, q⟩)
theorem dIx_dict {kvs : List (Key × D)} {k : Key} {d : D} (h : M a = some (.dK kvs)) (hk : keyD x = some k) (hv : valG kvs k = some d) : dIx (.ref a) x M Q ↔ Q d M := by
  constructor
  · rintro (⟨xs, i, d', h', _⟩ | ⟨kvs', k', d', h', hk', hv', q⟩ | ⟨kvs', k', ks, d', h', _⟩)
    · rw [h] at h'; cases h'
    · rw [h] at h'
      cases h'
      rw [hk] at hk'
      cases hk'
      rw [hv] at hv'
      cases hv'
      exact q
    · rw [h] at h'; cases h'
  · exact fun q => .inr (.inl ⟨kvs, k, d, h, hk, hv, q⟩)
theorem mGet1 {kvs : List (Key × D)} {k : Key} (h : M a = some (.dK kvs)) (hk : keyD x = some k) : mGet (.ref a) [x] M Q ↔ Q ((valG kvs k).getD .non) M := by
  constructor
  · rintro (⟨kvs', k', h', hk', q⟩ | ⟨kvs', k', ks, h', _⟩)
    · rw [h] at h'
      cases h'
      rw [hk] at hk'
      cases hk'
      exact q
    · rw [h] at h'; cases h'
  · exact fun q => .inl ⟨kvs, k, h, hk, q⟩
theorem mGet2 {kvs : List (Key × D)} {k : Key} (h : M a = some (.dK kvs)) (hk : keyD x = some k) : mGet (.ref a) [x, y] M Q ↔ Q ((valG kvs k).getD y) M := by
  constructor
  · rintro (⟨kvs', k', h', hk', q⟩ | ⟨kvs', k', ks, h', _⟩)
    · rw [h] at h'
      cases h'
      rw [hk] at hk'
      cases hk'
      exact q
    · rw [h] at h'; cases h'
  · exact fun q => .inl ⟨kvs, k, h, hk, q⟩
theorem dEq_tup0 (g : goodL xs 63 = true) (q : Q (.bl xs.isEmpty) M) : dEq (.tup xs) (.tup []) M Q := by
  refine dEq_good (x := .tup xs) (y := .tup []) (by unfold good; exact g) (by unfold good goodL; rfl) fun b hb => ?_
  have : b = xs.isEmpty := by
    rw [Bool.eq_iff_iff, hb, List.isEmpty_iff]
    constructor
    · intro h; injection h
    · intro h; rw [h]
  rw [this]; exact q
theorem dEq_rl0 (g : goodL xs 63 = true) (q : Q (.bl xs.isEmpty) M) : dEq (.rl xs) (.rl []) M Q := by
  refine dEq_good (x := .rl xs) (y := .rl []) (by unfold good; exact g) (by unfold good goodL; rfl) fun b hb => ?_
  have : b = xs.isEmpty := by
    rw [Bool.eq_iff_iff, hb, List.isEmpty_iff]
    constructor
    · intro h; injection h
    · intro h; rw [h]
  rw [this]; exact q
theorem dNe_rl0 (g : goodL xs 63 = true) (q : Q (.bl (!xs.isEmpty)) M) : dNe (.rl xs) (.rl []) M Q := by
  refine dNe_good (x := .rl xs) (y := .rl []) (by unfold good; exact g) (by unfold good goodL; rfl) fun b hb => ?_
  have : b = !xs.isEmpty := by
    rw [Bool.eq_iff_iff, hb, Bool.not_eq_true', List.isEmpty_eq_false_iff, ne_eq, ne_eq]
    constructor
    · intro h e; exact h (by rw [e])
    · intro h e; injection e with e; exact h e
  rw [this]; exact q
theorem keysD_strs : keysD (ws.map D.str) = some (ws.map Sum.inr) := by
  induction ws with
  | nil => rfl
  | cons z zs ih => simp only [List.map_cons, keysD, keyD, ih]
theorem ddup_inr {ws : List Str} (h : ws.Nodup) : (ddup (ws.map Sum.inr : List Key)).length = ws.length := by
  have h' : (ws.map Sum.inr : List Key).Nodup := List.pairwise_map.mpr (h.imp fun ne e => ne (by injection e))
  rw [ddup_len.mpr h', List.length_map]
end
end DL

/-! Two clauses over typed rows; repr of trees with exact tuples. -/
namespace DL
open PySem PySem.Spec PyProof.Rows L2
section
variable {α β : Type} {w w1 : DTI} {gt gt1 : DTG} {tt tt1 : DTT} {te tk tv : DTE} {vs vs1 : List Nat} {e : Sl} {M : Mem} {E : EX}
/-- the second clause's turns -/
def In2 (gt1 : DTG) (tt1 : DTT) (te : DTE) (vs1 : List Nat) (e2 : Sl) (acc : List D) (J : List D → Mem → Prop) : Src → Mem → Prop := fun src1 M4 => ∃ I1 : Nat → List D → Mem → Prop, I1 0 acc M4 ∧
  (∀ j d1 acc1 M5, src1.items[j]? = some d1 → I1 j acc1 M5 → src1.live M5 ∧ gt1 d1 (wipeS e2 vs1) M5 (fun e3 M6 => tt1 e3 M6 (fun b M7 =>
    if b = true then te e3 M7 (fun y M8 => acc1.length < sizeLine ∧ I1 (j + 1) (acc1 ++ [y]) M8) EF else I1 (j + 1) acc1 M7) EF) EF) ∧
  ∀ acc1 M5, I1 src1.items.length acc1 M5 → src1.live M5 ∧ J acc1 M5
theorem map_at {xs : List α} {toD : α → D} {i : Nat} {d : D} (h : (xs.map toD)[i]? = some d) : ∃ a, xs[i]? = some a ∧ d = toD a := by
  rw [List.getElem?_map] at h
  cases e : xs[i]? with
  | none => rw [e] at h; cases h
  | some a => rw [e] at h; exact ⟨a, rfl, (Option.some.inj h).symm⟩
theorem in2T {e2 : Sl} {acc : List D} {J : List D → Mem → Prop} {live : Mem → Prop} (ys : List β) (toB : β → D) (c : β → Bool) (f : β → D) (hl : live M) (hz : acc.length + ys.length ≤ sizeLine)
    (hb : ∀ b ∈ ys, ∀ (K : D → Mem → Prop) (N : Mem → Prop), (c b = true → K (f b) M) → (c b = false → N M) → gt1 (toB b) (wipeS e2 vs1) M (fun e3 M6 => tt1 e3 M6 (fun b M7 => if b = true then te e3 M7 K EF else N M7) EF) EF)
    (q : J (acc ++ (ys.filter c).map f) M) : In2 gt1 tt1 te vs1 e2 acc J ⟨ys.map toB, live⟩ M := by
  refine ⟨fun j acc1 M' => M' = M ∧ acc1 = acc ++ ((ys.take j).filter c).map f, ⟨rfl, by simp⟩, ?_, ?_⟩
  · rintro j d1 acc1 M5 hd ⟨rfl, rfl⟩
    obtain ⟨b, hj, rfl⟩ := map_at hd
    have hlt := (List.getElem?_eq_some_iff.mp hj).1
    refine ⟨hl, hb b (List.mem_of_getElem? hj) _ _ (fun hc => ⟨?_, rfl, ?_⟩) fun hc => ⟨rfl, ?_⟩⟩
    · have h1 : (((ys.take j).filter c).map f).length ≤ (ys.take j).length := by rw [List.length_map]; exact List.length_filter_le _ _
      rw [List.length_take] at h1
      rw [List.length_append]
      omega
    · rw [List.take_add_one, hj]
      simp [List.filter_append, hc]
    · rw [List.take_add_one, hj]
      simp [List.filter_append, hc]
  · rintro acc1 M5 ⟨rfl, rfl⟩
    refine ⟨hl, ?_⟩
    show J (acc ++ ((ys.take (ys.map toB).length).filter c).map f) M5
    rw [List.length_map, List.take_length]
    exact q
theorem lc2I {Q : List D → Mem → Prop} (xs : List α) (toD : α → D) (I : List α → List D → Mem → Prop) (hw : ∀ R, (∀ live, (∀ r acc M', I r acc M' → live M') → R ⟨xs.map toD, live⟩ M) → w e M R E) (h0 : I xs [] M)
    (hb : ∀ a r acc M', (∃ pre, xs = pre ++ a :: r) → I (a :: r) acc M' → gt (toD a) (wipeS e vs) M' (fun e2 M2 => tt e2 M2 (fun b M3 => if b = true then w1 e2 M3 (In2 gt1 tt1 te vs1 e2 acc (I r)) EF else I r acc M3) EF) EF)
    (q : ∀ acc M', I [] acc M' → Q acc M') : dLc2 w gt tt w1 gt1 tt1 te vs vs1 e M Q E := by
  refine hw _ fun live hl => ⟨fun i acc M' => I (xs.drop i) acc M', h0, fun i d acc M' hd hI => ⟨hl _ _ _ hI, ?_⟩, fun acc M' hI => ⟨hl _ _ _ hI, q acc M' ?_⟩⟩
  · obtain ⟨a, ha, rfl⟩ := map_at hd
    have e1 := drop_cons ha
    have hI : I (xs.drop i) acc M' := hI
    rw [e1] at hI
    exact hb a _ acc M' ⟨xs.take i, by rw [← e1, List.take_append_drop]⟩ hI
  · have hI : I (xs.drop (xs.map toD).length) acc M' := hI
    rw [List.length_map, List.drop_length] at hI
    exact hI
/-- two clauses that change nothing -/
theorem lc2T {Q : List D → Mem → Prop} (xs : List α) (toD : α → D) (c : α → Bool) (g : α → List D) (hw : ∀ R, (∀ live, (live M) → R ⟨xs.map toD, live⟩ M) → w e M R E)
    (hz : ((xs.filter c).flatMap g).length ≤ sizeLine)
    (hb : ∀ a ∈ xs, ∀ acc (J : List D → Mem → Prop), (c a = true → acc.length + (g a).length ≤ sizeLine ∧ J (acc ++ g a) M) → (c a = false → J acc M) → gt (toD a) (wipeS e vs) M (fun e2 M2 => tt e2 M2 (fun b M3 => if b = true then w1 e2 M3 (In2 gt1 tt1 te vs1 e2 acc J) EF else J acc M3) EF) EF)
    (q : Q ((xs.filter c).flatMap g) M) : dLc2 w gt tt w1 gt1 tt1 te vs vs1 e M Q E := by
  refine lc2I xs toD (fun r acc M' => M' = M ∧ ∃ pre, xs = pre ++ r ∧ acc = (pre.filter c).flatMap g) (fun R h => hw R fun live hl => h live fun r acc M' ⟨e, _⟩ => by rw [e]; exact hl) ⟨rfl, [], rfl, rfl⟩ ?_ ?_
  · rintro a r acc M' hp ⟨rfl, pre, e1, rfl⟩
    have ha : a ∈ xs := by rw [e1]; simp
    refine hb a ha _ _ (fun hc => ⟨?_, rfl, pre ++ [a], by rw [e1]; simp, ?_⟩) fun hc => ⟨rfl, pre ++ [a], by rw [e1]; simp, ?_⟩
    · rw [e1, List.filter_append, List.flatMap_append, List.length_append, List.filter_cons_of_pos hc, List.flatMap_cons, List.length_append] at hz
      omega
    · rw [List.filter_append, List.flatMap_append, List.filter_cons_of_pos hc]
      simp
    · rw [List.filter_append, List.flatMap_append, List.filter_cons_of_neg (by rw [hc]; decide)]
      simp
  · rintro acc M' ⟨rfl, pre, e1, rfl⟩
    rw [List.append_nil] at e1
    rw [← e1]; exact q
end
/-! trees with exact tuples, as text -/
mutual
def strip : D → D
  | .tup xs => .tup (stripL xs)
  | .rl xs => .rl (stripL xs)
  | .tx xs => .tup (stripL xs)
  | d => d
def stripL : List D → List D
  | [] => []
  | x :: xs => strip x :: stripL xs
end
mutual
theorem strip_py : ∀ d : D, toPy (strip d) = toPy d ∧ flatD (strip d) = flatD d
  | .tup xs => by unfold strip toPy flatD; obtain ⟨h1, h2⟩ := stripL_py xs; rw [h1, h2]; exact ⟨rfl, rfl⟩
  | .rl xs => by unfold strip toPy flatD; obtain ⟨h1, h2⟩ := stripL_py xs; rw [h1, h2]; exact ⟨rfl, rfl⟩
  | .tx xs => by unfold strip toPy flatD; obtain ⟨h1, h2⟩ := stripL_py xs; rw [h1, h2]; exact ⟨rfl, rfl⟩
  | .non => ⟨rfl, rfl⟩
  | .bl _ => ⟨rfl, rfl⟩
  | .int _ => ⟨rfl, rfl⟩
  | .str _ => ⟨rfl, rfl⟩
  | .ref _ => ⟨rfl, rfl⟩
  | .ty _ => ⟨rfl, rfl⟩
theorem stripL_py : ∀ ds : List D, toPyL (stripL ds) = toPyL ds ∧ flatDL (stripL ds) = flatDL ds
  | [] => ⟨rfl, rfl⟩
  | x :: xs => by unfold stripL toPyL flatDL; obtain ⟨h1, h2⟩ := stripL_py xs; obtain ⟨g1, g2⟩ := strip_py x; rw [h1, h2, g1, g2]; exact ⟨rfl, rfl⟩
end
theorem rRepr_x {d : D} {n : Nat} {M : Mem} {Q : QE} (g : good (strip d) 64 = true) (s : Shw (strip d) n) (hn : n ≤ sizeLine) (q : Q (.str (shD d)) M) : rRepr [d] M Q := by
  obtain ⟨e1, e2⟩ := strip_py d
  obtain ⟨f1, f2, f3⟩ := good_flat _ _ g
  unfold Shw at s
  rw [e1] at f2 f3 s
  rw [e2] at f1
  exact ⟨toPy d, PD.of d f1, plain_nodict _ f2, s.1, Nat.le_trans s.2 hn, f3, q⟩
theorem wr_wr {M : Mem} {a : Addr} {o u : MO} : wr (wr M a o) a u = wr M a u := by
  funext b
  by_cases h : b = a
  · subst h; rw [wr_same, wr_same]
  · rw [wr_ne h, wr_ne h, wr_ne h]
theorem dEq_lst0 {M : Mem} {p : Addr} {xs : List D} {Q : QE} (h1 : M p = some (.lst xs)) (g : goodL xs 60 = true) (hq : Q (.bl xs.isEmpty) M) : dEq (.ref p) (.rl []) M Q := by
  show dEqB (.ref p) (.rl []) M fun b => Q (.bl b) M
  obtain ⟨f1, f2, f3⟩ := goodL_flat xs _ g
  refine ⟨.list (toPyL xs), .list [], .lst h1 (PDL.of xs f1), .rl .nil, ?_, by decide +kernel, ?_⟩
  · have g2 : good (.tup xs) 64 = true := by
      unfold good
      exact goodL_all.mpr fun x hx => good_mono (n := 60) (m := 63) (goodL_all.mp g x hx) (by decide)
    simpa [okP, PyData.plain, PyData.depth, toPy] using good_ok g2 (Nat.le_refl _)
  · have : PyData.eqv (.list (toPyL xs)) (.list []) = xs.isEmpty := by
      cases xs with
      | nil => simp [toPyL, PyData.eqv, PyData.eqvAll]
      | cons => simp [toPyL, PyData.eqv, PyData.eqvAll]
    rw [this]
    exact hq
section
variable {α : Type} {w : DTI} {gt : DTG} {tt : DTT} {te : DTE} {tb : DTS} {vs : List Nat} {e : Sl} {M : Mem} {E : EX}
/-- a comprehension's turns over what stands ready -/
def LcK (gt : DTG) (tt : DTT) (te : DTE) (vs : List Nat) (e : Sl) (Q : List D → Mem → Prop) : Src → Mem → Prop := fun src M1 => ∃ I : Nat → List D → Mem → Prop, I 0 [] M1 ∧
  (∀ i d acc M', src.items[i]? = some d → I i acc M' → src.live M' ∧ gt d (wipeS e vs) M' (fun e2 M2 => tt e2 M2 (fun b M3 =>
    if b = true then te e2 M3 (fun y M4 => acc.length < sizeLine ∧ I (i + 1) (acc ++ [y]) M4) EF else I (i + 1) acc M3) EF) EF) ∧
  ∀ acc M', I src.items.length acc M' → src.live M' ∧ Q acc M'
theorem lcGo {Q : List D → Mem → Prop} (h : w e M (LcK gt tt te vs e Q) E) : dLc w gt tt te vs e M Q E := h
theorem lcK {Q : List D → Mem → Prop} {live : Mem → Prop} (xs : List α) (toD : α → D) (I : List α → List D → Mem → Prop) (hl : ∀ r acc M', I r acc M' → live M') (h0 : I xs [] M)
    (hb : ∀ a r acc M', (∃ pre, xs = pre ++ a :: r) → I (a :: r) acc M' → gt (toD a) (wipeS e vs) M' (fun e2 M2 => tt e2 M2 (fun b M3 => if b = true then te e2 M3 (fun y M4 => acc.length < sizeLine ∧ I r (acc ++ [y]) M4) EF else I r acc M3) EF) EF)
    (q : ∀ acc M', I [] acc M' → Q acc M') : LcK gt tt te vs e Q ⟨xs.map toD, live⟩ M := by
  have := lcI (w := fun e M R E => R ⟨xs.map toD, live⟩ M) (E := EF) (Q := Q) (gt := gt) (tt := tt) (te := te) (vs := vs) (e := e) (M := M) xs toD I (fun R h => h live hl) h0 hb q
  exact this
def ForK (gt : DTG) (tb : DTS) (Dn : DEnds) (E : EX) (e : Sl) : Src → Mem → Prop := fun src M1 => ∃ W : Nat → Sl → Mem → Prop, W 0 e M1 ∧
  (∀ i d e' M', src.items[i]? = some d → W i e' M' → src.live M' ∧ gt d e' M' (fun e2 M2 => tb ⟨W (i + 1), Dn.rt, Dn.nx, W (i + 1)⟩ E e2 M2) E) ∧
  ∀ e' M', W src.items.length e' M' → src.live M' ∧ Dn.nx e' M'
theorem forGo {Dn : DEnds} (h : w e M (ForK gt tb Dn E e) E) : dFor w gt tb Dn E e M := h
theorem forK {Dn : DEnds} {live : Mem → Prop} (xs : List α) (toD : α → D) (W : List α → Sl → Mem → Prop) (hl : ∀ r e' M', W r e' M' → live M') (h0 : W xs e M)
    (hb : ∀ a r e' M', (∃ pre, xs = pre ++ a :: r) → W (a :: r) e' M' → gt (toD a) e' M' (fun e2 M2 => tb ⟨W r, Dn.rt, Dn.nx, W r⟩ E e2 M2) E)
    (q : ∀ e' M', W [] e' M' → Dn.nx e' M') : ForK gt tb Dn E e ⟨xs.map toD, live⟩ M :=
  forI (w := fun e M R E => R ⟨xs.map toD, live⟩ M) (E := E) (Dn := Dn) (gt := gt) (tb := tb) (e := e) (M := M) xs toD W (fun R h => h live hl) h0 hb q
end
theorem rng0 {n : Nat} : rng 0 n = (List.range n).map fun i : Nat => D.int (i : Int) := by
  unfold rng
  simp only [Int.zero_add]
/-- a list that is made and not written any more -/
theorem fzOk {K : List D → Mem → Prop} {M : Mem} {ys : List D} (h : K ys M) : ∀ p, M p = none → ∃ xs, wr M p (.lst ys) p = some (.lst xs) ∧ K xs (mdel (wr M p (.lst ys)) p) := fun p hp => ⟨ys, wr_same, by rw [mdel_wr hp]; exact h⟩
theorem dTru_str' {w : Str} {M : Mem} {Q : Bool → Prop} (h : 1 ≤ w.length) (h2 : w.length ≤ sizeLine) (q : Q true) : dTru (.str w) M Q := by
  have : (!decide (w.length = 0)) = true := by simp; omega
  exact ⟨h2, this ▸ q⟩
theorem wr_id {M : Mem} {h : Addr} {o : MO} (e : M h = some o) : wr M h o = M := by
  funext b
  by_cases hb : b = h
  · subst hb; rw [wr_same, e]
  · rw [wr_ne hb]
theorem range_drop {m k a : Nat} {r : List Nat} (e : (List.range m).drop k = a :: r) : a = k ∧ k < m ∧ r = (List.range m).drop (k + 1) := by
  have hk : k < m := by
    by_cases h : k < m
    · exact h
    · rw [List.drop_eq_nil_of_le (by rw [List.length_range]; omega)] at e
      cases e
  have e2 := List.drop_eq_getElem_cons (l := List.range m) (i := k) (by rw [List.length_range]; exact hk)
  rw [e2, List.getElem_range] at e
  injection e with e3 e4
  exact ⟨e3.symm, hk, e4.symm⟩
end DL

/-! Dict comprehensions of two clauses, set comprehensions, over typed rows. -/
namespace DL
open PySem PySem.Spec PyProof.Rows L2
section
variable {α β : Type} {w w1 : DTI} {gt gt1 : DTG} {tt tt1 : DTT} {te tk tv : DTE} {vs vs1 : List Nat} {e : Sl} {M : Mem} {E : EX}
theorem mergeG_le : ∀ (more kvs : List (Key × D)), (mergeG kvs more).length ≤ kvs.length + more.length
  | [], kvs => by simp [mergeG]
  | p :: r, kvs => by
    have := mergeG_le r (putG kvs p.1 p.2)
    have h2 : (putG kvs p.1 p.2).length ≤ kvs.length + 1 := by unfold putG; split <;> simp
    show (mergeG (putG kvs p.1 p.2) r).length ≤ _
    rw [List.length_cons]; omega
theorem mergeG_snoc (kvs more : List (Key × D)) (p : Key × D) : mergeG kvs (more ++ [p]) = putG (mergeG kvs more) p.1 p.2 := by
  unfold mergeG
  rw [List.foldl_append]
  rfl
theorem mergeG_app (kvs a b : List (Key × D)) : mergeG kvs (a ++ b) = mergeG (mergeG kvs a) b := by
  unfold mergeG
  rw [List.foldl_append]
/-- the second clause's turns -/
def In2D (gt1 : DTG) (tt1 : DTT) (tk tv : DTE) (vs1 : List Nat) (e2 : Sl) (acc : List (Key × D)) (J : List (Key × D) → Mem → Prop) : Src → Mem → Prop := fun src1 M4 => ∃ I1 : Nat → List (Key × D) → Mem → Prop, I1 0 acc M4 ∧
  (∀ j d1 acc1 M5, src1.items[j]? = some d1 → I1 j acc1 M5 → src1.live M5 ∧ gt1 d1 (wipeS e2 vs1) M5 (fun e3 M6 => tt1 e3 M6 (fun b M7 =>
    if b = true then tk e3 M7 (fun y M8 => tv e3 M8 (fun z M9 => acc1.length < sizeLine ∧ ∃ k, keyD y = some k ∧ I1 (j + 1) (putG acc1 k z) M9) EF) EF else I1 (j + 1) acc1 M7) EF) EF) ∧
  ∀ acc1 M5, I1 src1.items.length acc1 M5 → src1.live M5 ∧ J acc1 M5
theorem in2D {e2 : Sl} {acc : List (Key × D)} {J : List (Key × D) → Mem → Prop} {live : Mem → Prop} (ys : List β) (toB : β → D) (c : β → Bool) (kf : β → Key) (f : β → D) (hl : live M) (hz : acc.length + ys.length ≤ sizeLine)
    (hb : ∀ b ∈ ys, ∀ (K : D → D → Mem → Prop) (N : Mem → Prop), (c b = true → K (keyV (kf b)) (f b) M) → (c b = false → N M) → gt1 (toB b) (wipeS e2 vs1) M (fun e3 M6 => tt1 e3 M6 (fun b M7 => if b = true then tk e3 M7 (fun y M8 => tv e3 M8 (fun z M9 => K y z M9) EF) EF else N M7) EF) EF)
    (q : J (mergeG acc ((ys.filter c).map fun b => (kf b, f b))) M) : In2D gt1 tt1 tk tv vs1 e2 acc J ⟨ys.map toB, live⟩ M := by
  refine ⟨fun j acc1 M' => M' = M ∧ acc1 = mergeG acc (((ys.take j).filter c).map fun b => (kf b, f b)), ⟨rfl, by simp [mergeG]⟩, ?_, ?_⟩
  · rintro j d1 acc1 M5 hd ⟨rfl, rfl⟩
    obtain ⟨b, hj, rfl⟩ := map_at hd
    have hlt := (List.getElem?_eq_some_iff.mp hj).1
    refine ⟨hl, hb b (List.mem_of_getElem? hj) (fun y z M9 => (mergeG acc (((ys.take j).filter c).map fun b => (kf b, f b))).length < sizeLine ∧ ∃ k, keyD y = some k ∧ _ ∧ _) _ (fun hc => ⟨?_, kf b, keyD_V _, rfl, ?_⟩) fun hc => ⟨rfl, ?_⟩⟩
    · have h1 : (((ys.take j).filter c).map fun b => (kf b, f b)).length ≤ (ys.take j).length := by rw [List.length_map]; exact List.length_filter_le _ _
      rw [List.length_take] at h1
      have := mergeG_le (((ys.take j).filter c).map fun b => (kf b, f b)) acc
      omega
    · rw [List.take_add_one, hj]
      simp only [List.filter_append, Option.toList_some, List.filter_cons_of_pos hc, List.filter_nil, List.map_append, List.map_cons, List.map_nil]
      rw [mergeG_snoc]
    · rw [List.take_add_one, hj]
      simp [List.filter_append, hc]
  · rintro acc1 M5 ⟨rfl, rfl⟩
    refine ⟨hl, ?_⟩
    show J (mergeG acc (((ys.take (ys.map toB).length).filter c).map fun b => (kf b, f b))) M5
    rw [List.length_map, List.take_length]
    exact q
/-- two clauses that change nothing -/
theorem dc2T {Q : List (Key × D) → Mem → Prop} (xs : List α) (toD : α → D) (g : α → List (Key × D)) (hw : ∀ R, (∀ live, (live M) → R ⟨xs.map toD, live⟩ M) → w e M R E)
    (hb : ∀ a ∈ xs, ∀ acc (J : List (Key × D) → Mem → Prop), acc.length ≤ (xs.flatMap g).length → J (mergeG acc (g a)) M → gt (toD a) (wipeS e vs) M (fun e2 M2 => tt e2 M2 (fun b M3 => if b = true then w1 e2 M3 (In2D gt1 tt1 tk tv vs1 e2 acc J) EF else J acc M3) EF) EF)
    (q : Q (mergeG [] (xs.flatMap g)) M) : dDc2 w gt tt w1 gt1 tt1 tk tv vs vs1 e M Q E := by
  refine hw _ fun live hl => ⟨fun i acc M' => M' = M ∧ acc = mergeG [] ((xs.take i).flatMap g), ⟨rfl, rfl⟩, fun i d acc M' hd hI => ?_, fun acc M' hI => ?_⟩
  · obtain ⟨rfl, rfl⟩ := hI
    obtain ⟨a, ha, rfl⟩ := map_at hd
    have e1 : xs.take (i + 1) = xs.take i ++ [a] := by rw [List.take_add_one, ha]; rfl
    have e2 : (xs.take (i + 1)).flatMap g = (xs.take i).flatMap g ++ g a := by rw [e1, List.flatMap_append]; simp
    refine ⟨hl, hb a (List.mem_of_getElem? ha) _ _ ?_ ⟨rfl, by rw [e2, mergeG_app]⟩⟩
    have h1 := mergeG_le ((xs.take i).flatMap g) []
    have h2 : xs.flatMap g = (xs.take (i + 1)).flatMap g ++ (xs.drop (i + 1)).flatMap g := by rw [← List.flatMap_append, List.take_append_drop]
    rw [h2, e2, List.length_append, List.length_append]
    simp only [List.length_nil] at h1
    omega
  · obtain ⟨rfl, rfl⟩ := hI
    refine ⟨hl, ?_⟩
    show Q (mergeG [] ((xs.take (xs.map toD).length).flatMap g)) M'
    rw [List.length_map, List.take_length]
    exact q
/-- a set of keys, nothing changed -/
theorem scT {Q : List Key → Mem → Prop} (xs : List α) (toD : α → D) (c : α → Bool) (kf : α → Key) (hw : ∀ R, (∀ live, (live M) → R ⟨xs.map toD, live⟩ M) → w e M R E) (hz : xs.length ≤ 4000)
    (hb : ∀ a ∈ xs, ∀ (K : D → Mem → Prop) (N : Mem → Prop), (c a = true → K (keyV (kf a)) M) → (c a = false → N M) → gt (toD a) (wipeS e vs) M (fun e2 M2 => tt e2 M2 (fun b M3 => if b = true then te e2 M3 K EF else N M3) EF) EF)
    (q : Q ((xs.filter c).map kf) M) : dSc w gt tt te vs e M Q E := by
  refine hw _ fun live hl => ⟨fun i acc M' => M' = M ∧ acc = ((xs.take i).filter c).map kf, ⟨rfl, rfl⟩, fun i d acc M' hd hI => ?_, fun acc M' hI => ?_⟩
  · obtain ⟨rfl, rfl⟩ := hI
    obtain ⟨a, ha, rfl⟩ := map_at hd
    have hlt := (List.getElem?_eq_some_iff.mp ha).1
    refine ⟨hl, hb a (List.mem_of_getElem? ha) (fun y M4 => _ ∧ ∃ k, keyD y = some k ∧ _ ∧ _) _ (fun hc => ⟨?_, kf a, keyD_V _, rfl, ?_⟩) fun hc => ⟨rfl, ?_⟩⟩
    · have h1 : (((xs.take i).filter c).map kf).length ≤ (xs.take i).length := by rw [List.length_map]; exact List.length_filter_le _ _
      rw [List.length_take] at h1
      omega
    · rw [List.take_add_one, ha]
      simp [List.filter_append, hc]
    · rw [List.take_add_one, ha]
      simp [List.filter_append, hc]
  · obtain ⟨rfl, rfl⟩ := hI
    refine ⟨hl, ?_⟩
    show Q (((xs.take (xs.map toD).length).filter c).map kf) M'
    rw [List.length_map, List.take_length]
    exact q
end
end DL

/-! the small syntax of some defs (printed by gen2.py) -/
namespace PR
open PySem PySem.Spec PyProof.Rows L2 DL
/-! is_word -/
def ir_is_word : ISs :=
  (.cons (.iff (.orE (.nt (.cb .isi (.sl 0) (.cons (.gty .str) .nil))) (.orE (.nt (.chain .LtE .LtE (.lit (.int 1)) (.cb .len (.sl 0) .nil) (.gc (.int 6)))) (.one (.cmp .Eq (.sl 0) (.gc (.str "holds")))))) (.cons (.ret (.lit (.bl false)))
  .nil) .nil)
  (.cons (.ret (.andE (.tb .all (.lc [("sign", 1)] (.nm 1) (.any (.sl 0)) .no (.cmp .In (.sl 1) (.gc (.str "abcdefghijklmnopqrstuvwxyzABCDEFGHIJKLMNOPQRSTUVWXYZ0123456789+-*=<>&|~^"))))) (.one (.nt (.tb .all (.lc [("sign", 1)] (.nm 1) (.any (.sl 0)) .no (.cmp .In (.sl 1) (.gc (.str "0123456789")))))))))
  .nil))
-- slots: 0 thing 1 sign
-- calls: [] ; methods: [] ; fields: [] ; constants: [('FIGURES', '0123456789'), ('SIGNS', 'abcdefghijklmnopqrstuvwxyzABCDEFGHIJKLMNOPQRSTUVWXYZ0123456789+-*=<>&|~^'), ('HOLDS', 'holds'), ('MOST_SIGNS', 6)]
/-! are_kinds -/
def ir_are_kinds : ISs :=
  (.cons (.iff (.orE (.nt (.cb .isi (.sl 0) (.cons (.gty .tuple) .nil))) (.orE (.cmp .Eq (.sl 0) (.tup .nil)) (.one (.nt (.tb .all (.lc [("kind", 1)] (.nm 1) (.any (.sl 0)) .no (.cal 0 (.cons (.sl 1) .nil) .nil))))))) (.cons (.ret (.lit (.bl false)))
  .nil) .nil)
  (.cons (.ret (.cmp .Eq (.lenK (.sl 0)) (.cb .len (.sl 0) .nil)))
  .nil))
-- slots: 0 thing 1 kind
-- calls: [('is_word', 1, ())] ; methods: [] ; fields: [] ; constants: []
/-! is_kind -/
def ir_is_kind : ISs :=
  (.cons (.ret (.andE (.cb .isi (.sl 1) (.cons (.gty .str) .nil)) (.one (.cmp .In (.sl 1) (.sl 0)))))
  .nil)
-- slots: 0 kinds 1 thing
-- calls: [] ; methods: [] ; fields: [] ; constants: []
/-! is_shape -/
def ir_is_shape : ISs :=
  (.cons (.iff (.orE (.nt (.cb .isi (.sl 1) (.cons (.gty .tuple) .nil))) (.orE (.cmp .NotEq (.cb .len (.sl 1) .nil) (.lit (.int 3))) (.orE (.nt (.cal 1 (.cons (.ix (.sl 1) (.lit (.int 0))) .nil) .nil)) (.one (.nt (.cal 0 (.cons (.sl 0) (.cons (.ix (.sl 1) (.lit (.int 1))) .nil)) .nil)))))) (.cons (.ret (.lit (.bl false)))
  .nil) .nil)
  (.cons (.asg (.nm 2) (.ix (.sl 1) (.lit (.int 2))))
  (.cons (.iff (.orE (.nt (.cb .isi (.sl 2) (.cons (.gty .tuple) .nil))) (.one (.cmp .Gt (.cb .len (.sl 2) .nil) (.gc (.int 3))))) (.cons (.ret (.lit (.bl false)))
  .nil) .nil)
  (.cons (.ret (.tb .all (.lc [("part", 3)] (.nm 3) (.any (.sl 2)) .no (.cal 0 (.cons (.sl 0) (.cons (.sl 3) .nil)) .nil))))
  .nil))))
-- slots: 0 kinds 1 thing 2 parts 3 part
-- calls: [('is_kind', 2, ()), ('is_word', 1, ())] ; methods: [] ; fields: [] ; constants: [('MOST_PARTS', 3)]
/-! is_calling -/
def ir_is_calling : ISs :=
  (.cons (.iff (.orE (.nt (.cb .isi (.sl 1) (.cons (.gty .tuple) .nil))) (.one (.cmp .NotEq (.cb .len (.sl 1) .nil) (.lit (.int 2))))) (.cons (.ret (.lit (.bl false)))
  .nil) .nil)
  (.cons (.ret (.andE (.cal 1 (.cons (.ix (.sl 1) (.lit (.int 0))) .nil) .nil) (.one (.cal 0 (.cons (.sl 0) (.cons (.ix (.sl 1) (.lit (.int 1))) .nil)) .nil))))
  .nil))
-- slots: 0 kinds 1 thing
-- calls: [('is_kind', 2, ()), ('is_word', 1, ())] ; methods: [] ; fields: [] ; constants: []
/-! are_unlike -/
def ir_are_unlike : ISs :=
  (.cons (.asg (.nm 2) (.lcF (.lc [("word", 3), ("others", 4)] (.st 3 4) (.any (.sl 1)) .no (.sl 3))))
  (.cons (.ret (.andE (.cmp .Eq (.lenK (.sl 2)) (.cb .len (.sl 2) .nil)) (.one (.nt (.tb .any (.lc [("word", 3)] (.nm 3) (.any (.sl 2)) .no (.cmp .In (.sl 3) (.sl 0))))))))
  .nil))
-- slots: 0 known 1 some 2 words 3 word 4 others
-- calls: [] ; methods: [] ; fields: [] ; constants: []
/-! ground_fault -/
def ir_ground_fault : ISs :=
  (.cons (.iff (.nt (.cal 3 (.cons (.sl 0) .nil) .nil)) (.cons (.ret (.lit (.str "kinds")))
  .nil) .nil)
  (.cons (.iff (.orE (.nt (.cb .isi (.sl 1) (.cons (.gty .tuple) .nil))) (.one (.nt (.tb .all (.lc [("shape", 3)] (.nm 3) (.any (.sl 1)) .no (.cal 2 (.cons (.sl 0) (.cons (.sl 3) .nil)) .nil)))))) (.cons (.ret (.lit (.str "shapes")))
  .nil) .nil)
  (.cons (.iff (.nt (.cal 0 (.cons (.sl 0) (.cons (.sl 1) .nil)) .nil)) (.cons (.ret (.lit (.str "shapes")))
  .nil) .nil)
  (.cons (.iff (.orE (.nt (.cb .isi (.sl 2) (.cons (.gty .tuple) .nil))) (.one (.nt (.tb .all (.lc [("name", 4)] (.nm 4) (.any (.sl 2)) .no (.cal 1 (.cons (.sl 0) (.cons (.sl 4) .nil)) .nil)))))) (.cons (.ret (.lit (.str "names")))
  .nil) .nil)
  (.cons (.iff (.nt (.cal 0 (.cons (.bin .Add (.sl 0) (.tt .tuple (.lc [("shape", 3)] (.nm 3) (.any (.sl 1)) .no (.ix (.sl 3) (.lit (.int 0)))))) (.cons (.sl 2) .nil)) .nil)) (.cons (.ret (.lit (.str "names")))
  .nil) .nil)
  (.cons (.ret (.lit .non))
  .nil))))))
-- slots: 0 kinds 1 shapes 2 names 3 shape 4 name
-- calls: [('are_unlike', 2, ()), ('is_calling', 2, ()), ('is_shape', 2, ()), ('are_kinds', 1, ())] ; methods: [] ; fields: [] ; constants: []
/-! Theory.__init__ -/
def lp_Theory___init___0 : IS :=
  .fo (.tp (.cons (.nm 6) (.cons (.nm 7) (.cons (.nm 8) .nil)))) (.any (.ife (.cmp .Is (.sl 4) (.lit .non)) (.tup .nil) (.sl 4))) (.cons .bad
  .nil)
def ir_Theory___init__ : ISs :=
  (.cons (.asg (.nm 5) (.cal 0 (.cons (.sl 1) (.cons (.sl 2) (.cons (.sl 3) .nil))) .nil))
  (.cons (.iff (.cmp .IsNot (.sl 5) (.lit .non)) (.cons .bad
  .nil) .nil)
  (.cons (.sfl 0 "kinds" (.sl 0) (.sl 1))
  (.cons (.sfl 0 "shapes" (.sl 0) (.sl 2))
  (.cons (.sfl 0 "names" (.sl 0) (.sl 3))
  (.cons (.sfl 0 "called" (.sl 0) (.dc [("word", 9), ("kind", 10)] (.tp (.cons (.nm 9) (.cons (.nm 10) .nil))) (.any (.sl 3)) .no (.sl 9) (.sl 10)))
  (.cons (.sfl 0 "made" (.sl 0) (.dc [("word", 9), ("kind", 10), ("parts", 11)] (.tp (.cons (.nm 9) (.cons (.nm 10) (.cons (.nm 11) .nil)))) (.any (.sl 2)) .no (.sl 9) (.tup (.cons (.sl 10) (.cons (.sl 11) .nil)))))
  (.cons (.sfl 0 "kept" (.sl 0) .newK)
  (.cons lp_Theory___init___0
  .nil)))))))))
-- slots: 0 self 1 kinds 2 shapes 3 names 4 statements 5 why 6 label 7 statement 8 account 9 word 10 kind 11 parts
-- calls: [('ground_fault', 3, ())] ; methods: [] ; fields: [(0, 'kept'), (0, 'made'), (0, 'called'), (0, 'names'), (0, 'shapes'), (0, 'kinds')] ; constants: []
/-! Theory.is_called -/
def ir_Theory_is_called : ISs :=
  (.cons (.ret (.cmp .In (.sl 1) (.fld 0 "called" (.sl 0))))
  .nil)
-- slots: 0 self 1 word
-- calls: [] ; methods: [] ; fields: [(0, 'called')] ; constants: []
/-! Theory.making -/
def ir_Theory_making : ISs :=
  (.cons (.iff (.nt (.cb .isi (.sl 1) (.cons (.gty .str) .nil))) (.cons (.ret (.lit .non))
  .nil) .nil)
  (.cons (.iff (.cmp .In (.sl 1) (.fld 0 "called" (.sl 0))) (.cons (.ret (.tup (.cons (.ix (.fld 0 "called" (.sl 0)) (.sl 1)) (.cons (.tup .nil) .nil))))
  .nil) .nil)
  (.cons (.ret (.mt .get (.fld 0 "made" (.sl 0)) (.sl 1) .nil))
  .nil)))
-- slots: 0 self 1 word
-- calls: [] ; methods: [] ; fields: [(0, 'made'), (0, 'called')] ; constants: []
/-! kind_of -/
def lp_kind_of_0 : IS :=
  .fo (.nm 4) (.any (.sl 1)) (.cons (.asg (.nm 5) (.mth 0 0 "making" (.sl 0) (.cons (.sl 4) .nil) .nil))
  (.cons (.iff (.orE (.cmp .Is (.sl 5) (.lit .non)) (.one (.cmp .Eq (.sl 2) (.fz (.lst .nil))))) (.cons (.ret (.lit .non))
  .nil) .nil)
  (.cons (.asg (.tp (.cons (.nm 6) (.cons (.nm 7) .nil))) (.sl 5))
  (.cons (.iff (.cmp .NotIn (.mt0 .pop (.sl 2)) (.tup (.cons (.lit .non) (.cons (.sl 6) .nil)))) (.cons (.ret (.lit .non))
  .nil) .nil)
  (.cons (.asg (.nm 3) (.orE (.sl 3) (.one (.sl 6))))
  (.cons (.ex (.mt .extend (.sl 2) (.slst (.sl 7) .no .no (.yes (.neg (.lit (.int 1))))) .nil))
  .nil))))))
def ir_kind_of : ISs :=
  (.cons (.iff (.orE (.nt (.cb .isi (.sl 1) (.cons (.gty .tuple) .nil))) (.one (.cmp .Eq (.sl 1) (.tup .nil)))) (.cons (.ret (.lit .non))
  .nil) .nil)
  (.cons (.asg (.nm 2) (.lst (.cons (.lit .non) .nil)))
  (.cons (.asg (.nm 3) (.lit .non))
  (.cons lp_kind_of_0
  (.cons (.ret (.ife (.cmp .Eq (.sl 2) (.fz (.lst .nil))) (.sl 3) (.lit .non)))
  .nil)))))
-- slots: 0 theory 1 thing 2 wanted 3 found 4 word 5 made 6 kind 7 parts
-- calls: [] ; methods: [(0, 'making', 1, ())] ; fields: [] ; constants: []
/-! put_in -/
def ir_put_in : ISs :=
  (.cons (.asg (.nm 2) (.ct .dict (.sl 1) .nil))
  (.cons (.ret (.tt .tuple (.lc2 [("word", 3), ("part", 4)] [4] (.nm 3) (.any (.sl 0)) .no (.nm 4) (.any (.mt .get (.sl 2) (.sl 3) (.cons (.tup (.cons (.sl 3) .nil)) .nil))) .no (.sl 4))))
  .nil))
-- slots: 0 body 1 puts 2 bodies 3 word 4 part
-- calls: [] ; methods: [] ; fields: [] ; constants: []
end PR

namespace PR
open PySem PySem.Spec PyProof.Rows L2 DL
local macro_rules | `(tactic| walk_at "dl") => `(tactic| simp only [wSs, wS, DL.wE, DL.wT, DL.wL, wEs, wO, wC, wI, wG, wGs, dSeq, dAsg, dPar, dIf, dDrop, dSlot, dC, CD.d, dBin, boR, coR, dSub, dMod, dFdiv, dTest, dChain, bQ, dNext, dRet, dRetN, dgName, dgSub, dgTup, dgCons, dgNil, dLst, dTup, dTupX, dCons, dNil, dIfE, dAndT, dOrT, dNotT, dAnd, dOr, dNot, dTruth, dTru_non, dTru_bl, dTru_int, dTru_str, dTru_tup, dTru_rl, dNeg, dSlice, dNoPart, dPart, dCall, dMt, dFnN, dMth, dFld, dSfl, dFz, dLcF, dNew, dNewD, dNewK, dLenK, dSliS, dSlS, dRevX, dgHead, dFrz, dForget, isTy, isIns, BF.rd, BT.rd, BM.rd, BM.ty, BF.rt, BT.rt, IEs.len, startD, getS, setS, wipeS, endB, tb, List.getD_cons_zero, List.getD_cons_succ, List.map_cons, List.map_nil, List.replicate, List.length_cons, List.length_nil, List.cons_append, List.nil_append, List.append_nil, dI_int, dAdd_int, dAdd_str, dAdd_tup, dIB_int, dLt_int, dLt_str, dEq_int, dEq_str, dNe_int, dNe_str, lenD_tup, lenD_rl, lenD_str, dMulA_int, dSl_str, ixN3_0, ixN3_1, ixN3_2, List.set_cons_zero, List.set_cons_succ, rAbs_int, rMin_int, rMax_int, rMin_str, rMax_str, dIx_wr, lenD_wr, atI_0, atI_1, atI_2, dIx_tup, dIx_rl, dIx_str, Option.some.injEq, exists_eq_left', decide_true, decide_false, eq_self, ite_true, ite_false, if_true, if_false, true_and, and_true, Bool.false_eq_true, Bool.not_true, Bool.not_false, Nat.reduceAdd, Nat.reduceSub, tTuple, tTupleX, dIs_non, dIs_bl, DL.isNon, dIn_str1, isi_str, isi_tup, isi_tx, isi_int, isi_rl, isi_bl, isi_non])
def signsW : Str := "abcdefghijklmnopqrstuvwxyzABCDEFGHIJKLMNOPQRSTUVWXYZ0123456789+-*=<>&|~^"
def figs : Str := "0123456789"
/-- a word of a theory -/
def wordB (w : Str) : Bool := (decide (1 ≤ (w.length : Int)) && decide ((w.length : Int) ≤ 6) && !decide (w = ("holds" : Str))) && (w.cps.toList.all (fun c => decide (c ∈ signsW.cps.toList)) && !w.cps.toList.all (fun c => decide (c ∈ figs.cps.toList)))
def spWord : DSp := fun ds M Q E => ∃ w : Str, ds = [.str w] ∧ w.length ≤ sizeLine ∧ Q (.bl (wordB w)) M
theorem is_word (S : Tb) (ds : List D) (M : Mem) (Q : QE) (E : EX) (H : spWord ds M Q E) : wSs S ir_is_word (endB Q) E (startD 2 ds) M := by
  obtain ⟨w, rfl, hw, q⟩ := H
  have q : ∀ b, wordB w = b → ∃ M2, Sub M2 M ∧ Q (.bl b) M2 := fun b e => ⟨M, Sub.refl, e ▸ q⟩
  unfold ir_is_word
  walk_at "dl"
  refine ⟨hw, ?_⟩
  by_cases h1 : (1 : Int) ≤ w.length
  · by_cases h2 : (w.length : Int) ≤ 6
    · by_cases h3 : w = ("holds" : Str)
      · simp only [h1, h2, h3]
        walk_at "dl"
        exact q _ (by unfold wordB; rw [decide_eq_true h3]; simp)
      · simp only [h1, h2, h3]
        walk_at "dl"
        refine allT w.cps.toList (fun c => .str ⟨#[c]⟩) (fun c => decide (c ∈ signsW.cps.toList)) (fun R h => h _ trivial) hw (fun c hc K h => ?_) ?_
        · walk_at "dl"
          exact h
        · walk_at "dl"
          cases ha : w.cps.toList.all (fun c => decide (c ∈ signsW.cps.toList)) with
          | false =>
            walk_at "dl"
            exact q _ (by unfold wordB; rw [ha]; simp)
          | true =>
            walk_at "dl"
            refine allT w.cps.toList (fun c => .str ⟨#[c]⟩) (fun c => decide (c ∈ figs.cps.toList)) (fun R h => h _ trivial) hw (fun c hc K h => ?_) ?_
            · walk_at "dl"
              exact h
            · walk_at "dl"
              exact q _ (by unfold wordB; rw [ha, decide_eq_true h1, decide_eq_true h2, decide_eq_false h3]; simp)
    · simp only [h1, h2]
      walk_at "dl"
      exact q _ (by unfold wordB; rw [decide_eq_false h2]; simp)
  · simp only [h1]
    walk_at "dl"
    exact q _ (by unfold wordB; rw [decide_eq_false h1]; simp)
/-! grounds -/
structure Gr where
  kinds : List Str
  shapes : List (Str × Str × List Str)
  names : List (Str × Str)
def sD (w : Str) : D := .str w
def tS (ws : List Str) : D := .tup (ws.map .str)
def shD' (s : Str × Str × List Str) : D := .tup [.str s.1, .str s.2.1, tS s.2.2]
def nmD (n : Str × Str) : D := .tup [.str n.1, .str n.2]
def Gr.kD (g : Gr) : D := tS g.kinds
def Gr.sD (g : Gr) : D := .tup (g.shapes.map shD')
def Gr.nD (g : Gr) : D := .tx (g.names.map nmD)
structure Gr.Ok (g : Gr) : Prop where
  k0 : g.kinds ≠ []
  kw : ∀ w ∈ g.kinds, wordB w = true
  sw : ∀ s ∈ g.shapes, wordB s.1 = true ∧ s.2.1 ∈ g.kinds ∧ s.2.2.length ≤ 3 ∧ ∀ p ∈ s.2.2, p ∈ g.kinds
  nw : ∀ n ∈ g.names, wordB n.1 = true ∧ n.2 ∈ g.kinds
  un : (g.kinds ++ (g.shapes.map (·.1) ++ g.names.map (·.1))).Nodup
  fewK : g.kinds.length ≤ 100
  fewS : g.shapes.length ≤ 100
  fewN : g.names.length ≤ 100
theorem word_len {w : Str} (h : wordB w = true) : w.length ≤ 6 := by
  unfold wordB at h
  simp only [Bool.and_eq_true, decide_eq_true_eq] at h
  omega
theorem word_sz {w : Str} (h : wordB w = true) : w.length ≤ sizeLine := by
  have := word_len h
  have : sizeLine = 2 ^ 24 := rfl
  omega
end PR

namespace PR
open PySem PySem.Spec PyProof.Rows L2 DL
local macro_rules | `(tactic| walk_at "dl") => `(tactic| simp only [wSs, wS, DL.wE, DL.wT, DL.wL, wEs, wO, wC, wI, wG, wGs, dSeq, dAsg, dPar, dIf, dDrop, dSlot, dC, CD.d, dBin, boR, coR, dSub, dMod, dFdiv, dTest, dChain, bQ, dNext, dRet, dRetN, dgName, dgSub, dgTup, dgCons, dgNil, dLst, dTup, dTupX, dCons, dNil, dIfE, dAndT, dOrT, dNotT, dAnd, dOr, dNot, dTruth, dTru_non, dTru_bl, dTru_int, dTru_str, dTru_tup, dTru_rl, dNeg, dSlice, dNoPart, dPart, dCall, dMt, dFnN, dMth, dFld, dSfl, dFz, dLcF, dNew, dNewD, dNewK, dLenK, dSliS, dSlS, dRevX, dgHead, dFrz, dForget, isTy, isIns, BF.rd, BT.rd, BM.rd, BM.ty, BF.rt, BT.rt, IEs.len, startD, getS, setS, wipeS, endB, tb, List.getD_cons_zero, List.getD_cons_succ, List.map_cons, List.map_nil, List.replicate, List.length_cons, List.length_nil, List.cons_append, List.nil_append, List.append_nil, dI_int, dAdd_int, dAdd_str, dAdd_tup, dIB_int, dLt_int, dLt_str, dEq_int, dEq_str, dNe_int, dNe_str, lenD_tup, lenD_rl, lenD_str, dMulA_int, dSl_str, ixN3_0, ixN3_1, ixN3_2, List.set_cons_zero, List.set_cons_succ, rAbs_int, rMin_int, rMax_int, rMin_str, rMax_str, dIx_wr, lenD_wr, atI_0, atI_1, atI_2, dIx_tup, dIx_rl, dIx_str, Option.some.injEq, exists_eq_left', decide_true, decide_false, eq_self, ite_true, ite_false, if_true, if_false, true_and, and_true, Bool.false_eq_true, Bool.not_true, Bool.not_false, Nat.reduceAdd, Nat.reduceSub, tTuple, tTupleX, dIs_non, dIs_bl, DL.isNon, dIn_str1, isi_str, isi_tup, isi_tx, isi_int, isi_rl, isi_bl, isi_non])
def spKind : DSp := fun ds M Q E => ∃ (ks : List Str) (w : Str), ds = [tS ks, .str w] ∧ Q (.bl (decide (w ∈ ks))) M
theorem is_kind (S : Tb) (ds : List D) (M : Mem) (Q : QE) (E : EX) (H : spKind ds M Q E) : wSs S ir_is_kind (endB Q) E (startD 2 ds) M := by
  obtain ⟨ks, w, rfl, q⟩ := H
  unfold ir_is_kind tS
  walk_at "dl"
  exact in_strs ⟨M, Sub.refl, q⟩
def spShape : DSp := fun ds M Q E => ∃ (ks : List Str) (s : Str × Str × List Str), ds = [tS ks, shD' s] ∧ wordB s.1 = true ∧ s.2.1 ∈ ks ∧ s.2.2.length ≤ 3 ∧ (∀ p ∈ s.2.2, p ∈ ks) ∧ Q (.bl true) M
theorem is_shape (ds : List D) (M : Mem) (Q : QE) (E : EX) (H : spShape ds M Q E) : wSs (tb [spKind, spWord] [] []) ir_is_shape (endB Q) E (startD 4 ds) M := by
  obtain ⟨ks, ⟨w, k, ps⟩, rfl, h1, h2, h3, h4, q⟩ := H
  unfold ir_is_shape shD'
  simp only at h1 h2 h3 h4
  walk_at "dl"
  refine ⟨w, rfl, word_sz h1, ?_⟩
  rw [h1]
  walk_at "dl"
  refine ⟨ks, k, rfl, ?_⟩
  rw [decide_eq_true h2]
  have z3 : ¬ (3 : Int) < ps.length := by omega
  have z4 : (ps.map D.str).length = ps.length := List.length_map _
  unfold tS
  repeat first | walk_at "dl" | simp only [z3, z4]
  refine allT ps D.str (fun p => decide (p ∈ ks)) (fun R h => h (fun _ => True) trivial) (by rw [show sizeLine = 2 ^ 24 from rfl]; omega) (fun p hp K h => ?_) ?_
  · walk_at "dl"
    exact ⟨ks, p, rfl, h⟩
  · have : ps.all (fun p => decide (p ∈ ks)) = true := List.all_eq_true.mpr fun p hp => decide_eq_true (h4 p hp)
    rw [this]
    exact ⟨M, Sub.refl, q⟩
def spCalling : DSp := fun ds M Q E => ∃ (ks : List Str) (n : Str × Str), ds = [tS ks, nmD n] ∧ wordB n.1 = true ∧ n.2 ∈ ks ∧ Q (.bl true) M
theorem is_calling (ds : List D) (M : Mem) (Q : QE) (E : EX) (H : spCalling ds M Q E) : wSs (tb [spKind, spWord] [] []) ir_is_calling (endB Q) E (startD 2 ds) M := by
  obtain ⟨ks, ⟨w, k⟩, rfl, h1, h2, q⟩ := H
  unfold ir_is_calling nmD
  simp only at h1 h2
  walk_at "dl"
  refine ⟨w, rfl, word_sz h1, ?_⟩
  rw [h1]
  walk_at "dl"
  refine ⟨ks, k, rfl, ?_⟩
  rw [decide_eq_true h2]
  exact ⟨M, Sub.refl, q⟩
def rowD (x : Str × List D) : D := .tup (.str x.1 :: x.2)
def spUnlike : DSp := fun ds M Q E => ∃ (known : List Str) (xs : List (Str × List D)) (r : D), ds = [tS known, r] ∧ (r = .tup (xs.map rowD) ∨ r = .tx (xs.map rowD)) ∧ xs.length ≤ 1000 ∧ (known ++ xs.map (·.1)).Nodup ∧ Q (.bl true) M
theorem are_unlike (S : Tb) (ds : List D) (M : Mem) (Q : QE) (E : EX) (H : spUnlike ds M Q E) : wSs S ir_are_unlike (endB Q) E (startD 5 ds) M := by
  obtain ⟨known, xs, r, rfl, hr, hl, hn, q⟩ := H
  have s24 : sizeLine = 2 ^ 24 := rfl
  rw [List.nodup_append] at hn
  obtain ⟨n1, n2, n3⟩ := hn
  unfold ir_are_unlike
  walk_at "dl"
  refine lcT xs rowD (fun _ => true) (fun x => .str x.1) (fun R h => by rcases hr with rfl | rfl <;> exact h (fun _ => True) trivial) (by omega) (fun x hx K N h _ => ?_) ?_
  · unfold rowD dgStar dYes
    walk_at "dl"
    exact h rfl
  · have e : (xs.filter fun _ => true).map (fun x => D.str x.1) = (xs.map (·.1)).map D.str := by
      rw [List.filter_eq_self.mpr fun _ _ => rfl, List.map_map]; rfl
    rw [e]
    refine ⟨(xs.map (·.1)).map Sum.inr, keysD_strs, by simp; omega, ?_⟩
    rw [ddup_inr n2]
    have e2 : ((xs.map (·.1)).map D.str).length = (xs.map (·.1)).length := List.length_map _
    rw [e2]
    walk_at "dl"
    have hd : xs.map (fun x => x.1) = xs.map Prod.fst := rfl
    refine anyT (xs.map Prod.fst) D.str (fun w => decide (w ∈ known)) (fun R h => h (fun _ => True) trivial) (by rw [List.length_map]; omega) (fun w hw K h => ?_) ?_
    · unfold tS
      walk_at "dl"
      exact in_strs h
    · have : (xs.map (·.1)).any (fun w => decide (w ∈ known)) = false := List.any_eq_false.mpr fun w hw => by
        rw [decide_eq_true_eq]
        exact fun z => n3 w z w hw rfl
      rw [this]
      exact ⟨M, Sub.refl, q⟩
def spKinds : DSp := fun ds M Q E => ∃ ks : List Str, ds = [tS ks] ∧ ks ≠ [] ∧ (∀ w ∈ ks, wordB w = true) ∧ ks.Nodup ∧ ks.length ≤ 1000 ∧ Q (.bl true) M
theorem are_kinds (ds : List D) (M : Mem) (Q : QE) (E : EX) (H : spKinds ds M Q E) : wSs (tb [spWord] [] []) ir_are_kinds (endB Q) E (startD 2 ds) M := by
  obtain ⟨ks, rfl, h0, hw, hn, hl, q⟩ := H
  have s24 : sizeLine = 2 ^ 24 := rfl
  unfold ir_are_kinds tS
  walk_at "dl"
  refine ⟨Nat.zero_le _, dEq_tup0 goodL_strs ?_⟩
  have e0 : (ks.map D.str).isEmpty = false := by cases ks with
    | nil => exact absurd rfl h0
    | cons => rfl
  rw [e0]
  walk_at "dl"
  refine allT ks D.str wordB (fun R h => h (fun _ => True) trivial) (by omega) (fun w hk K h => ?_) ?_
  · walk_at "dl"
    exact ⟨w, rfl, word_sz (hw w hk), h⟩
  · have : ks.all wordB = true := List.all_eq_true.mpr hw
    rw [this]
    walk_at "dl"
    refine ⟨ks.map Sum.inr, keysD_strs, by rw [List.length_map]; omega, ?_⟩
    rw [ddup_inr hn, List.length_map]
    walk_at "dl"
    exact ⟨M, Sub.refl, q⟩
end PR

namespace PR
open PySem PySem.Spec PyProof.Rows L2 DL
local macro_rules | `(tactic| walk_at "dl") => `(tactic| simp only [wSs, wS, DL.wE, DL.wT, DL.wL, wEs, wO, wC, wI, wG, wGs, dSeq, dAsg, dPar, dIf, dDrop, dSlot, dC, CD.d, dBin, boR, coR, dSub, dMod, dFdiv, dTest, dChain, bQ, dNext, dRet, dRetN, dgName, dgSub, dgTup, dgCons, dgNil, dLst, dTup, dTupX, dCons, dNil, dIfE, dAndT, dOrT, dNotT, dAnd, dOr, dNot, dTruth, dTru_non, dTru_bl, dTru_int, dTru_str, dTru_tup, dTru_rl, dNeg, dSlice, dNoPart, dPart, dCall, dMt, dFnN, dMth, dFld, dSfl, dFz, dLcF, dNew, dNewD, dNewK, dLenK, dSliS, dSlS, dRevX, dgHead, dFrz, dForget, isTy, isIns, BF.rd, BT.rd, BM.rd, BM.ty, BF.rt, BT.rt, IEs.len, startD, getS, setS, wipeS, endB, tb, List.getD_cons_zero, List.getD_cons_succ, List.map_cons, List.map_nil, List.replicate, List.length_cons, List.length_nil, List.cons_append, List.nil_append, List.append_nil, dI_int, dAdd_int, dAdd_str, dAdd_tup, dIB_int, dLt_int, dLt_str, dEq_int, dEq_str, dNe_int, dNe_str, lenD_tup, lenD_rl, lenD_str, dMulA_int, dSl_str, ixN3_0, ixN3_1, ixN3_2, List.set_cons_zero, List.set_cons_succ, rAbs_int, rMin_int, rMax_int, rMin_str, rMax_str, dIx_wr, lenD_wr, atI_0, atI_1, atI_2, dIx_tup, dIx_rl, dIx_str, Option.some.injEq, exists_eq_left', decide_true, decide_false, eq_self, ite_true, ite_false, if_true, if_false, true_and, and_true, Bool.false_eq_true, Bool.not_true, Bool.not_false, Nat.reduceAdd, Nat.reduceSub, tTuple, tTupleX, dIs_non, dIs_bl, DL.isNon, dIn_str1, isi_str, isi_tup, isi_tx, isi_int, isi_rl, isi_bl, isi_non])
def shR (s : Str × Str × List Str) : Str × List D := (s.1, [.str s.2.1, tS s.2.2])
def nmR (n : Str × Str) : Str × List D := (n.1, [.str n.2])
def spFault : DSp := fun ds M Q E => ∃ g : Gr, ds = [g.kD, g.sD, g.nD] ∧ g.Ok ∧ Q .non M
theorem ground_fault (ds : List D) (M : Mem) (Q : QE) (E : EX) (H : spFault ds M Q E) : wSs (tb [spUnlike, spCalling, spShape, spKinds] [] []) ir_ground_fault (endB Q) E (startD 5 ds) M := by
  obtain ⟨g, rfl, ok, q⟩ := H
  have s24 : sizeLine = 2 ^ 24 := rfl
  have f1 := ok.fewK
  have f2 := ok.fewS
  have f3 := ok.fewN
  have un := ok.un
  have un1 : (g.kinds ++ (g.shapes.map shR).map Prod.fst).Nodup := by
    rw [← List.append_assoc] at un
    have : (g.shapes.map shR).map Prod.fst = g.shapes.map (·.1) := by rw [List.map_map]; rfl
    rw [this]
    exact (List.nodup_append.mp un).1
  have un2 : ((g.kinds ++ g.shapes.map (·.1)) ++ (g.names.map nmR).map Prod.fst).Nodup := by
    have : (g.names.map nmR).map Prod.fst = g.names.map (·.1) := by rw [List.map_map]; rfl
    rw [this, List.append_assoc]
    exact un
  unfold ir_ground_fault Gr.kD Gr.sD Gr.nD
  walk_at "dl"
  refine ⟨g.kinds, rfl, ok.k0, ok.kw, (List.nodup_append.mp un).1, by omega, ?_⟩
  walk_at "dl"
  refine allT g.shapes shD' (fun _ => true) (fun R h => h (fun _ => True) trivial) (by omega) (fun s hs K h => ?_) ?_
  · walk_at "dl"
    obtain ⟨a1, a2, a3, a4⟩ := ok.sw s hs
    exact ⟨g.kinds, s, rfl, a1, a2, a3, a4, h⟩
  · have : g.shapes.all (fun _ => true) = true := by simp
    rw [this]
    walk_at "dl"
    refine ⟨g.kinds, g.shapes.map shR, _, rfl, .inl (by rw [List.map_map]; rfl), by rw [List.length_map]; omega, un1, ?_⟩
    walk_at "dl"
    refine allT g.names nmD (fun _ => true) (fun R h => h (fun _ => True) trivial) (by omega) (fun n hn K h => ?_) ?_
    · walk_at "dl"
      obtain ⟨a1, a2⟩ := ok.nw n hn
      exact ⟨g.kinds, n, rfl, a1, a2, h⟩
    · have : g.names.all (fun _ => true) = true := by simp
      rw [this]
      unfold tS
      walk_at "dl"
      refine lcT g.shapes shD' (fun _ => true) (fun s => .str s.1) (fun R h => h (fun _ => True) trivial) (by omega) (fun s hs K N h _ => ?_) ?_
      · unfold shD' dYes
        walk_at "dl"
        exact h rfl
      · rw [List.filter_eq_self.mpr fun _ _ => rfl]
        walk_at "dl"
        have e : g.kinds.map D.str ++ g.shapes.map (fun s => D.str s.1) = (g.kinds ++ g.shapes.map (·.1)).map D.str := by rw [List.map_append, List.map_map]; rfl
        rw [e]
        refine ⟨by simp only [List.length_map]; omega, g.kinds ++ g.shapes.map (·.1), g.names.map nmR, _, rfl, .inr (by rw [List.map_map]; rfl), by rw [List.length_map]; omega, un2, ?_⟩
        walk_at "dl"
        exact ⟨M, Sub.refl, q⟩
end PR

namespace PR
open PySem PySem.Spec PyProof.Rows L2 DL
local macro_rules | `(tactic| walk_at "dl") => `(tactic| simp only [wSs, wS, DL.wE, DL.wT, DL.wL, wEs, wO, wC, wI, wG, wGs, dSeq, dAsg, dPar, dIf, dDrop, dSlot, dC, CD.d, dBin, boR, coR, dSub, dMod, dFdiv, dTest, dChain, bQ, dNext, dRet, dRetN, dgName, dgSub, dgTup, dgCons, dgNil, dLst, dTup, dTupX, dCons, dNil, dIfE, dAndT, dOrT, dNotT, dAnd, dOr, dNot, dTruth, dTru_non, dTru_bl, dTru_int, dTru_str, dTru_tup, dTru_rl, dNeg, dSlice, dNoPart, dPart, dCall, dMt, dFnN, dMth, dFld, dSfl, dFz, dLcF, dNew, dNewD, dNewK, dLenK, dSliS, dSlS, dRevX, dgHead, dFrz, dForget, isTy, isIns, BF.rd, BT.rd, BM.rd, BM.ty, BF.rt, BT.rt, IEs.len, startD, getS, setS, wipeS, endB, tb, List.getD_cons_zero, List.getD_cons_succ, List.map_cons, List.map_nil, List.replicate, List.length_cons, List.length_nil, List.cons_append, List.nil_append, List.append_nil, dI_int, dAdd_int, dAdd_str, dAdd_tup, dIB_int, dLt_int, dLt_str, dEq_int, dEq_str, dNe_int, dNe_str, lenD_tup, lenD_rl, lenD_str, dMulA_int, dSl_str, ixN3_0, ixN3_1, ixN3_2, List.set_cons_zero, List.set_cons_succ, rAbs_int, rMin_int, rMax_int, rMin_str, rMax_str, dIx_wr, lenD_wr, atI_0, atI_1, atI_2, dIx_tup, dIx_rl, dIx_str, Option.some.injEq, exists_eq_left', decide_true, decide_false, eq_self, ite_true, ite_false, if_true, if_false, true_and, and_true, Bool.false_eq_true, Bool.not_true, Bool.not_false, Nat.reduceAdd, Nat.reduceSub, tTuple, tTupleX, dIs_non, dIs_bl, DL.isNon, dIn_str1, isi_str, isi_tup, isi_tx, isi_int, isi_rl, isi_bl, isi_non])
/-! a theory in the memory -/
def Gr.called (g : Gr) : List (Key × D) := g.names.map fun n => (.inr n.1, .str n.2)
def Gr.made (g : Gr) : List (Key × D) := g.shapes.map fun s => (.inr s.1, .tup [.str s.2.1, tS s.2.2])
structure ThAt (C : Addr) (M : Mem) (t : Addr) (g : Gr) (kept : List (Key × D)) : Prop where
  ex : ∃ pc pm pk : Addr, M t = some (.ins C [("kinds", g.kD), ("shapes", g.sD), ("names", g.nD), ("called", .ref pc), ("made", .ref pm), ("kept", .ref pk)]) ∧ M pc = some (.dK g.called) ∧ M pm = some (.dK g.made) ∧ M pk = some (.dK kept)
theorem ThAt.sub {C : Addr} {M M' : Mem} {t : Addr} {g : Gr} {kept : List (Key × D)} (h : ThAt C M t g kept) (s : Sub M M') : ThAt C M' t g kept := by
  obtain ⟨pc, pm, pk, h1, h2, h3, h4⟩ := h
  exact ⟨pc, pm, pk, s _ _ h1, s _ _ h2, s _ _ h3, s _ _ h4⟩
theorem ThAt.wr {C : Addr} {M : Mem} {t h : Addr} {g : Gr} {kept : List (Key × D)} {xs : List D} {o : MO} (q : ThAt C M t g kept) (hh : M h = some (.lst xs)) : ThAt C (wr M h o) t g kept := by
  obtain ⟨pc, pm, pk, h1, h2, h3, h4⟩ := q
  have ne : ∀ {a : Addr} {u : MO}, M a = some u → u ≠ .lst xs → a ≠ h := fun {a u} e k z => by subst z; rw [e] at hh; cases hh; exact k rfl
  refine ⟨pc, pm, pk, ?_, ?_, ?_, ?_⟩
  · rw [wr_ne (ne h1 fun z => by cases z)]; exact h1
  · rw [wr_ne (ne h2 fun z => by cases z)]; exact h2
  · rw [wr_ne (ne h3 fun z => by cases z)]; exact h3
  · rw [wr_ne (ne h4 fun z => by cases z)]; exact h4
theorem mergeG_nodup {kvs more : List (Key × D)} (h : ((kvs ++ more).map (·.1)).Nodup) : mergeG kvs more = kvs ++ more := by
  induction more generalizing kvs with
  | nil => simp [mergeG]
  | cons p r ih =>
    have hp : putG kvs p.1 p.2 = kvs ++ [p] := by
      unfold putG
      rw [if_neg]
      rw [Bool.not_eq_true, List.any_eq_false]
      intro q hq
      rw [decide_eq_true_eq]
      intro e
      rw [List.map_append, List.nodup_append] at h
      exact h.2.2 q.1 (List.mem_map_of_mem hq) p.1 (by simp) e
    show mergeG (putG kvs p.1 p.2) r = _
    rw [hp, ih (by simpa using h)]
    simp
def spInit (C : Addr) : DSp := fun ds M Q E => ∃ (t : Addr) (g : Gr), ds = [.ref t, g.kD, g.sD, g.nD, .non] ∧ g.Ok ∧ M t = some (.ins C []) ∧ ∀ M', ThAt C M' t g [] → (∀ a o, a ≠ t → M a = some o → M' a = some o) → Q .non M'
theorem wr_fresh {M : Mem} {p q : Addr} {o : MO} (h : wr M p o q = none) : q ≠ p ∧ M q = none := by
  by_cases e : q = p
  · subst e; rw [wr_same] at h; cases h
  · rw [wr_ne e] at h; exact ⟨e, h⟩
theorem pfl {f : Str} {d : D} {l : List (Str × D)} {n : Nat} (h : l.length ≤ n) : (putFD f d l).length ≤ n + 1 := by
  refine Nat.le_trans ?_ (Nat.succ_le_succ h)
  clear h
  induction l with
  | nil => exact Nat.le_refl _
  | cons p r ih =>
    unfold putFD
    split
    · simp
    · simp only [List.length_cons]
      omega
theorem pf6 {l : List (Str × D)} {n : Nat} (h : l.length ≤ n) (k : n < 1000) : l.length < 1000 := Nat.lt_of_le_of_lt h k
theorem theory_init (C : Addr) (ds : List D) (M : Mem) (Q : QE) (E : EX) (H : spInit C ds M Q E) : wSs (tb [spFault] [] [C]) ir_Theory___init__ (endB Q) E (startD 12 ds) M := by
  obtain ⟨t, g, rfl, ok, hM, q⟩ := H
  have s24 : sizeLine = 2 ^ 24 := rfl
  have f2 := ok.fewS
  have f3 := ok.fewN
  have un := ok.un
  rw [List.nodup_append, List.nodup_append] at un
  have uc : ((([] : List (Key × D)) ++ g.called).map (·.1)).Nodup := by
    have : g.called.map (·.1) = (g.names.map (·.1)).map Sum.inr := by unfold Gr.called; rw [List.map_map, List.map_map]; rfl
    rw [List.nil_append, this]
    exact List.pairwise_map.mpr (un.2.1.2.1.imp fun ne e => ne (by injection e))
  have um : ((([] : List (Key × D)) ++ g.made).map (·.1)).Nodup := by
    have : g.made.map (·.1) = (g.shapes.map (·.1)).map Sum.inr := by unfold Gr.made; rw [List.map_map, List.map_map]; rfl
    rw [List.nil_append, this]
    exact List.pairwise_map.mpr (un.2.1.1.imp fun ne e => ne (by injection e))
  unfold ir_Theory___init__
  walk_at "dl"
  refine ⟨g, rfl, ok, ?_⟩
  walk_at "dl"
  refine ⟨_, hM, (by decide), _, wr_same, (pf6 (pfl (Nat.le_refl 0)) (by decide)), _, wr_same, (pf6 (pfl (pfl (Nat.le_refl 0))) (by decide)), ?_⟩
  refine dcT g.names nmD (fun n => .inr n.1) (fun n => .str n.2) (fun R h => h (fun _ => True) trivial) (by omega) (fun n hn K h => ?_) ?_
  · unfold nmD
    walk_at "dl"
    exact h
  · have e1 : mergeG [] (g.names.map fun (n : Str × Str) => ((.inr n.1 : Key), D.str n.2)) = g.called := mergeG_nodup uc
    rw [e1]
    intro pc hc
    have t1 : M pc = none ∧ pc ≠ t := by
      obtain ⟨a1, a2⟩ := wr_fresh hc
      obtain ⟨_, a2⟩ := wr_fresh a2
      obtain ⟨_, a2⟩ := wr_fresh a2
      exact ⟨a2, a1⟩
    refine ⟨_, by rw [wr_ne t1.2.symm]; exact wr_same, (pf6 (pfl (pfl (pfl (Nat.le_refl 0)))) (by decide)), ?_⟩
    refine dcT g.shapes shD' (fun s => .inr s.1) (fun s => .tup [.str s.2.1, tS s.2.2]) (fun R h => h (fun _ => True) trivial) (by omega) (fun s hs K h => ?_) ?_
    · unfold shD'
      walk_at "dl"
      exact ⟨by omega, h⟩
    · have e2 : mergeG [] (g.shapes.map fun (s : Str × Str × List Str) => ((.inr s.1 : Key), D.tup [.str s.2.1, tS s.2.2])) = g.made := mergeG_nodup um
      rw [e2]
      intro pm hm
      have t2 : M pm = none ∧ pm ≠ t ∧ pm ≠ pc := by
        obtain ⟨a1, a2⟩ := wr_fresh hm
        obtain ⟨a3, a2⟩ := wr_fresh a2
        obtain ⟨_, a2⟩ := wr_fresh a2
        obtain ⟨_, a2⟩ := wr_fresh a2
        obtain ⟨_, a2⟩ := wr_fresh a2
        exact ⟨a2, a1, a3⟩
      refine ⟨_, by rw [wr_ne t2.2.1.symm]; exact wr_same, (pf6 (pfl (pfl (pfl (pfl (Nat.le_refl 0))))) (by decide)), fun pk hk => ?_⟩
      have t3 : M pk = none ∧ pk ≠ t ∧ pk ≠ pc ∧ pk ≠ pm := by
        obtain ⟨a1, a2⟩ := wr_fresh hk
        obtain ⟨a4, a2⟩ := wr_fresh a2
        obtain ⟨_, a2⟩ := wr_fresh a2
        obtain ⟨a3, a2⟩ := wr_fresh a2
        obtain ⟨_, a2⟩ := wr_fresh a2
        obtain ⟨_, a2⟩ := wr_fresh a2
        obtain ⟨_, a2⟩ := wr_fresh a2
        exact ⟨a2, a1, a3, a4⟩
      refine ⟨_, by rw [wr_ne t3.2.1.symm]; exact wr_same, (pf6 (pfl (pfl (pfl (pfl (pfl (Nat.le_refl 0)))))) (by decide)), ?_⟩
      unfold lp_Theory___init___0
      walk_at "dl"
      refine forI (α := D) [] id (fun r e' M' => r = [] ∧ ThAt C M' t g [] ∧ (∀ a o, a ≠ t → M a = some o → M' a = some o)) (fun R h => by
        unfold diAny
        walk_at "dl"
        exact ⟨Nat.zero_le _, h (fun _ => True) fun _ _ _ _ => trivial⟩) ⟨rfl, ?_, fun a o ha e => ?_⟩ (fun a r e' M' _ ⟨z, _⟩ => by cases z) fun e' M' ⟨_, h1, h2⟩ => ?_
      · refine ⟨pc, pm, pk, wr_same, ?_, ?_, ?_⟩
        · rw [wr_ne t1.2, wr_ne t3.2.2.1.symm, wr_ne t1.2, wr_ne t2.2.2.symm, wr_ne t1.2]; exact wr_same
        · rw [wr_ne t2.2.1, wr_ne t3.2.2.2.symm, wr_ne t2.2.1]; exact wr_same
        · rw [wr_ne t3.2.1]; exact wr_same
      · have h1 : a ≠ pc := fun z => by subst z; rw [t1.1] at e; cases e
        have h2 : a ≠ pm := fun z => by subst z; rw [t2.1] at e; cases e
        have h3 : a ≠ pk := fun z => by subst z; rw [t3.1] at e; cases e
        rw [wr_ne ha, wr_ne h3, wr_ne ha, wr_ne h2, wr_ne ha, wr_ne h1, wr_ne ha, wr_ne ha, wr_ne ha]
        exact e
      · exact ⟨M', Sub.refl, q M' h1 h2⟩
end PR

namespace PR
open PySem PySem.Spec PyProof.Rows L2 DL
local macro_rules | `(tactic| walk_at "dl") => `(tactic| simp only [wSs, wS, DL.wE, DL.wT, DL.wL, wEs, wO, wC, wI, wG, wGs, dSeq, dAsg, dPar, dIf, dDrop, dSlot, dC, CD.d, dBin, boR, coR, dSub, dMod, dFdiv, dTest, dChain, bQ, dNext, dRet, dRetN, dgName, dgSub, dgTup, dgCons, dgNil, dLst, dTup, dTupX, dCons, dNil, dIfE, dAndT, dOrT, dNotT, dAnd, dOr, dNot, dTruth, dTru_non, dTru_bl, dTru_int, dTru_str, dTru_tup, dTru_rl, dNeg, dSlice, dNoPart, dPart, dCall, dMt, dFnN, dMth, dFld, dSfl, dFz, dLcF, dNew, dNewD, dNewK, dLenK, dSliS, dSlS, dRevX, dgHead, dFrz, dForget, isTy, isIns, BF.rd, BT.rd, BM.rd, BM.ty, BF.rt, BT.rt, IEs.len, startD, getS, setS, wipeS, endB, tb, List.getD_cons_zero, List.getD_cons_succ, List.map_cons, List.map_nil, List.replicate, List.length_cons, List.length_nil, List.cons_append, List.nil_append, List.append_nil, dI_int, dAdd_int, dAdd_str, dAdd_tup, dIB_int, dLt_int, dLt_str, dEq_int, dEq_str, dNe_int, dNe_str, lenD_tup, lenD_rl, lenD_str, dMulA_int, dSl_str, ixN3_0, ixN3_1, ixN3_2, List.set_cons_zero, List.set_cons_succ, rAbs_int, rMin_int, rMax_int, rMin_str, rMax_str, dIx_wr, lenD_wr, atI_0, atI_1, atI_2, dIx_tup, dIx_rl, dIx_str, Option.some.injEq, exists_eq_left', decide_true, decide_false, eq_self, ite_true, ite_false, if_true, if_false, true_and, and_true, Bool.false_eq_true, Bool.not_true, Bool.not_false, Nat.reduceAdd, Nat.reduceSub, tTuple, tTupleX, dIs_non, dIs_bl, DL.isNon, dIn_str1, isi_str, isi_tup, isi_tx, isi_int, isi_rl, isi_bl, isi_non])
/-! what a word makes; the kind of a row -/
def Gr.mak (g : Gr) (w : Str) : Option (Str × List Str) := match g.names.lookup w with
  | some k => some (k, [])
  | none => g.shapes.lookup w
def mkD : Option (Str × List Str) → D
  | some (k, ps) => .tup [.str k, tS ps]
  | none => .non
def oD : Option Str → D
  | some k => .str k
  | none => .non
/-- the road of kind_of: the words, what is wanted (next first), what is found -/
def Gr.go (g : Gr) : List Str → List (Option Str) → Option Str → Option Str
  | [], st, f => if st = [] then f else none
  | w :: r, st, f => match g.mak w with
    | none => none
    | some (k, ps) => match st with
      | [] => none
      | t :: st => if t = none ∨ t = some k then g.go r (ps.map some ++ st) (f.or (some k)) else none
def Gr.kindOf (g : Gr) (ws : List Str) : Option Str := if ws = [] then none else g.go ws [none] none
theorem valG_map {α β : Type} {xs : List (Str × α)} {w : Str} (f : α → β) : valG (xs.map fun n => ((.inr n.1 : Key), f n.2)) (.inr w) = (xs.lookup w).map f := by
  induction xs with
  | nil => rfl
  | cons p r ih =>
    rw [List.map_cons, valG_cons, ih, List.lookup_cons]
    by_cases h : p.1 = w
    · have : (w == p.1) = true := by rw [h]; exact beq_self_eq_true w
      rw [if_pos (by rw [h]), this]; rfl
    · have : (w == p.1) = false := beq_eq_false_iff_ne.mpr fun e => h e.symm
      rw [if_neg (fun e => h (by injection e)), this]
theorem called_val {g : Gr} {w : Str} : valG g.called (.inr w) = (g.names.lookup w).map D.str := valG_map (α := Str) (β := D) D.str
theorem made_val {g : Gr} {w : Str} : valG g.made (.inr w) = (g.shapes.lookup w).map fun s => .tup [.str s.1, tS s.2] := valG_map (α := Str × List Str) (β := D) fun s => .tup [.str s.1, tS s.2]
def spIsCalled (C : Addr) : DSp := fun ds M Q E => ∃ (t : Addr) (g : Gr) (kept : List (Key × D)) (w : Str), ds = [.ref t, .str w] ∧ ThAt C M t g kept ∧ Q (.bl (g.names.lookup w).isSome) M
theorem is_called (C : Addr) (ds : List D) (M : Mem) (Q : QE) (E : EX) (H : spIsCalled C ds M Q E) : wSs (tb [] [] [C]) ir_Theory_is_called (endB Q) E (startD 2 ds) M := by
  obtain ⟨t, g, kept, w, rfl, ⟨pc, pm, pk, h1, h2, h3, h4⟩, q⟩ := H
  unfold ir_Theory_is_called
  walk_at "dl"
  refine ⟨_, _, h1, rfl, ?_⟩
  rw [dIn_dict h2 (k := .inr w) rfl, called_val]
  walk_at "dl"
  rw [Option.isSome_map]
  exact ⟨M, Sub.refl, q⟩
def spMaking (C : Addr) : DSp := fun ds M Q E => ∃ (t : Addr) (g : Gr) (kept : List (Key × D)) (w : Str), ds = [.ref t, .str w] ∧ ThAt C M t g kept ∧ Q (mkD (g.mak w)) M
theorem making (C : Addr) (ds : List D) (M : Mem) (Q : QE) (E : EX) (H : spMaking C ds M Q E) : wSs (tb [] [] [C]) ir_Theory_making (endB Q) E (startD 2 ds) M := by
  obtain ⟨t, g, kept, w, rfl, ⟨pc, pm, pk, h1, h2, h3, h4⟩, q⟩ := H
  unfold ir_Theory_making
  walk_at "dl"
  refine ⟨_, _, h1, rfl, ?_⟩
  rw [dIn_dict h2 (k := .inr w) rfl, called_val]
  walk_at "dl"
  unfold Gr.mak at q
  cases e : g.names.lookup w with
  | some k =>
    rw [e] at q
    simp only [Option.map_some, Option.isSome_some]
    walk_at "dl"
    refine ⟨_, _, h1, rfl, ?_⟩
    rw [dIx_dict h2 (k := .inr w) (d := .str k) rfl (by rw [called_val, e]; rfl)]
    exact ⟨by decide, by decide, M, Sub.refl, q⟩
  | none =>
    rw [e] at q
    simp only [Option.map_none, Option.isSome_none]
    walk_at "dl"
    refine ⟨_, _, h1, rfl, ?_⟩
    refine ⟨.inr (.inl ⟨_, h3⟩), ?_⟩
    rw [mGet1 h3 (k := .inr w) rfl, made_val]
    refine ⟨M, Sub.refl, ?_⟩
    cases e2 : g.shapes.lookup w with
    | none => rw [e2] at q; exact q
    | some s => rw [e2] at q; exact q
theorem lookup_in {α : Type} {xs : List (Str × α)} {w : Str} {v : α} (h : xs.lookup w = some v) : (w, v) ∈ xs := by
  induction xs with
  | nil => cases h
  | cons p r ih =>
    obtain ⟨a, b⟩ := p
    rw [List.lookup_cons] at h
    cases e : (w == a) with
    | true => rw [e] at h; cases h; rw [beq_iff_eq.mp e]; exact List.mem_cons_self
    | false => rw [e] at h; exact List.mem_cons_of_mem _ (ih h)
theorem mak_ok {g : Gr} (ok : g.Ok) {w k : Str} {ps : List Str} (h : g.mak w = some (k, ps)) : k ∈ g.kinds ∧ wordB k = true ∧ ps.length ≤ 3 ∧ ∀ p ∈ ps, p ∈ g.kinds := by
  unfold Gr.mak at h
  cases e : g.names.lookup w with
  | some k' =>
    rw [e] at h
    cases h
    have := (ok.nw _ (lookup_in e)).2
    exact ⟨this, ok.kw _ this, by simp, by simp⟩
  | none =>
    rw [e] at h
    obtain ⟨h1, h2, h3, h4⟩ := ok.sw _ (lookup_in h)
    exact ⟨h2, ok.kw _ h2, h3, h4⟩
theorem good_oD (o : Option Str) (n : Nat) : good (oD o) n = true := by cases o <;> rfl
theorem word_pos {w : Str} (h : wordB w = true) : 1 ≤ w.length := by
  unfold wordB at h
  simp only [Bool.and_eq_true, decide_eq_true_eq] at h
  omega
def spKindOf (C : Addr) : DSp := fun ds M Q E => ∃ (t : Addr) (g : Gr) (kept : List (Key × D)) (ws : List Str), ds = [.ref t, tS ws] ∧ g.Ok ∧ ThAt C M t g kept ∧ ws.length ≤ 100000 ∧ Q (oD (g.kindOf ws)) M
theorem kind_of (C : Addr) (ds : List D) (M : Mem) (Q : QE) (E : EX) (H : spKindOf C ds M Q E) : wSs (tb [] [spMaking C] [C]) ir_kind_of (endB Q) E (startD 8 ds) M := by
  obtain ⟨t, g, kept, ws, rfl, ok, th, hl, q⟩ := H
  have s24 : sizeLine = 2 ^ 24 := rfl
  unfold ir_kind_of tS
  walk_at "dl"
  refine ⟨Nat.zero_le _, dEq_tup0 goodL_strs ?_⟩
  unfold Gr.kindOf at q
  cases hw : ws with
  | nil =>
    subst hw
    walk_at "dl"
    exact ⟨M, Sub.refl, q⟩
  | cons w0 r0 =>
  rw [← hw]
  have e0 : (ws.map D.str).isEmpty = false := by rw [hw]; rfl
  rw [e0]
  rw [if_neg (by rw [hw]; simp)] at q
  walk_at "dl"
  refine ⟨by decide, fun p hp => ?_⟩
  have hpt : p ≠ t := fun z => by
    subst z
    obtain ⟨pc, pm, pk, h1, _⟩ := th
    rw [hp] at h1; cases h1
  unfold lp_kind_of_0
  walk_at "dl"
  generalize hres : g.go ws [none] none = res at q
  refine forI ws D.str (fun r e' M' => ∃ (st : List (Option Str)) (f : Option Str) (x4 x5 x6 x7 : Option D), e' = [some (.ref t), some (.tup (ws.map .str)), some (.ref p), some (oD f), x4, x5, x6, x7] ∧ M' = wr M p (.lst (st.map oD).reverse) ∧ g.go r st f = res ∧ st.length + r.length * 3 ≤ 1 + ws.length * 3 ∧ ∀ k, f = some k → wordB k = true) (fun R h => by
    unfold diAny
    walk_at "dl"
    exact h (fun _ => True) fun _ _ _ _ => trivial) ⟨[none], none, none, none, none, none, rfl, rfl, hres, by simp, fun _ h => by cases h⟩ ?_ ?_
  · rintro w r e' M' _ ⟨st, f, x4, x5, x6, x7, rfl, rfl, hgo, hlen, hf⟩
    have hm : ∀ o, ThAt C (wr M p o) t g kept := fun o => th.sub (sub_wr hp)
    walk_at "dl"
    obtain ⟨pc, pm, pk, h1, h2, h3, h4⟩ := id th
    refine ⟨⟨_, by rw [wr_ne hpt.symm]; exact h1, rfl⟩, t, g, kept, w, rfl, hm _, ?_⟩
    unfold Gr.go at hgo
    cases e : g.mak w with
    | none =>
      rw [e] at hgo
      unfold mkD
      walk_at "dl"
      have : res = none := hgo.symm
      subst this
      exact ⟨M, sub_wr hp, q⟩
    | some kp =>
      obtain ⟨k, ps⟩ := kp
      obtain ⟨k1, k2, k3, k4⟩ := mak_ok ok e
      rw [e] at hgo
      unfold mkD
      walk_at "dl"
      refine ⟨Nat.zero_le _, fun p1 hp1 => ⟨_, wr_same, ?_⟩⟩
      rw [mdel_wr hp1]
      refine dEq_lst0 wr_same (goodL_all.mpr fun x hx => ?_) ?_
      · rw [List.mem_reverse] at hx
        obtain ⟨o, _, rfl⟩ := List.mem_map.mp hx
        exact good_oD o _
      cases st with
      | nil =>
        simp only [List.map_nil, List.reverse_nil, List.isEmpty_nil]
        walk_at "dl"
        have : res = none := hgo.symm
        subst this
        exact ⟨M, sub_wr hp, q⟩
      | cons t0 st =>
        have e1 : (List.map oD (t0 :: st)).reverse.isEmpty = false := by simp
        rw [e1]
        walk_at "dl"
        refine ⟨.inl ⟨_, wr_same⟩, (List.map oD (t0 :: st)).reverse, oD t0, wr_same, by simp, by decide, ?_⟩
        rw [wr_wr]
        have e2 : (List.map oD (t0 :: st)).reverse.dropLast = (st.map oD).reverse := by simp
        rw [e2]
        refine dIn_tup (good_oD t0 _) (goodL_all.mpr fun x hx => ?_) fun b hb => ?_
        · simp at hx
          rcases hx with rfl | rfl <;> rfl
        have hb' : b = true ↔ (t0 = none ∨ t0 = some k) := by
          rw [hb]
          cases t0 with
          | none => simp [oD]
          | some z => simp [oD]
        by_cases ht : t0 = none ∨ t0 = some k
        · have : b = true := hb'.mpr ht
          subst this
          simp only [if_pos ht] at hgo
          walk_at "dl"
          have e3 : (st.map oD).reverse ++ (ps.map D.str).reverse = ((ps.map some ++ st).map oD).reverse := by
            rw [List.map_append, List.reverse_append, List.map_map]
            rfl
          have hl2 : st.length + 1 + (r.length + 1) * 3 ≤ 1 + ws.length * 3 := hlen
          have sz : (st.map oD).reverse.length + (ps.map D.str).reverse.length ≤ sizeLine := by
            simp only [List.length_reverse, List.length_map]
            omega
          have hl3 : (ps.map some ++ st).length + r.length * 3 ≤ 1 + ws.length * 3 := by
            rw [List.length_append, List.length_map]
            omega
          cases f with
          | none =>
            refine ⟨.inl ⟨_, wr_same⟩, by decide, _, wr_same, sz, ps.map some ++ st, some k, _, _, _, _, rfl, by rw [wr_wr, e3], hgo, hl3, fun z hz => by cases hz; exact k2⟩
          | some k0 =>
            refine dTru_str' (word_pos (hf k0 rfl)) (word_sz (hf k0 rfl)) ⟨.inl ⟨_, wr_same⟩, by decide, _, wr_same, sz, ps.map some ++ st, some k0, _, _, _, _, rfl, by rw [wr_wr, e3], hgo, hl3, hf⟩
        · have : b = false := by
            cases b
            · rfl
            · exact absurd (hb'.mp rfl) ht
          subst this
          simp only [if_neg ht] at hgo
          walk_at "dl"
          have : res = none := hgo.symm
          subst this
          exact ⟨M, sub_wr hp, q⟩
  · rintro e' M' ⟨st, f, x4, x5, x6, x7, rfl, rfl, hgo, hlen, hf⟩
    walk_at "dl"
    refine ⟨Nat.zero_le _, fun p1 hp1 => ⟨_, wr_same, ?_⟩⟩
    rw [mdel_wr hp1]
    refine dEq_lst0 wr_same (goodL_all.mpr fun x hx => ?_) ?_
    · rw [List.mem_reverse] at hx
      obtain ⟨o, _, rfl⟩ := List.mem_map.mp hx
      exact good_oD o _
    unfold Gr.go at hgo
    cases st with
    | nil =>
      simp only [List.map_nil, List.reverse_nil, List.isEmpty_nil]
      walk_at "dl"
      subst hgo
      exact ⟨M, sub_wr hp, q⟩
    | cons t0 st =>
      have e1 : (List.map oD (t0 :: st)).reverse.isEmpty = false := by simp
      rw [e1]
      walk_at "dl"
      subst hgo
      exact ⟨M, sub_wr hp, q⟩
end PR

namespace PR
open PySem PySem.Spec PyProof.Rows L2 DL
local macro_rules | `(tactic| walk_at "dl") => `(tactic| simp only [wSs, wS, DL.wE, DL.wT, DL.wL, wEs, wO, wC, wI, wG, wGs, dSeq, dAsg, dPar, dIf, dDrop, dSlot, dC, CD.d, dBin, boR, coR, dSub, dMod, dFdiv, dTest, dChain, bQ, dNext, dRet, dRetN, dgName, dgSub, dgTup, dgCons, dgNil, dLst, dTup, dTupX, dCons, dNil, dIfE, dAndT, dOrT, dNotT, dAnd, dOr, dNot, dTruth, dTru_non, dTru_bl, dTru_int, dTru_str, dTru_tup, dTru_rl, dNeg, dSlice, dNoPart, dPart, dCall, dMt, dFnN, dMth, dFld, dSfl, dFz, dLcF, dNew, dNewD, dNewK, dLenK, dSliS, dSlS, dRevX, dgHead, dFrz, dForget, isTy, isIns, BF.rd, BT.rd, BM.rd, BM.ty, BF.rt, BT.rt, IEs.len, startD, getS, setS, wipeS, endB, tb, List.getD_cons_zero, List.getD_cons_succ, List.map_cons, List.map_nil, List.replicate, List.length_cons, List.length_nil, List.cons_append, List.nil_append, List.append_nil, dI_int, dAdd_int, dAdd_str, dAdd_tup, dIB_int, dLt_int, dLt_str, dEq_int, dEq_str, dNe_int, dNe_str, lenD_tup, lenD_rl, lenD_str, dMulA_int, dSl_str, ixN3_0, ixN3_1, ixN3_2, List.set_cons_zero, List.set_cons_succ, rAbs_int, rMin_int, rMax_int, rMin_str, rMax_str, dIx_wr, lenD_wr, atI_0, atI_1, atI_2, dIx_tup, dIx_rl, dIx_str, Option.some.injEq, exists_eq_left', decide_true, decide_false, eq_self, ite_true, ite_false, if_true, if_false, true_and, and_true, Bool.false_eq_true, Bool.not_true, Bool.not_false, Nat.reduceAdd, Nat.reduceSub, tTuple, tTupleX, dIs_non, dIs_bl, DL.isNon, dIn_str1, isi_str, isi_tup, isi_tx, isi_int, isi_rl, isi_bl, isi_non])
/-! putting bodies in -/
def ptD (p : Str × List Str) : D := .tup [.str p.1, tS p.2]
def putIn (pairs : List (Str × List Str)) (ws : List Str) : List Str := ws.flatMap fun w => (pairs.lookup w).getD [w]
def pairsK (pairs : List (Str × List Str)) : List (Key × D) := pairs.map fun p => (.inr p.1, tS p.2)
theorem pairsK_merge {pairs : List (Str × List Str)} (h : (pairs.map Prod.fst).Nodup) : mergeG [] (pairsK pairs) = pairsK pairs := by
  refine mergeG_nodup ?_
  have : (([] : List (Key × D)) ++ pairsK pairs).map (·.1) = (pairs.map Prod.fst).map Sum.inr := by
    unfold pairsK
    rw [List.nil_append, List.map_map, List.map_map]
    rfl
  rw [this]
  exact List.pairwise_map.mpr (h.imp fun ne e => ne (by injection e))
theorem pairsK_val {pairs : List (Str × List Str)} {w : Str} : valG (pairsK pairs) (.inr w) = (pairs.lookup w).map tS := valG_map (α := List Str) (β := D) tS
def spPutIn : DSp := fun ds M Q E => ∃ (ws : List Str) (pairs : List (Str × List Str)), ds = [tS ws, .tx (pairs.map ptD)] ∧ (pairs.map Prod.fst).Nodup ∧ (putIn pairs ws).length ≤ 100000 ∧ Q (tS (putIn pairs ws)) M
theorem put_in (S : Tb) (ds : List D) (M : Mem) (Q : QE) (E : EX) (H : spPutIn ds M Q E) : wSs S ir_put_in (endB Q) E (startD 5 ds) M := by
  obtain ⟨ws, pairs, rfl, hn, hl, q⟩ := H
  have s24 : sizeLine = 2 ^ 24 := rfl
  unfold ir_put_in
  walk_at "dl"
  refine ⟨pairsK pairs, ?_, fun p hp => ?_⟩
  · unfold pairsK
    rw [List.map_map]
    rfl
  rw [pairsK_merge hn]
  have hb : ∀ a ∈ ws, (((pairs.lookup a).getD [a]).map D.str).length ≤ (putIn pairs ws).length := fun a ha => by
    unfold putIn
    obtain ⟨pre, suf, e⟩ := List.append_of_mem ha
    rw [e, List.flatMap_append, List.flatMap_cons, List.length_append, List.length_append, List.length_map]
    omega
  have e0 : ((ws.filter fun _ => true).flatMap fun w => ((pairs.lookup w).getD [w]).map D.str) = (putIn pairs ws).map D.str := by
    rw [List.filter_eq_self.mpr fun _ _ => rfl]
    unfold putIn
    rw [List.map_flatMap]
  refine lc2T ws D.str (fun _ => true) (fun w => ((pairs.lookup w).getD [w]).map D.str) (fun R h => by
    unfold diAny
    walk_at "dl"
    exact h (fun _ => True) trivial) (by rw [e0, List.length_map]; omega) (fun w hw acc J h1 _ => ?_) ?_
  · obtain ⟨h2, h3⟩ := h1 rfl
    unfold diAny dYes
    walk_at "dl"
    refine ⟨.inr (.inl ⟨_, wr_same⟩), by decide, ?_⟩
    rw [mGet2 wr_same (k := .inr w) rfl, pairsK_val]
    have e1 : ((pairs.lookup w).map tS).getD (.tup [.str w]) = .tup (((pairs.lookup w).getD [w]).map D.str) := by cases pairs.lookup w <;> rfl
    rw [e1]
    show In2 (dgName 4) dYes (dSlot 4) [4] _ acc J ⟨((pairs.lookup w).getD [w]).map D.str, fun _ => True⟩ _
    refine in2T (acc := acc) ((pairs.lookup w).getD [w]) D.str (fun _ => true) D.str (live := fun _ => True) trivial (by rw [List.length_map] at h2; exact h2) (fun b hb K N h4 _ => ?_) ?_
    · unfold dYes
      walk_at "dl"
      exact h4 rfl
    · rw [List.filter_eq_self.mpr fun _ _ => rfl]
      exact h3
  · rw [e0]
    exact ⟨M, sub_wr hp, q⟩
end PR

namespace PR
open PySem PySem.Spec PyProof.Rows L2 DL
local macro_rules | `(tactic| walk_at "dl") => `(tactic| simp only [wSs, wS, DL.wE, DL.wT, DL.wL, wEs, wO, wC, wI, wG, wGs, dSeq, dAsg, dPar, dIf, dDrop, dSlot, dC, CD.d, dBin, boR, coR, dSub, dMod, dFdiv, dTest, dChain, bQ, dNext, dRet, dRetN, dgName, dgSub, dgTup, dgCons, dgNil, dLst, dTup, dTupX, dCons, dNil, dIfE, dAndT, dOrT, dNotT, dAnd, dOr, dNot, dTruth, dTru_non, dTru_bl, dTru_int, dTru_str, dTru_tup, dTru_rl, dNeg, dSlice, dNoPart, dPart, dCall, dMt, dFnN, dMth, dFld, dSfl, dFz, dLcF, dNew, dNewD, dNewK, dLenK, dSliS, dSlS, dRevX, dgHead, dFrz, dForget, isTy, isIns, BF.rd, BT.rd, BM.rd, BM.ty, BF.rt, BT.rt, IEs.len, startD, getS, setS, wipeS, endB, tb, List.getD_cons_zero, List.getD_cons_succ, List.map_cons, List.map_nil, List.replicate, List.length_cons, List.length_nil, List.cons_append, List.nil_append, List.append_nil, dI_int, dAdd_int, dAdd_str, dAdd_tup, dIB_int, dLt_int, dLt_str, dEq_int, dEq_str, dNe_int, dNe_str, lenD_tup, lenD_rl, lenD_str, dMulA_int, dSl_str, ixN3_0, ixN3_1, ixN3_2, List.set_cons_zero, List.set_cons_succ, rAbs_int, rMin_int, rMax_int, rMin_str, rMax_str, dIx_wr, lenD_wr, atI_0, atI_1, atI_2, dIx_tup, dIx_rl, dIx_str, Option.some.injEq, exists_eq_left', decide_true, decide_false, eq_self, ite_true, ite_false, if_true, if_false, true_and, and_true, Bool.false_eq_true, Bool.not_true, Bool.not_false, Nat.reduceAdd, Nat.reduceSub, tTuple, tTupleX, dIs_non, dIs_bl, DL.isNon, dIn_str1, isi_str, isi_tup, isi_tx, isi_int, isi_rl, isi_bl, isi_non])
/-! bodies, and what putting in leaves alone -/
def Gr.Reads (g : Gr) (ps r : List Str) : Prop := ∀ rest st (f : Str), g.go (r ++ rest) (ps.map some ++ st) (some f) = g.go rest st (some f)
def Gr.IsBody (g : Gr) (k : Str) (b : List Str) : Prop := ∃ w r ps, b = w :: r ∧ g.mak w = some (k, ps) ∧ g.Reads ps r
theorem reads_nil (g : Gr) : g.Reads [] [] := fun _ _ _ => rfl
theorem reads_snoc {g : Gr} {ps r : List Str} {p : Str} {b : List Str} (h : g.Reads ps r) (hb : g.IsBody p b) : g.Reads (ps ++ [p]) (r ++ b) := by
  obtain ⟨w, r', ps', rfl, hm, h'⟩ := hb
  intro rest st f
  have e1 : (ps ++ [p]).map some ++ st = ps.map some ++ (some p :: st) := by simp
  have e2 : r ++ (w :: r') ++ rest = r ++ (w :: (r' ++ rest)) := by simp
  rw [e1, e2, h]
  rw [Gr.go, hm]
  simp only [or_true, if_true, Option.some_or]
  exact h' rest st f
theorem go_body {g : Gr} {k : Str} {b : List Str} (hb : g.IsBody k b) (rest : List Str) (t : Option Str) (st : List (Option Str)) (f : Option Str) : g.go (b ++ rest) (t :: st) f = if t = none ∨ t = some k then g.go rest st (f.or (some k)) else none := by
  obtain ⟨w, r, ps, rfl, hm, h⟩ := hb
  rw [List.cons_append, Gr.go, hm]
  by_cases ht : t = none ∨ t = some k
  · simp only [if_pos ht]
    cases f with
    | none => exact h rest st k
    | some f => exact h rest st f
  · simp only [if_neg ht]
theorem go_nil {g : Gr} {k : Str} {b : List Str} (hb : g.IsBody k b) (rest : List Str) (f : Option Str) : g.go (b ++ rest) [] f = none := by
  obtain ⟨w, r, ps, rfl, hm, h⟩ := hb
  rw [List.cons_append, Gr.go, hm]
theorem body_ne {g : Gr} {k : Str} {b : List Str} (hb : g.IsBody k b) : b ≠ [] := by
  obtain ⟨w, r, ps, rfl, _⟩ := hb
  simp
/-- the pairs put bodies of its kind for a name -/
def Gr.Puts (g : Gr) (pairs : List (Str × List Str)) : Prop := (pairs.map Prod.fst).Nodup ∧ ∀ p ∈ pairs, ∃ k, g.names.lookup p.1 = some k ∧ g.IsBody k p.2
theorem go_put {g : Gr} {pairs : List (Str × List Str)} (hp : g.Puts pairs) : ∀ (ws : List Str) (st : List (Option Str)) (f : Option Str), g.go (putIn pairs ws) st f = g.go ws st f
  | [], st, f => rfl
  | w :: r, st, f => by
    have e : putIn pairs (w :: r) = (pairs.lookup w).getD [w] ++ putIn pairs r := by unfold putIn; rw [List.flatMap_cons]
    rw [e]
    cases h : pairs.lookup w with
    | none =>
      show g.go (w :: putIn pairs r) st f = _
      rw [Gr.go, Gr.go]
      cases g.mak w with
      | none => rfl
      | some kp =>
        obtain ⟨k, ps⟩ := kp
        cases st with
        | nil => rfl
        | cons t st =>
          simp only
          rw [go_put hp r]
    | some b =>
      obtain ⟨k, hk, hb⟩ := hp.2 _ (lookup_in h)
      have hm : g.mak w = some (k, []) := by unfold Gr.mak; rw [hk]
      show g.go (b ++ putIn pairs r) st f = _
      rw [Gr.go, hm]
      cases st with
      | nil => exact go_nil hb _ _
      | cons t st =>
        rw [go_body hb, go_put hp r]
        rfl
theorem put_nil {g : Gr} {pairs : List (Str × List Str)} (hp : g.Puts pairs) {ws : List Str} : putIn pairs ws = [] ↔ ws = [] := by
  cases ws with
  | nil => exact ⟨fun _ => rfl, fun _ => rfl⟩
  | cons w r =>
    have e : putIn pairs (w :: r) = (pairs.lookup w).getD [w] ++ putIn pairs r := by unfold putIn; rw [List.flatMap_cons]
    rw [e]
    cases h : pairs.lookup w with
    | none => simp
    | some b =>
      obtain ⟨k, hk, hb⟩ := hp.2 _ (lookup_in h)
      have := body_ne hb
      simp [this]
theorem kind_put {g : Gr} {pairs : List (Str × List Str)} (hp : g.Puts pairs) (ws : List Str) : g.kindOf (putIn pairs ws) = g.kindOf ws := by
  unfold Gr.kindOf
  by_cases h : ws = []
  · rw [if_pos h, if_pos ((put_nil hp).mpr h)]
  · rw [if_neg h, if_neg fun e => h ((put_nil hp).mp e)]
    exact go_put hp ws _ _
theorem lookup_of {pairs : List (Str × List Str)} (hn : (pairs.map Prod.fst).Nodup) {w : Str} {b : List Str} : pairs.lookup w = some b ↔ (w, b) ∈ pairs := by
  refine ⟨lookup_in, ?_⟩
  induction pairs with
  | nil => intro h; cases h
  | cons p r ih =>
    obtain ⟨a, c⟩ := p
    intro h
    rw [List.map_cons, List.nodup_cons] at hn
    rw [List.lookup_cons]
    rcases List.mem_cons.mp h with h2 | h2
    · cases h2
      rw [beq_self_eq_true]
    · have : (w == a) = false := beq_eq_false_iff_ne.mpr fun e => hn.1 (by rw [← e]; exact List.mem_map.mpr ⟨(w, b), h2, rfl⟩)
      rw [this]
      exact ih hn.2 h2
theorem lookup_rev {pairs : List (Str × List Str)} (hn : (pairs.map Prod.fst).Nodup) (w : Str) : pairs.reverse.lookup w = pairs.lookup w := by
  have hr : (pairs.reverse.map Prod.fst).Nodup := by
    rw [List.map_reverse]
    exact (List.reverse_perm _).nodup_iff.mpr hn
  refine Option.ext fun b => ?_
  rw [lookup_of hr, lookup_of hn, List.mem_reverse]
theorem putIn_rev {pairs : List (Str × List Str)} (hn : (pairs.map Prod.fst).Nodup) (ws : List Str) : putIn pairs.reverse ws = putIn pairs ws := by
  unfold putIn
  congr 1
  funext w
  rw [lookup_rev hn]
theorem putIn_none (ws : List Str) : putIn [] ws = ws := by
  unfold putIn
  induction ws with
  | nil => rfl
  | cons w r ih => rw [List.flatMap_cons, ih]; rfl
/-- the first that bears the name -/
theorem lookup_head {pairs : List (Str × List Str)} {w : Str} : (pairs.filter fun p => decide (p.1 = w)).head? = (pairs.lookup w).map fun b => (w, b) := by
  induction pairs with
  | nil => rfl
  | cons p r ih =>
    obtain ⟨a, c⟩ := p
    rw [List.lookup_cons]
    by_cases h : a = w
    · subst h
      rw [List.filter_cons_of_pos (by simp), beq_self_eq_true]
      rfl
    · have : (w == a) = false := beq_eq_false_iff_ne.mpr fun e => h e.symm
      rw [List.filter_cons_of_neg (by simpa using h), ih, this]
end PR

namespace PR
open PySem PySem.Spec PyProof.Rows L2 DL
local macro_rules | `(tactic| walk_at "dl") => `(tactic| simp only [wSs, wS, DL.wE, DL.wT, DL.wL, wEs, wO, wC, wI, wG, wGs, dSeq, dAsg, dPar, dIf, dDrop, dSlot, dC, CD.d, dBin, boR, coR, dSub, dMod, dFdiv, dTest, dChain, bQ, dNext, dRet, dRetN, dgName, dgSub, dgTup, dgCons, dgNil, dLst, dTup, dTupX, dCons, dNil, dIfE, dAndT, dOrT, dNotT, dAnd, dOr, dNot, dTruth, dTru_non, dTru_bl, dTru_int, dTru_str, dTru_tup, dTru_rl, dNeg, dSlice, dNoPart, dPart, dCall, dMt, dFnN, dMth, dFld, dSfl, dFz, dLcF, dNew, dNewD, dNewK, dLenK, dSliS, dSlS, dRevX, dgHead, dFrz, dForget, isTy, isIns, BF.rd, BT.rd, BM.rd, BM.ty, BF.rt, BT.rt, IEs.len, startD, getS, setS, wipeS, endB, tb, List.getD_cons_zero, List.getD_cons_succ, List.map_cons, List.map_nil, List.replicate, List.length_cons, List.length_nil, List.cons_append, List.nil_append, List.append_nil, dI_int, dAdd_int, dAdd_str, dAdd_tup, dIB_int, dLt_int, dLt_str, dEq_int, dEq_str, dNe_int, dNe_str, lenD_tup, lenD_rl, lenD_str, dMulA_int, dSl_str, ixN3_0, ixN3_1, ixN3_2, List.set_cons_zero, List.set_cons_succ, rAbs_int, rMin_int, rMax_int, rMin_str, rMax_str, dIx_wr, lenD_wr, atI_0, atI_1, atI_2, dIx_tup, dIx_rl, dIx_str, Option.some.injEq, exists_eq_left', decide_true, decide_false, eq_self, ite_true, ite_false, if_true, if_false, true_and, and_true, Bool.false_eq_true, Bool.not_true, Bool.not_false, Nat.reduceAdd, Nat.reduceSub, tTuple, tTupleX, dIs_non, dIs_bl, DL.isNon, dIn_str1, isi_str, isi_tup, isi_tx, isi_int, isi_rl, isi_bl, isi_non])
/-! the words of a body; how long its text is -/
theorem mak_word {g : Gr} (ok : g.Ok) {w : Str} {kp : Str × List Str} (h : g.mak w = some kp) : wordB w = true := by
  unfold Gr.mak at h
  cases e : g.names.lookup w with
  | some k => exact (ok.nw _ (lookup_in e)).1
  | none => rw [e] at h; exact (ok.sw _ (lookup_in h)).1
theorem go_words {g : Gr} : ∀ (ws : List Str) (st : List (Option Str)) (f : Option Str), g.go ws st f ≠ none → ∀ w ∈ ws, ∃ kp, g.mak w = some kp
  | [], _, _, _, w, hw => by cases hw
  | a :: r, st, f, h, w, hw => by
    rw [Gr.go] at h
    cases e : g.mak a with
    | none => rw [e] at h; exact absurd rfl h
    | some kp =>
      obtain ⟨k, ps⟩ := kp
      rcases List.mem_cons.mp hw with rfl | hw
      · exact ⟨_, e⟩
      rw [e] at h
      cases st with
      | nil => exact absurd rfl h
      | cons t st =>
        simp only at h
        by_cases ht : t = none ∨ t = some k
        · rw [if_pos ht] at h
          exact go_words r _ _ h w hw
        · rw [if_neg ht] at h
          exact absurd rfl h
theorem body_words {g : Gr} (ok : g.Ok) {k : Str} {b : List Str} (h : g.IsBody k b) : ∀ w ∈ b, wordB w = true := by
  obtain ⟨w0, r, ps, rfl, hm, hr⟩ := h
  intro w hw
  rcases List.mem_cons.mp hw with rfl | hw
  · exact mak_word ok hm
  · have := hr [] [] w0
    rw [List.append_nil, List.append_nil] at this
    obtain ⟨kp, e⟩ := go_words r _ _ (by rw [this]; simp [Gr.go]) w hw
    exact mak_word ok e
theorem word_small {w : Str} (h : wordB w = true) : ∀ c ∈ w.cps.toList, c < 200 := by
  have s : ∀ c ∈ signsW.cps.toList, c < 200 := by decide +kernel
  unfold wordB at h
  simp only [Bool.and_eq_true] at h
  intro c hc
  exact s c (of_decide_eq_true (List.all_eq_true.mp h.2.1 c hc))
theorem shw_tS {ws : List Str} {n : Nat} (h : ∀ w ∈ ws, wordB w = true) (hl : ws.length ≤ n) : Shw (tS ws) (n * 64 + 3) := by
  refine (shw_tup (n := 62) fun x hx => ?_).le (by rw [List.length_map]; omega)
  obtain ⟨w, hw, rfl⟩ := List.mem_map.mp hx
  exact shw_str (word_len (h w hw)) (word_small (h w hw))
theorem good_tS (ws : List Str) (n : Nat) : good (tS ws) (n + 1) = true := by
  unfold tS good
  exact goodL_strs
theorem stripL_map (xs : List D) : stripL xs = xs.map DL.strip := by
  induction xs with
  | nil => rfl
  | cons x xs ih => rw [stripL, ih]; rfl
theorem strip_tS (ws : List Str) : DL.strip (tS ws) = tS ws := by
  unfold tS DL.strip
  rw [stripL_map, List.map_map]
  rfl
theorem strip_pt (p : Str × List Str) : DL.strip (ptD p) = ptD p := by
  unfold ptD DL.strip
  rw [stripL_map]
  simp only [List.map_cons, List.map_nil, strip_tS]
  rfl
theorem textFrom_le : ∀ (ts : List Str) (k : Nat) (acc : Str), (textFrom k acc ts).length ≤ acc.length + piled ts
  | [], k, acc => Nat.le_add_right _ _
  | t :: r, k, acc => by
    have e2 : ((", " : String) : Str).length = 2 := by decide +kernel
    have e0 : (("" : String) : Str).length = 0 := by decide +kernel
    rw [piled_cons]
    unfold textFrom
    refine Nat.le_trans (textFrom_le r _ _) ?_
    split
    · rw [strLen_append, strLen_append, e2]; omega
    · rw [strLen_append, strLen_append, e0]; omega
theorem shw_rl {xs : List D} {n : Nat} (h : ∀ x ∈ xs, Shw x n) : Shw (.rl xs) (xs.length * (n + 2) + 2) := by
  obtain ⟨h1, h2⟩ := shw_all h
  refine ⟨by unfold toPy; rw [PyData.showable]; exact h1, ?_⟩
  unfold toPy
  rw [PyData.shown]
  unfold listText
  have := textFrom_le (PyData.shownAll (toPyL xs)) 0 "["
  have e1 : ((("[" : String) : Str)).length = 1 := rfl
  have e3 : ((("]" : String) : Str)).length = 1 := rfl
  rw [strLen_append]
  omega
end PR

/-! the small syntax of some defs (printed by gen2.py) -/
namespace PQ
open PySem PySem.Spec PyProof.Rows L2 DL
/-! end_of -/
def lp_end_of_0 : IS :=
  .wh (.cmp .Gt (.sl 3) (.lit (.int 0))) (.cons (.asg (.tp (.cons (.nm 4) (.cons (.nm 5) .nil))) (.mth 0 0 "making" (.sl 0) (.cons (.ix (.sl 1) (.sl 2)) .nil) .nil))
  (.cons (.aug true 3 (.bin .Sub (.cb .len (.sl 5) .nil) (.lit (.int 1))))
  (.cons (.aug true 2 (.lit (.int 1)))
  .nil)))
def ir_end_of : ISs :=
  (.cons (.asg (.nm 3) (.lit (.int 1)))
  (.cons lp_end_of_0
  (.cons (.ret (.sl 2))
  .nil)))
-- slots: 0 theory 1 body 2 at 3 wanted 4 kind 5 parts
-- calls: [] ; methods: [(0, 'making', 1, ())] ; fields: [] ; constants: []
/-! is_name -/
def ir_is_name : ISs :=
  (.cons (.ret (.cmp .In (.ix (.sl 1) (.lit (.int 0))) (.ct .dict (.fld 0 "names" (.sl 0)) .nil)))
  .nil)
-- slots: 0 theory 1 body
-- calls: [] ; methods: [] ; fields: [(0, 'names')] ; constants: []
/-! parts_of -/
def lp_parts_of_0 : IS :=
  .wh (.cmp .Lt (.sl 3) (.cb .len (.sl 1) .nil)) (.cons (.asg (.nm 4) (.cal 0 (.cons (.sl 0) (.cons (.sl 1) (.cons (.sl 3) .nil))) .nil))
  (.cons (.ex (.mt .append (.sl 2) (.sli (.sl 1) (.yes (.sl 3)) (.yes (.sl 4))) .nil))
  (.cons (.asg (.nm 3) (.sl 4))
  .nil)))
def ir_parts_of : ISs :=
  (.cons (.asg (.nm 2) (.lst .nil))
  (.cons (.asg (.nm 3) (.lit (.int 1)))
  (.cons lp_parts_of_0
  (.cons (.ret (.ct .tuple (.sl 2) .nil))
  .nil))))
-- slots: 0 theory 1 body 2 found 3 at 4 end
-- calls: [('end_of', 3, ())] ; methods: [] ; fields: [] ; constants: []
end PQ

namespace PQ
open PySem PySem.Spec PyProof.Rows L2 DL
local macro_rules | `(tactic| walk_at "dl") => `(tactic| simp only [wSs, wS, DL.wE, DL.wT, DL.wL, wEs, wO, wC, wI, wG, wGs, dSeq, dAsg, dPar, dIf, dDrop, dSlot, dC, CD.d, dBin, boR, coR, dSub, dMod, dFdiv, dTest, dChain, bQ, dNext, dRet, dRetN, dgName, dgSub, dgTup, dgCons, dgNil, dLst, dTup, dTupX, dAug, dItX, diZip, dCons, dNil, dIfE, dAndT, dOrT, dNotT, dAnd, dOr, dNot, dTruth, dTru_non, dTru_bl, dTru_int, dTru_str, dTru_tup, dTru_rl, dNeg, dSlice, dNoPart, dPart, dCall, dMt, dFnN, dMth, dFld, dSfl, dFz, dLcF, dNew, dNewD, dNewK, dLenK, dSliS, dSlS, dRevX, dgHead, dFrz, dForget, isTy, isIns, BF.rd, BT.rd, BM.rd, BM.ty, BF.rt, BT.rt, IEs.len, startD, getS, setS, wipeS, endB, tb, List.getD_cons_zero, List.getD_cons_succ, List.map_cons, List.map_nil, List.replicate, List.length_cons, List.length_nil, List.cons_append, List.nil_append, List.append_nil, dI_int, dAdd_int, dAdd_str, dAdd_tup, dIB_int, dLt_int, dLt_str, dEq_int, dEq_str, dNe_int, dNe_str, lenD_tup, lenD_rl, lenD_str, dMulA_int, dSl_str, ixN3_0, ixN3_1, ixN3_2, List.set_cons_zero, List.set_cons_succ, rAbs_int, rMin_int, rMax_int, rMin_str, rMax_str, dIx_wr, lenD_wr, atI_0, atI_1, atI_2, dIx_tup, dIx_rl, dIx_str, Option.some.injEq, exists_eq_left', decide_true, decide_false, eq_self, ite_true, ite_false, if_true, if_false, true_and, and_true, Bool.false_eq_true, Bool.not_true, Bool.not_false, Nat.reduceAdd, Nat.reduceSub, tTuple, tTupleX, dIs_non, dIs_bl, DL.isNon, dIn_str1, isi_str, isi_tup, isi_tx, isi_int, isi_rl, isi_bl, isi_non])
open PR
/-! where a body ends -/
def dep (g : Gr) : List Str → Int → Int
  | [], d => d
  | w :: r, d => dep g r (d + ((g.mak w).map fun kp => (kp.2.length : Int)).getD 0 - 1)
/-- a row of words that is read to its end: every word makes, and the depth stays above nought until the end -/
def Rd (g : Gr) : List Str → Int → Prop
  | [], d => d = 0
  | w :: r, d => 0 < d ∧ ∃ k ps, g.mak w = some (k, ps) ∧ Rd g r (d + ps.length - 1)
theorem go_rd {g : Gr} : ∀ (ws : List Str) (st : List (Option Str)) (f : Option Str), g.go ws st f ≠ none → Rd g ws st.length
  | [], st, f, h => by
    unfold Gr.go at h
    by_cases e : st = []
    · subst e; rfl
    · rw [if_neg e] at h; exact absurd rfl h
  | w :: r, st, f, h => by
    rw [Gr.go] at h
    cases e : g.mak w with
    | none => rw [e] at h; exact absurd rfl h
    | some kp =>
      obtain ⟨k, ps⟩ := kp
      rw [e] at h
      cases st with
      | nil => exact absurd rfl h
      | cons t st =>
        simp only at h
        by_cases ht : t = none ∨ t = some k
        · rw [if_pos ht] at h
          have := go_rd r _ _ h
          refine ⟨by rw [List.length_cons]; omega, k, ps, e, ?_⟩
          rw [List.length_append, List.length_map] at this
          rw [List.length_cons]
          have e2 : ((st.length + 1 : Nat) : Int) + (ps.length : Int) - 1 = ((ps.length + st.length : Nat) : Int) := by omega
          rw [e2]
          exact this
        · rw [if_neg ht] at h
          exact absurd rfl h
theorem body_rd {g : Gr} {k : Str} {b : List Str} (hb : g.IsBody k b) : Rd g b 1 := by
  have := go_rd b [none] none (by
    have e := go_body hb [] none [] none
    rw [List.append_nil] at e
    rw [e]
    simp [Gr.go])
  exact this
def spEnd (C : Addr) : DSp := fun ds M Q E => ∃ (t : Addr) (g : Gr) (kept : List (Key × D)) (pre b rest : List Str), ds = [.ref t, tS (pre ++ b ++ rest), .int pre.length] ∧ g.Ok ∧ ThAt C M t g kept ∧ Rd g b 1 ∧ (pre ++ b ++ rest).length ≤ 100000 ∧ Q (.int (pre ++ b).length) M
theorem end_of (C : Addr) (ds : List D) (M : Mem) (Q : QE) (E : EX) (H : spEnd C ds M Q E) : wSs (tb [] [spMaking C] [C]) ir_end_of (endB Q) E (startD 6 ds) M := by
  obtain ⟨t, g, kept, pre, b, rest, rfl, ok, th, hb, hl, q⟩ := H
  have s24 : sizeLine = 2 ^ 24 := rfl
  unfold ir_end_of lp_end_of_0
  walk_at "dl"
  refine ⟨fun n e' M' => M' = M ∧ ∃ (p r : List Str) (d : Int) (x4 x5 : Option D), n = r.length ∧ e' = [some (.ref t), some (tS (pre ++ b ++ rest)), some (.int (pre ++ p).length), some (.int d), x4, x5] ∧ b = p ++ r ∧ Rd g r d, ⟨b.length, rfl, [], b, 1, none, none, rfl, by simp, rfl, hb⟩, ?_⟩
  rintro n e' M' ⟨rfl, p, r, d, x4, x5, rfl, rfl, rfl, hr⟩
  walk_at "dl"
  cases r with
  | nil =>
    have : d = 0 := hr
    subst this
    rw [List.append_nil] at q
    rw [show decide ((0 : Int) < 0) = false by decide]
    walk_at "dl"
    exact ⟨M', fun _ _ e => e, q⟩
  | cons w r =>
    obtain ⟨hd, k, ps, hm, hr⟩ := hr
    obtain ⟨pc, pm, pk, h1, h2, h3, h4⟩ := id th
    have hat : L2.atI ((pre ++ (p ++ w :: r) ++ rest).map D.str) ((pre ++ p).length : Int) = some (.str w) := by
      have hlt : (pre ++ p).length < ((pre ++ (p ++ w :: r) ++ rest).map D.str).length := by
        simp only [List.length_map, List.length_append, List.length_cons]
        omega
      rw [DL.atI_nat hlt, List.getElem_map]
      congr 2
      have : pre ++ (p ++ w :: r) ++ rest = (pre ++ p) ++ (w :: (r ++ rest)) := by simp
      simp only [this]
      rw [List.getElem_append_right (Nat.le_refl _)]
      simp
    rw [decide_eq_true hd]
    unfold tS
    walk_at "dl"
    refine ⟨⟨_, h1, rfl⟩, _, hat, t, g, kept, w, rfl, th, ?_⟩
    rw [hm]
    unfold mkD
    walk_at "dl"
    unfold tS
    walk_at "dl"
    rw [List.length_map]
    refine ⟨r.length, by omega, p ++ [w], r, d + (ps.length - 1), some (.str k), some (.tup (ps.map D.str)), rfl, ?_, by simp, ?_⟩
    · have e1 : ((pre ++ (p ++ [w])).length : Int) = (pre ++ p).length + 1 := by simp [Int.add_assoc]
      rw [e1]
    · have e2 : d + ((ps.length : Int) - 1) = d + ps.length - 1 := by omega
      rw [e2]; exact hr
end PQ

namespace PQ
open PySem PySem.Spec PyProof.Rows L2 DL
local macro_rules | `(tactic| walk_at "dl") => `(tactic| simp only [wSs, wS, DL.wE, DL.wT, DL.wL, wEs, wO, wC, wI, wG, wGs, dSeq, dAsg, dPar, dIf, dDrop, dSlot, dC, CD.d, dBin, boR, coR, dSub, dMod, dFdiv, dTest, dChain, bQ, dNext, dRet, dRetN, dgName, dgSub, dgTup, dgCons, dgNil, dLst, dTup, dTupX, dAug, dItX, diZip, dCons, dNil, dIfE, dAndT, dOrT, dNotT, dAnd, dOr, dNot, dTruth, dTru_non, dTru_bl, dTru_int, dTru_str, dTru_tup, dTru_rl, dNeg, dSlice, dNoPart, dPart, dCall, dMt, dFnN, dMth, dFld, dSfl, dFz, dLcF, dNew, dNewD, dNewK, dLenK, dSliS, dSlS, dRevX, dgHead, dFrz, dForget, isTy, isIns, BF.rd, BT.rd, BM.rd, BM.ty, BF.rt, BT.rt, IEs.len, startD, getS, setS, wipeS, endB, tb, List.getD_cons_zero, List.getD_cons_succ, List.map_cons, List.map_nil, List.replicate, List.length_cons, List.length_nil, List.cons_append, List.nil_append, List.append_nil, dI_int, dAdd_int, dAdd_str, dAdd_tup, dIB_int, dLt_int, dLt_str, dEq_int, dEq_str, dNe_int, dNe_str, lenD_tup, lenD_rl, lenD_str, dMulA_int, dSl_str, ixN3_0, ixN3_1, ixN3_2, List.set_cons_zero, List.set_cons_succ, rAbs_int, rMin_int, rMax_int, rMin_str, rMax_str, dIx_wr, lenD_wr, atI_0, atI_1, atI_2, dIx_tup, dIx_rl, dIx_str, Option.some.injEq, exists_eq_left', decide_true, decide_false, eq_self, ite_true, ite_false, if_true, if_false, true_and, and_true, Bool.false_eq_true, Bool.not_true, Bool.not_false, Nat.reduceAdd, Nat.reduceSub, tTuple, tTupleX, dIs_non, dIs_bl, DL.isNon, dIn_str1, isi_str, isi_tup, isi_tx, isi_int, isi_rl, isi_bl, isi_non])
open PR
theorem called_mergeQ {g : Gr} (ok : g.Ok) : mergeG [] (g.names.map fun x => ((.inr x.1 : Key), D.str x.2)) = g.called := by
  have un := ok.un
  rw [List.nodup_append, List.nodup_append] at un
  refine mergeG_nodup ?_
  have : ((([] : List (Key × D)) ++ g.names.map fun x => ((.inr x.1 : Key), D.str x.2)).map (·.1)) = (g.names.map (·.1)).map Sum.inr := by
    rw [List.nil_append, List.map_map, List.map_map]; rfl
  rw [this]
  exact List.pairwise_map.mpr (un.2.1.2.1.imp fun ne e => ne (by injection e))
def spIsName (C : Addr) : DSp := fun ds M Q E => ∃ (t : Addr) (g : Gr) (kept : List (Key × D)) (w : Str) (r : List Str), ds = [.ref t, tS (w :: r)] ∧ g.Ok ∧ ThAt C M t g kept ∧ Q (.bl (g.names.lookup w).isSome) M
theorem is_name (C : Addr) (ds : List D) (M : Mem) (Q : QE) (E : EX) (H : spIsName C ds M Q E) : wSs (tb [] [] [C]) ir_is_name (endB Q) E (startD 2 ds) M := by
  obtain ⟨t, g, kept, w, r, rfl, ok, ⟨pc, pm, pk, h1, h2, h3, h4⟩, q⟩ := H
  unfold ir_is_name tS
  walk_at "dl"
  refine ⟨_, _, h1, rfl, ?_⟩
  unfold Gr.nD
  refine ⟨g.names.map fun x => (.inr x.1, .str x.2), by rw [List.map_map]; rfl, fun p hp => ?_⟩
  rw [called_mergeQ ok]
  show dIn false (D.str w) (D.ref p) (wr M p (.dK g.called)) _
  rw [dIn_dict wr_same (k := .inr w) rfl, called_val]
  walk_at "dl"
  rw [Option.isSome_map]
  exact ⟨M, sub_wr hp, q⟩
def spParts (C : Addr) : DSp := fun ds M Q E => ∃ (t : Addr) (g : Gr) (kept : List (Key × D)) (w : Str) (bs : List (List Str)), ds = [.ref t, tS (w :: bs.flatten)] ∧ g.Ok ∧ ThAt C M t g kept ∧ (∀ b ∈ bs, Rd g b 1) ∧ (w :: bs.flatten).length ≤ 100000 ∧ Q (.tup (bs.map tS)) M
theorem flat_len {bs : List (List Str)} (h : ∀ b ∈ bs, b ≠ []) : bs.length ≤ bs.flatten.length := by
  induction bs with
  | nil => exact Nat.le_refl _
  | cons b r ih =>
    have h1 : 0 < b.length := List.length_pos_iff.mpr (h b (by simp))
    have h2 := ih fun x hx => h x (by simp [hx])
    rw [List.flatten_cons, List.length_append, List.length_cons]
    omega
theorem dSl_tupQ {xs : List D} {lo hi : Option Int} {M : Mem} {Q : QE} : dSl (.tup xs) lo hi M Q ↔ Q (.tup (cutG xs lo hi)) M := Iff.rfl
theorem parts_of (C : Addr) (ds : List D) (M : Mem) (Q : QE) (E : EX) (H : spParts C ds M Q E) : wSs (tb [spEnd C] [] []) ir_parts_of (endB Q) E (startD 5 ds) M := by
  obtain ⟨t, g, kept, w, bs, rfl, ok, th, hb, hl, q⟩ := H
  have s24 : sizeLine = 2 ^ 24 := rfl
  have hne : ∀ b ∈ bs, b ≠ [] := fun b h e => by
    have := hb b h
    rw [e] at this
    exact absurd (show (1 : Int) = 0 from this) (by decide)
  have hfl := flat_len hne
  rw [List.length_cons] at hl
  unfold ir_parts_of lp_parts_of_0
  walk_at "dl"
  refine ⟨by decide, fun p hp => ?_⟩
  have hpt : p ≠ t := fun z => by
    subst z
    obtain ⟨pc, pm, pk, h1, _⟩ := th
    rw [hp] at h1; cases h1
  refine ⟨fun n e' M' => ∃ (ds rs : List (List Str)) (x4 : Option D), n = rs.length ∧ bs = ds ++ rs ∧ e' = [some (.ref t), some (tS (w :: bs.flatten)), some (.ref p), some (.int (w :: ds.flatten).length), x4] ∧ M' = wr M p (.lst (ds.map tS)), ⟨bs.length, [], bs, none, rfl, rfl, rfl, rfl⟩, ?_⟩
  rintro n e' M' ⟨ds, rs, x4, rfl, hbs, rfl, rfl⟩
  unfold tS
  walk_at "dl"
  rw [List.length_map]
  cases rs with
  | nil =>
    rw [List.append_nil] at hbs
    subst hbs
    rw [show decide (((bs.flatten.length + 1 : Nat) : Int) < ((bs.flatten.length + 1 : Nat) : Int)) = false by simp]
    walk_at "dl"
    exact ⟨_, wr_same, M, sub_wr hp, q⟩
  | cons b rs =>
    have hbl : 0 < b.length := List.length_pos_iff.mpr (hne b (by rw [hbs]; simp))
    have hfe : bs.flatten = ds.flatten ++ (b ++ rs.flatten) := by rw [hbs]; simp
    have hfl2 : bs.flatten.length = ds.flatten.length + (b.length + rs.flatten.length) := by rw [hfe, List.length_append, List.length_append]
    have hbl2 : ds.length + (rs.length + 1) = bs.length := by rw [hbs]; simp
    rw [decide_eq_true (show ((ds.flatten.length + 1 : Nat) : Int) < ((bs.flatten.length + 1 : Nat) : Int) by omega)]
    walk_at "dl"
    refine ⟨t, g, kept, w :: ds.flatten, b, rs.flatten, ?_, ok, th.sub (sub_wr hp), hb b (by rw [hbs]; simp), ?_, ?_⟩
    · unfold tS
      rw [hfe]
      simp
    · simp only [List.length_append, List.length_cons]
      omega
    have hcut : cutG (D.str w :: bs.flatten.map D.str) (some ((ds.flatten.length + 1 : Nat) : Int)) (some (((w :: ds.flatten) ++ b).length : Int)) = b.map D.str := by
      have e0 : D.str w :: bs.flatten.map D.str = ((w :: ds.flatten) ++ (b ++ rs.flatten)).map D.str := by rw [hfe]; simp
      rw [e0]
      unfold cutG
      have l0 : (((w :: ds.flatten) ++ (b ++ rs.flatten)).map D.str).length = ds.flatten.length + 1 + (b.length + rs.flatten.length) := by simp only [List.length_map, List.length_append, List.length_cons]
      have l1 : ((w :: ds.flatten) ++ b).length = ds.flatten.length + 1 + b.length := by simp only [List.length_append, List.length_cons]
      rw [l0, l1, HT.sIx_nat, HT.sIx_nat, Nat.min_eq_left (by omega), Nat.min_eq_left (by omega), ← List.map_drop, ← List.map_take]
      congr 1
      have l2 : ds.flatten.length + 1 = (w :: ds.flatten).length := by simp
      rw [l2, List.drop_left]
      have l3 : (w :: ds.flatten).length + b.length - (w :: ds.flatten).length = b.length := by omega
      rw [l3, List.take_left]
    refine ⟨.inl ⟨_, wr_same⟩, ?_⟩
    show dSl (D.tup (D.str w :: bs.flatten.map D.str)) (some ((ds.flatten.length + 1 : Nat) : Int)) (some (((w :: ds.flatten) ++ b).length : Int)) _ _
    rw [dSl_tupQ, hcut]
    refine ⟨_, wr_same, by rw [List.length_map]; omega, rs.length, by simp, ds ++ [b], rs, some (.int (((w :: ds.flatten) ++ b).length : Int)), rfl, by rw [hbs]; simp, ?_, ?_⟩
    · have e1 : ((ds ++ [b]).flatten.length + 1 : Nat) = ((w :: ds.flatten) ++ b).length := by
        simp only [List.flatten_append, List.flatten_cons, List.flatten_nil, List.append_nil, List.length_append, List.length_cons]
        omega
      rw [e1]
    · rw [wr_wr]; simp
end PQ

namespace PR
open PySem PySem.Spec PyProof.Rows L2 DL
local macro_rules | `(tactic| walk_at "dl") => `(tactic| simp only [wSs, wS, DL.wE, DL.wT, DL.wL, wEs, wO, wC, wI, wG, wGs, dSeq, dAsg, dPar, dIf, dDrop, dSlot, dC, CD.d, dBin, boR, coR, dSub, dMod, dFdiv, dTest, dChain, bQ, dNext, dRet, dRetN, dgName, dgSub, dgTup, dgCons, dgNil, dLst, dTup, dTupX, dAug, dItX, diZip, dCons, dNil, dIfE, dAndT, dOrT, dNotT, dAnd, dOr, dNot, dTruth, dTru_non, dTru_bl, dTru_int, dTru_str, dTru_tup, dTru_rl, dNeg, dSlice, dNoPart, dPart, dCall, dMt, dFnN, dMth, dFld, dSfl, dFz, dLcF, dNew, dNewD, dNewK, dLenK, dSliS, dSlS, dRevX, dgHead, dFrz, dForget, isTy, isIns, BF.rd, BT.rd, BM.rd, BM.ty, BF.rt, BT.rt, IEs.len, startD, getS, setS, wipeS, endB, tb, List.getD_cons_zero, List.getD_cons_succ, List.map_cons, List.map_nil, List.replicate, List.length_cons, List.length_nil, List.cons_append, List.nil_append, List.append_nil, dI_int, dAdd_int, dAdd_str, dAdd_tup, dIB_int, dLt_int, dLt_str, dEq_int, dEq_str, dNe_int, dNe_str, lenD_tup, lenD_rl, lenD_str, dMulA_int, dSl_str, ixN3_0, ixN3_1, ixN3_2, List.set_cons_zero, List.set_cons_succ, rAbs_int, rMin_int, rMax_int, rMin_str, rMax_str, dIx_wr, lenD_wr, atI_0, atI_1, atI_2, dIx_tup, dIx_rl, dIx_str, Option.some.injEq, exists_eq_left', decide_true, decide_false, eq_self, ite_true, ite_false, if_true, if_false, true_and, and_true, Bool.false_eq_true, Bool.not_true, Bool.not_false, Nat.reduceAdd, Nat.reduceSub, tTuple, tTupleX, dIs_non, dIs_bl, DL.isNon, dIn_str1, isi_str, isi_tup, isi_tx, isi_int, isi_rl, isi_bl, isi_non])
open PQ
/-! bodies as trees -/
inductive Tr where
  | nd (w : Str) (ts : List Tr)
mutual
def Tr.flat : Tr → List Str
  | .nd w ts => w :: flats ts
def flats : List Tr → List Str
  | [] => []
  | t :: ts => t.flat ++ flats ts
end
def Tr.w : Tr → Str
  | .nd w _ => w
def Tr.ts : Tr → List Tr
  | .nd _ ts => ts
mutual
def Tr.dep : Tr → Nat
  | .nd _ ts => deps ts + 1
def deps : List Tr → Nat
  | [] => 0
  | t :: ts => max t.dep (deps ts)
end
theorem flats_map : ∀ ts : List Tr, flats ts = (ts.map Tr.flat).flatten
  | [] => rfl
  | t :: ts => by rw [flats, flats_map ts, List.map_cons, List.flatten_cons]
theorem flats_app (ts us : List Tr) : flats (ts ++ us) = flats ts ++ flats us := by
  rw [flats_map, flats_map, flats_map, List.map_append, List.flatten_append]
theorem flat_cons (T : Tr) : ∃ r, T.flat = T.w :: r := by
  cases T with
  | nd w ts => exact ⟨_, by rw [Tr.flat]; rfl⟩
mutual
inductive Gr.T (g : Gr) : Str → Tr → Prop
  | mk {w k : Str} {ps : List Str} {ts : List Tr} : g.mak w = some (k, ps) → Gr.Ts g ps ts → Gr.T g k (.nd w ts)
inductive Gr.Ts (g : Gr) : List Str → List Tr → Prop
  | nil : Gr.Ts g [] []
  | cons {p : Str} {ps : List Str} {t : Tr} {ts : List Tr} : Gr.T g p t → Gr.Ts g ps ts → Gr.Ts g (p :: ps) (t :: ts)
end
section
variable {g : Gr}
theorem T_inv {k w : Str} {ts : List Tr} (h : g.T k (.nd w ts)) : ∃ ps, g.mak w = some (k, ps) ∧ g.Ts ps ts := by
  cases h with
  | mk h1 h2 => exact ⟨_, h1, h2⟩
theorem Ts_inv {p : Str} {ps : List Str} {t : Tr} {ts : List Tr} (h : g.Ts (p :: ps) (t :: ts)) : g.T p t ∧ g.Ts ps ts := by
  cases h with
  | cons h1 h2 => exact ⟨h1, h2⟩
theorem Ts_len : ∀ {ps : List Str} {ts : List Tr}, g.Ts ps ts → ps.length = ts.length
  | [], [], _ => rfl
  | [], _ :: _, h => by cases h
  | _ :: _, [], h => by cases h
  | p :: ps, t :: ts, h => by rw [List.length_cons, List.length_cons, Ts_len (Ts_inv h).2]
theorem Ts_app : ∀ {ps qs : List Str} {ts us : List Tr}, g.Ts ps ts → g.Ts qs us → g.Ts (ps ++ qs) (ts ++ us)
  | [], _, [], _, _, h => h
  | [], _, _ :: _, _, h, _ => by cases h
  | _ :: _, _, [], _, h, _ => by cases h
  | p :: ps, _, t :: ts, _, h, h2 => .cons (Ts_inv h).1 (Ts_app (Ts_inv h).2 h2)
/-- the one kind of a tree -/
theorem T_kind {k k2 : Str} {t : Tr} (h : g.T k t) (h2 : g.T k2 t) : k = k2 := by
  cases h with
  | mk a _ =>
    cases h2 with
    | mk b _ =>
      rw [a] at b
      injection b with b
      injection b
/-- how what is wanted is met -/
inductive Gr.Mt (g : Gr) : List (Option Str) → List Tr → Prop
  | nil : Gr.Mt g [] []
  | cons {o : Option Str} {st : List (Option Str)} {k : Str} {t : Tr} {ts : List Tr} : g.T k t → (o = none ∨ o = some k) → Gr.Mt g st ts → Gr.Mt g (o :: st) (t :: ts)
theorem Mt_split : ∀ {ps : List Str} {st : List (Option Str)} {Ts : List Tr}, g.Mt (ps.map some ++ st) Ts → ∃ us vs, Ts = us ++ vs ∧ g.Ts ps us ∧ g.Mt st vs
  | [], _, Ts, h => ⟨[], Ts, rfl, .nil, h⟩
  | p :: ps, st, Ts, h => by
    cases h with
    | cons h1 h2 h3 =>
      obtain ⟨us, vs, rfl, a, b⟩ := Mt_split h3
      rcases h2 with h2 | h2
      · cases h2
      · injection h2 with h2
        subst h2
        exact ⟨_ :: us, vs, rfl, .cons h1 a, b⟩
theorem go_trees : ∀ (ws : List Str) (st : List (Option Str)) (f : Option Str), g.go ws st f ≠ none → ∃ Ts, flats Ts = ws ∧ g.Mt st Ts
  | [], st, f, h => by
    rw [Gr.go] at h
    by_cases e : st = []
    · subst e
      exact ⟨[], rfl, .nil⟩
    · rw [if_neg e] at h; exact absurd rfl h
  | w :: r, st, f, h => by
    rw [Gr.go] at h
    cases e : g.mak w with
    | none => rw [e] at h; exact absurd rfl h
    | some kp =>
      obtain ⟨k, ps⟩ := kp
      rw [e] at h
      cases st with
      | nil => exact absurd rfl h
      | cons t st =>
        simp only at h
        by_cases ht : t = none ∨ t = some k
        · rw [if_pos ht] at h
          obtain ⟨Ts, rfl, m⟩ := go_trees r _ _ h
          obtain ⟨us, vs, rfl, a, b⟩ := Mt_split m
          exact ⟨.nd w us :: vs, by rw [flats, Tr.flat, flats_app, List.cons_append], .cons (.mk e a) ht b⟩
        · rw [if_neg ht] at h
          exact absurd rfl h
mutual
theorem body_of_T : ∀ (t : Tr) (k : Str), g.T k t → g.IsBody k t.flat
  | .nd w ts, k, h => by
    obtain ⟨ps, e, a⟩ := T_inv h
    refine ⟨w, flats ts, ps, by rw [Tr.flat], e, ?_⟩
    exact reads_of_Ts ts ps a
theorem reads_of_Ts : ∀ (ts : List Tr) (ps : List Str), g.Ts ps ts → g.Reads ps (flats ts)
  | [], [], _ => reads_nil g
  | [], _ :: _, h => by cases h
  | _ :: _, [], h => by cases h
  | t :: ts, p :: ps, h => by
    obtain ⟨h1, h2⟩ := Ts_inv h
    obtain ⟨w, r, ps', e, em, h'⟩ := body_of_T t p h1
    have h2' := reads_of_Ts ts ps h2
    rw [flats, e]
    intro rest st f
    rw [List.map_cons, List.cons_append, List.cons_append, List.cons_append, Gr.go, em]
    simp only [or_true, if_true, Option.some_or]
    rw [List.append_assoc, h' _ _ f]
    exact h2' rest st f
end
/-- a body is a tree -/
theorem tree_of {k : Str} {b : List Str} (h : g.IsBody k b) : ∃ t, g.T k t ∧ t.flat = b := by
  have e := go_body h [] none [] none
  rw [List.append_nil] at e
  have e2 : g.go b [none] none = some k := by rw [e]; simp [Gr.go]
  obtain ⟨Ts, rfl, m⟩ := go_trees b [none] none (by rw [e2]; simp)
  cases m with
  | cons h1 h2 h3 =>
    cases h3
    rename_i k2 t
    have fe : flats [t] = t.flat := by rw [flats, flats, List.append_nil]
    rw [fe] at h e2 ⊢
    have : k2 = k := by
      have q := go_body (body_of_T t k2 h1) [] none [] none
      rw [List.append_nil, e2] at q
      simpa [Gr.go] using q.symm
    subst this
    exact ⟨t, h1, rfl⟩
theorem kind_T {k : Str} {t : Tr} (h : g.T k t) : g.kindOf t.flat = some k := by
  have hb := body_of_T t k h
  have e := go_body hb [] none [] none
  rw [List.append_nil] at e
  unfold Gr.kindOf
  rw [if_neg (body_ne hb), e]
  simp [Gr.go]
/-- trees are read in one way -/
theorem T_rd {k : Str} {t : Tr} (h : g.T k t) : Rd g t.flat 1 := body_rd (body_of_T t k h)
theorem rd_two : ∀ {a b : List Str} {n : Int}, Rd g a n → ∀ {m : Int}, 0 ≤ m → Rd g b m → Rd g (a ++ b) (n + m)
  | [], b, n, h, m, hm, h2 => by
    have : n = 0 := h
    subst this
    rw [Int.zero_add]
    exact h2
  | w :: a, b, n, h, m, hm, h2 => by
    obtain ⟨h1, k, ps, e, h3⟩ := h
    refine ⟨by omega, k, ps, e, ?_⟩
    have e2 : n + m + ps.length - 1 = n + ps.length - 1 + m := by omega
    rw [e2]
    exact rd_two h3 hm h2
/-- a row has one beginning that is read -/
theorem rd_cut : ∀ {a b a2 b2 : List Str} {n : Int}, Rd g a n → Rd g a2 n → a ++ b = a2 ++ b2 → a = a2
  | [], b, [], b2, n, _, _, _ => rfl
  | [], b, w :: a2, b2, n, h, h2, _ => by
    have e : n = 0 := h
    have := h2.1
    omega
  | w :: a, b, [], b2, n, h, h2, _ => by
    have e : n = 0 := h2
    have := h.1
    omega
  | w :: a, b, v :: a2, b2, n, h, h2, e => by
    rw [List.cons_append, List.cons_append] at e
    injection e with e1 e2
    subst e1
    obtain ⟨_, k, ps, em, h3⟩ := h
    obtain ⟨_, k', ps', em', h4⟩ := h2
    rw [em] at em'
    injection em' with em'
    injection em' with _ em'
    subst em'
    rw [rd_cut h3 h4 e2]
mutual
theorem flat_inj : ∀ (t u : Tr) (k k2 : Str), g.T k t → g.T k2 u → t.flat = u.flat → t = u
  | .nd w ts, .nd v us, k, k2, h, h2, e => by
    obtain ⟨ps, em, a⟩ := T_inv h
    obtain ⟨qs, em2, a2⟩ := T_inv h2
    rw [Tr.flat, Tr.flat] at e
    injection e with e1 e2
    subst e1
    rw [em] at em2
    injection em2 with em2
    injection em2 with _ em2
    subst em2
    rw [flats_inj ts us ps a a2 e2]
theorem flats_inj : ∀ (ts us : List Tr) (ps : List Str), g.Ts ps ts → g.Ts ps us → flats ts = flats us → ts = us
  | [], [], _, _, _, _ => rfl
  | [], _ :: _, ps, h, h2, _ => by cases h; cases h2
  | _ :: _, [], ps, h, h2, _ => by cases h2; cases h
  | t :: ts, u :: us, [], h, _, _ => by cases h
  | t :: ts, u :: us, p :: ps, h, h2, e => by
    obtain ⟨a1, a2⟩ := Ts_inv h
    obtain ⟨b1, b2⟩ := Ts_inv h2
    rw [flats, flats] at e
    have e1 := rd_cut (T_rd a1) (T_rd b1) e
    rw [e1] at e
    rw [flat_inj t u p p a1 b1 e1, flats_inj ts us ps a2 b2 (List.append_cancel_left e)]
end
theorem T_words {k : Str} {t : Tr} (ok : g.Ok) (h : g.T k t) : ∀ w ∈ t.flat, wordB w = true := body_words ok (body_of_T t k h)
/-- a name has no parts -/
theorem name_T {k w : Str} {ts : List Tr} (h : g.T k (.nd w ts)) (hn : (g.names.lookup w).isSome = true) : g.names.lookup w = some k ∧ ts = [] := by
  obtain ⟨ps, em, a⟩ := T_inv h
  cases e : g.names.lookup w with
  | none => rw [e] at hn; cases hn
  | some k2 =>
    unfold Gr.mak at em
    rw [e] at em
    simp only [Option.some.injEq, Prod.mk.injEq] at em
    obtain ⟨rfl, rfl⟩ := em
    cases a
    exact ⟨rfl, rfl⟩
end
end PR

/-! the small syntax of some defs (printed by gen2.py) -/
namespace PQ
open PySem PySem.Spec PyProof.Rows L2 DL
/-! names_in -/
def ir_names_in : ISs :=
  (.cons (.ret (.ctK (.dc2 [("body", 2), ("word", 3)] [3] (.nm 2) (.any (.sl 1)) .no (.nm 3) (.any (.sl 2)) (.yes (.mth 0 0 "is_called" (.sl 0) (.cons (.sl 3) .nil) .nil)) (.sl 3) (.lit (.bl true)))))
  .nil)
-- slots: 0 theory 1 bodies 2 body 3 word
-- calls: [] ; methods: [(0, 'is_called', 1, ())] ; fields: [] ; constants: []
/-! is_put -/
def ir_is_put : ISs :=
  (.cons (.iff (.orE (.nt (.cb .isi (.sl 1) (.cons (.gty .tuple) .nil))) (.orE (.cmp .NotEq (.cb .len (.sl 1) .nil) (.lit (.int 2))) (.one (.nt (.cb .isi (.ix (.sl 1) (.lit (.int 0))) (.cons (.gty .str) .nil)))))) (.cons (.ret (.lit (.bl false)))
  .nil) .nil)
  (.cons (.asg (.nm 2) (.mt .get (.ct .dict (.fld 0 "names" (.sl 0)) .nil) (.ix (.sl 1) (.lit (.int 0))) .nil))
  (.cons (.ret (.andE (.cmp .IsNot (.sl 2) (.lit .non)) (.one (.cmp .Eq (.cal 0 (.cons (.sl 0) (.cons (.ix (.sl 1) (.lit (.int 1))) .nil)) .nil) (.sl 2)))))
  .nil)))
-- slots: 0 theory 1 thing 2 kind
-- calls: [('kind_of', 2, ())] ; methods: [] ; fields: [(0, 'names')] ; constants: []
/-! is_puts -/
def ir_is_puts : ISs :=
  (.cons (.iff (.orE (.nt (.cb .isi (.sl 1) (.cons (.gty .tuple) .nil))) (.one (.nt (.tb .all (.lc [("put", 2)] (.nm 2) (.any (.sl 1)) .no (.cal 0 (.cons (.sl 0) (.cons (.sl 2) .nil)) .nil)))))) (.cons (.ret (.lit (.bl false)))
  .nil) .nil)
  (.cons (.ret (.cmp .Eq (.lenS [("name", 3), ("body", 4)] (.tp (.cons (.nm 3) (.cons (.nm 4) .nil))) (.any (.sl 1)) .no (.sl 3)) (.cb .len (.sl 1) .nil)))
  .nil))
-- slots: 0 theory 1 thing 2 put 3 name 4 body
-- calls: [('is_put', 2, ())] ; methods: [] ; fields: [] ; constants: []
/-! put_behind -/
def ir_put_behind : ISs :=
  (.cons (.asg (.nm 3) (.cal 1 (.cons (.sl 0) (.cons (.tt .tuple (.lc [("name", 5), ("body", 6)] (.tp (.cons (.nm 5) (.cons (.nm 6) .nil))) (.any (.sl 1)) .no (.tup (.cons (.sl 5) .nil)))) .nil)) .nil))
  (.cons (.asg (.nm 4) (.ttX (.lc [("name", 5), ("body", 6)] (.tp (.cons (.nm 5) (.cons (.nm 6) .nil))) (.any (.sl 1)) .no (.tup (.cons (.sl 5) (.cons (.cal 0 (.cons (.sl 6) (.cons (.sl 2) .nil)) .nil) .nil))))))
  (.cons (.ret (.catX (.sl 4) (.ttX (.lc [("name", 5), ("body", 6)] (.tp (.cons (.nm 5) (.cons (.nm 6) .nil))) (.any (.sl 2)) (.yes (.cmp .NotIn (.sl 5) (.sl 3))) (.tup (.cons (.sl 5) (.cons (.sl 6) .nil)))))))
  .nil)))
-- slots: 0 theory 1 first 2 second 3 ahead 4 made 5 name 6 body
-- calls: [('put_in', 2, ()), ('names_in', 2, ())] ; methods: [] ; fields: [] ; constants: []
/-! met -/
def lp_met_0 : IS :=
  .wh (.cmp .Gt (.cb .len (.sl 4) .nil) (.lit (.int 0))) (.cons (.asg (.tp (.cons (.nm 5) (.cons (.nm 6) .nil))) (.lcF (.lc [("body", 7)] (.nm 7) (.any (.mt0 .pop (.sl 4))) .no (.cal 4 (.cons (.sl 7) (.cons (.sl 3) .nil)) .nil))))
  (.cons (.iff (.cal 0 (.cons (.sl 0) (.cons (.sl 6) .nil)) .nil) (.cons (.par 5 6 (.sl 6) (.sl 5))
  .nil) .nil)
  (.cons (.iff (.cmp .NotEq (.cal 3 (.cons (.sl 0) (.cons (.sl 5) .nil)) .nil) (.cal 3 (.cons (.sl 0) (.cons (.sl 6) .nil)) .nil)) (.cons (.ret (.lit .non))
  .nil) .nil)
  (.cons (.iff (.andE (.cmp .NotEq (.sl 5) (.sl 6)) (.one (.cal 0 (.cons (.sl 0) (.cons (.sl 5) .nil)) .nil))) (.cons (.iff (.cmp .In (.ix (.sl 5) (.lit (.int 0))) (.sl 6)) (.cons (.ret (.lit .non))
  .nil) .nil)
  (.cons (.asg (.nm 3) (.cal 1 (.cons (.sl 0) (.cons (.sl 3) (.cons (.tupX (.cons (.tup (.cons (.ix (.sl 5) (.lit (.int 0))) (.cons (.sl 6) .nil))) .nil)) .nil))) .nil))
  .nil)) (.cons (.iff (.cmp .NotEq (.ix (.sl 5) (.lit (.int 0))) (.ix (.sl 6) (.lit (.int 0)))) (.cons (.ret (.lit .non))
  .nil) (.cons (.ex (.mt .extend (.sl 4) (.fz (.lz (.cal 2 (.cons (.sl 0) (.cons (.sl 5) .nil)) .nil) (.cal 2 (.cons (.sl 0) (.cons (.sl 6) .nil)) .nil))) .nil))
  .nil))
  .nil))
  .nil))))
def ir_met : ISs :=
  (.cons (.asg (.tp (.cons (.nm 3) (.cons (.nm 4) .nil))) (.tup (.cons (.tupX .nil) (.cons (.lst (.cons (.tup (.cons (.sl 1) (.cons (.sl 2) .nil))) .nil)) .nil))))
  (.cons lp_met_0
  (.cons (.ret (.sl 3))
  .nil)))
-- slots: 0 theory 1 one 2 other 3 puts 4 waiting 5 first 6 second 7 body
-- calls: [('is_name', 2, ()), ('put_behind', 3, ()), ('parts_of', 2, ()), ('kind_of', 2, ()), ('put_in', 2, ())] ; methods: [] ; fields: [] ; constants: []
end PQ

/-! the small syntax of some defs (printed by gen2.py) -/
namespace PQ
open PySem PySem.Spec PyProof.Rows L2 DL
/-! leads -/
def ir_leads : ISs :=
  (.cons (.iff (.cal 2 (.cons (.sl 0) (.cons (.sl 1) .nil)) .nil) (.cons (.iff (.cmp .NotEq (.cal 3 (.cons (.sl 0) (.cons (.sl 1) .nil)) .nil) (.cal 3 (.cons (.sl 0) (.cons (.sl 2) .nil)) .nil)) (.cons (.ret (.lit (.bl false)))
  .nil) .nil)
  (.cons (.ret (.cmp .Eq (.mt .setd (.sl 3) (.ix (.sl 1) (.lit (.int 0))) (.cons (.sl 2) .nil)) (.sl 2)))
  .nil)) .nil)
  (.cons (.iff (.cmp .NotEq (.ix (.sl 1) (.lit (.int 0))) (.ix (.sl 2) (.lit (.int 0)))) (.cons (.ret (.lit (.bl false)))
  .nil) .nil)
  (.cons (.asg (.nm 4) (.fz (.lz (.cal 1 (.cons (.sl 0) (.cons (.sl 1) .nil)) .nil) (.cal 1 (.cons (.sl 0) (.cons (.sl 2) .nil)) .nil))))
  (.cons (.ret (.tb .all (.lc [("part", 5), ("other", 6)] (.tp (.cons (.nm 5) (.cons (.nm 6) .nil))) (.any (.sl 4)) .no (.cal 0 (.cons (.sl 0) (.cons (.sl 5) (.cons (.sl 6) (.cons (.sl 3) .nil)))) .nil))))
  .nil))))
-- slots: 0 theory 1 pattern 2 body 3 bodies 4 pairs 5 part 6 other
-- calls: [('leads', 4, ()), ('parts_of', 2, ()), ('is_name', 2, ()), ('kind_of', 2, ())] ; methods: [] ; fields: [] ; constants: []
/-! led_to -/
def ir_led_to : ISs :=
  (.cons (.asg (.nm 3) .newK)
  (.cons (.iff (.cmp .NotEq (.cb .len (.sl 1) .nil) (.cb .len (.sl 2) .nil)) (.cons (.ret (.lit .non))
  .nil) .nil)
  (.cons (.iff (.nt (.tb .all (.lc [("pattern", 4), ("body", 5)] (.tp (.cons (.nm 4) (.cons (.nm 5) .nil))) (.zp (.sl 1) (.sl 2)) .no (.cal 0 (.cons (.sl 0) (.cons (.sl 4) (.cons (.sl 5) (.cons (.sl 3) .nil)))) .nil)))) (.cons (.ret (.lit .non))
  .nil) .nil)
  (.cons (.ret (.itX (.sl 3)))
  .nil))))
-- slots: 0 theory 1 patterns 2 bodies 3 told 4 pattern 5 body
-- calls: [('leads', 4, ())] ; methods: [] ; fields: [] ; constants: []
end PQ

namespace PR
open PySem PySem.Spec PyProof.Rows L2 DL
local macro_rules | `(tactic| walk_at "dl") => `(tactic| simp only [wSs, wS, DL.wE, DL.wT, DL.wL, wEs, wO, wC, wI, wG, wGs, dSeq, dAsg, dPar, dIf, dDrop, dSlot, dC, CD.d, dBin, boR, coR, dSub, dMod, dFdiv, dTest, dChain, bQ, dNext, dRet, dRetN, dgName, dgSub, dgTup, dgCons, dgNil, dLst, dTup, dTupX, dAug, dItX, dLz, dgTup2, dLenS, diZip, dCons, dNil, dIfE, dAndT, dOrT, dNotT, dAnd, dOr, dNot, dTruth, dTru_non, dTru_bl, dTru_int, dTru_str, dTru_tup, dTru_rl, dNeg, dSlice, dNoPart, dPart, dCall, dMt, dFnN, dMth, dFld, dSfl, dFz, dLcF, dNew, dNewD, dNewK, dLenK, dSliS, dSlS, dRevX, dgHead, dFrz, dForget, isTy, isIns, BF.rd, BT.rd, BM.rd, BM.ty, BF.rt, BT.rt, IEs.len, startD, getS, setS, wipeS, endB, tb, List.getD_cons_zero, List.getD_cons_succ, List.map_cons, List.map_nil, List.replicate, List.length_cons, List.length_nil, List.cons_append, List.nil_append, List.append_nil, dI_int, dAdd_int, dAdd_str, dAdd_tup, dIB_int, dLt_int, dLt_str, dEq_int, dEq_str, dNe_int, dNe_str, lenD_tup, lenD_rl, lenD_str, dMulA_int, dSl_str, ixN3_0, ixN3_1, ixN3_2, List.set_cons_zero, List.set_cons_succ, rAbs_int, rMin_int, rMax_int, rMin_str, rMax_str, dIx_wr, lenD_wr, atI_0, atI_1, atI_2, dIx_tup, dIx_rl, dIx_str, Option.some.injEq, exists_eq_left', decide_true, decide_false, eq_self, ite_true, ite_false, if_true, if_false, true_and, and_true, Bool.false_eq_true, Bool.not_true, Bool.not_false, Nat.reduceAdd, Nat.reduceSub, tTuple, tTupleX, dIs_non, dIs_bl, DL.isNon, dIn_str1, isi_str, isi_tup, isi_tx, isi_int, isi_rl, isi_bl, isi_non])
open PQ
/-! one body led to another: the mirror -/
theorem tS_inj {a b : List Str} : tS a = tS b ↔ a = b := by
  refine ⟨fun h => ?_, fun h => by rw [h]⟩
  unfold tS at h
  injection h with h
  exact List.map_inj_right (fun x y e => by injection e) |>.mp h
theorem dEq_tS {a b : List Str} {M : Mem} {Q : QE} (q : Q (.bl (decide (a = b))) M) : dEq (tS a) (tS b) M Q := dEq_good (good_tS a 63) (good_tS b 63) fun c hc => by
  have : c = decide (a = b) := by
    rw [Bool.eq_iff_iff, hc, tS_inj, decide_eq_true_eq]
  rw [this]; exact q
theorem dNe_tS {a b : List Str} {M : Mem} {Q : QE} (q : Q (.bl (!decide (a = b))) M) : dNe (tS a) (tS b) M Q := dNe_good (good_tS a 63) (good_tS b 63) fun c hc => by
  have : c = !decide (a = b) := by
    rw [Bool.eq_iff_iff, hc, ne_eq, tS_inj]
    simp
  rw [this]; exact q
abbrev Sg := List (Str × List Str)
def enc (σ : Sg) : List (Key × D) := σ.map fun q => (.inr q.1, tS q.2)
theorem enc_val {σ : Sg} {w : Str} : valG (enc σ) (.inr w) = (σ.lookup w).map tS := valG_map (α := List Str) (β := D) tS
theorem enc_put {σ : Sg} {w : Str} {b : List Str} (h : σ.lookup w = none) : putG (enc σ) (.inr w) (tS b) = enc (σ ++ [(w, b)]) := by
  unfold putG
  have : ((enc σ).any fun kv => decide (kv.1 = (.inr w : Key))) = false := by
    rw [List.any_eq_false]
    intro q hq
    unfold enc at hq
    obtain ⟨x, hx, rfl⟩ := List.mem_map.mp hq
    simp only [decide_eq_true_eq]
    intro e
    injection e with e
    have := List.lookup_eq_none_iff.mp h x hx
    rw [e] at this
    simp at this
  rw [this]
  simp [enc]
theorem enc_len (σ : Sg) : (enc σ).length = σ.length := by unfold enc; rw [List.length_map]
mutual
def lead (g : Gr) : Tr → Tr → Sg → Bool × Sg
  | .nd w ts, U, σ => match g.names.lookup w with
    | some k => if (g.mak U.w).map Prod.fst = some k then (match σ.lookup w with
      | some b => (decide (b = U.flat), σ)
      | none => (true, σ ++ [(w, U.flat)])) else (false, σ)
    | none => if w = U.w then leads g ts U.ts σ else (false, σ)
def leads (g : Gr) : List Tr → List Tr → Sg → Bool × Sg
  | [], _, σ => (true, σ)
  | t :: ts, us, σ => match us with
    | [] => (true, σ)
    | u :: us => ((lead g t u σ).1 && (leads g ts us (lead g t u σ).2).1, (leads g ts us (lead g t u σ).2).2)
end
mutual
theorem lead_len (g : Gr) : ∀ (T U : Tr) (σ : Sg), (lead g T U σ).2.length ≤ σ.length + T.flat.length
  | .nd w ts, U, σ => by
    rw [lead, Tr.flat, List.length_cons]
    split
    · split
      · split
        · simp only; omega
        · simp only [List.length_append, List.length_singleton]; omega
      · simp only; omega
    · split
      · have := leads_len g ts U.ts σ; omega
      · simp only; omega
theorem leads_len (g : Gr) : ∀ (ts us : List Tr) (σ : Sg), (leads g ts us σ).2.length ≤ σ.length + (flats ts).length
  | [], us, σ => by rw [leads]; simp only; omega
  | t :: ts, us, σ => by
    cases us with
    | nil => rw [leads]; simp only; omega
    | cons u us =>
      rw [leads, flats, List.length_append]
      have h1 := lead_len g t u σ
      have h2 := leads_len g ts us (lead g t u σ).2
      simp only
      omega
end
/-! leads: the walk -/
def spLeads (C : Addr) (n : Nat) : DSp := fun ds M Q E => ∃ (t : Addr) (g : Gr) (kept : List (Key × D)) (p : Addr) (T U : Tr) (k k2 : Str) (σ : Sg), ds = [.ref t, tS T.flat, tS U.flat, .ref p] ∧ g.Ok ∧ (∀ o, ThAt C (wr M p o) t g kept) ∧ M p = some (.dK (enc σ)) ∧ g.T k T ∧ g.T k2 U ∧ T.dep ≤ n ∧
  σ.length + T.flat.length ≤ 10000 ∧ U.flat.length ≤ 10000 ∧ Q (.bl (lead g T U σ).1) (wr M p (.dK (enc (lead g T U σ).2)))
theorem zipD_T : ∀ (xs ys : List Tr), (zipD (xs.map fun t => tS t.flat) (ys.map fun t => tS t.flat)).map D.tup = (List.zip xs ys).map fun q => D.tup [tS q.1.flat, tS q.2.flat]
  | [], _ => by simp [zipD]
  | _ :: _, [] => by simp [zipD]
  | x :: xs, y :: ys => by
    have := zipD_T xs ys
    unfold zipD at this ⊢
    simp only [List.map_cons, List.zipWith_cons_cons, List.zip_cons_cons]
    rw [this]
theorem bl_map (acc : List Bool) (b : Bool) : acc.map D.bl ++ [D.bl b] = (acc ++ [b]).map D.bl := by simp
theorem leads_law (C : Addr) (n : Nat) (ds : List D) (M : Mem) (Q : QE) (E : EX) (H : spLeads C (n + 1) ds M Q E) : wSs (tb [spLeads C n, spParts C, spIsName C, spKindOf C] [] []) ir_leads (endB Q) E (startD 7 ds) M := by
  obtain ⟨t, g, kept, p, T, U, k, k2, σ, rfl, ok, th, hp, hT, hU, hd, hl, hl2, q⟩ := H
  have s24 : sizeLine = 2 ^ 24 := rfl
  have th0 : ThAt C M t g kept := by
    have := th (.dK (enc σ))
    rwa [wr_id hp] at this
  have kT := kind_T hT
  have kU := kind_T hU
  cases T with
  | nd w ts =>
  cases U with
  | nd v us =>
  obtain ⟨ps, em, a⟩ := T_inv hT
  obtain ⟨qs, em2, a2⟩ := T_inv hU
  unfold ir_leads
  walk_at "dl"
  refine ⟨t, g, kept, w, flats ts, by rw [Tr.flat], ok, th0, ?_⟩
  cases e : g.names.lookup w with
  | some kw =>
    obtain ⟨hk, hts⟩ := name_T hT (by rw [e]; rfl)
    rw [e] at hk
    injection hk with hk
    subst hk hts
    simp only [Option.isSome_some]
    walk_at "dl"
    refine ⟨t, g, kept, _, rfl, ok, th0, by omega, t, g, kept, _, rfl, ok, th0, by omega, ?_⟩
    rw [kT, kU]
    show dNe (.str kw) (.str k2) _ _
    walk_at "dl"
    have ql : lead g (.nd w []) (.nd v us) σ = if k2 = kw then (match σ.lookup w with
      | some b => (decide (b = (Tr.nd v us).flat), σ)
      | none => (true, σ ++ [(w, (Tr.nd v us).flat)])) else (false, σ) := by
      rw [lead, e]
      simp only [Tr.w, em2, Option.map_some, Option.some.injEq]
    rw [ql] at q
    by_cases hk : kw = k2
    · subst hk
      rw [if_pos rfl] at q
      rw [decide_eq_true rfl]
      walk_at "dl"
      rw [Tr.flat]
      unfold tS
      walk_at "dl"
      refine ⟨.inr (.inl ⟨_, hp⟩), _, .inr w, hp, rfl, by rw [enc_len]; omega, ?_⟩
      rw [enc_val]
      cases es : σ.lookup w with
      | some b =>
        rw [es] at q
        show dEq (tS b) (tS (Tr.nd v us).flat) M _
        refine dEq_tS ?_
        have q' : Q (.bl (decide (b = (Tr.nd v us).flat))) (wr M p (.dK (enc σ))) := q
        rw [wr_id hp] at q'
        exact ⟨M, Sub.refl, q'⟩
      | none =>
        rw [es] at q
        show dEq (tS (Tr.nd v us).flat) (tS (Tr.nd v us).flat) (wr M p (.dK (putG (enc σ) (.inr w) (tS (Tr.nd v us).flat)))) _
        rw [enc_put es]
        refine dEq_tS ?_
        rw [decide_eq_true rfl]
        exact ⟨_, Sub.refl, q⟩
    · rw [if_neg (fun z => hk z.symm)] at q
      rw [decide_eq_false hk]
      walk_at "dl"
      have q' : Q (.bl false) (wr M p (.dK (enc σ))) := q
      rw [wr_id hp] at q'
      exact ⟨M, Sub.refl, q'⟩
  | none =>
    simp only [Option.isSome_none]
    walk_at "dl"
    rw [Tr.flat, Tr.flat]
    unfold tS
    walk_at "dl"
    have ql : lead g (.nd w ts) (.nd v us) σ = if w = v then leads g ts us σ else (false, σ) := by
      rw [lead, e]
      rfl
    rw [ql] at q
    by_cases hw : w = v
    · subst hw
      rw [if_pos rfl] at q
      rw [decide_eq_true rfl]
      walk_at "dl"
      rw [em] at em2
      injection em2 with em2
      injection em2 with e1 e2
      subst e1 e2
      have hps : ∀ (ts : List Tr) (ps : List Str), g.Ts ps ts → ∀ b ∈ ts.map Tr.flat, Rd g b 1 := by
        intro ts
        induction ts with
        | nil => intro ps _ b hb; cases hb
        | cons x ts ih =>
          intro ps h b hb
          cases ps with
          | nil => cases h
          | cons p ps =>
            obtain ⟨h1, h2⟩ := Ts_inv h
            rcases List.mem_cons.mp hb with rfl | hb
            · exact T_rd h1
            · exact ih ps h2 b hb
      have eT : (Tr.nd w ts).flat.length = (flats ts).length + 1 := by rw [Tr.flat, List.length_cons]
      have eU : (Tr.nd w us).flat.length = (flats us).length + 1 := by rw [Tr.flat, List.length_cons]
      refine ⟨t, g, kept, w, ts.map Tr.flat, by rw [flats_map]; rfl, ok, th0, hps ts ps a, by rw [← flats_map, List.length_cons]; omega, t, g, kept, w, us.map Tr.flat, by rw [flats_map]; rfl, ok, th0, hps us ps a2, by rw [← flats_map, List.length_cons]; omega, ?_⟩
      refine ⟨_, _, rfl, rfl, fun p1 hp1 => ⟨_, wr_same, ?_⟩⟩
      rw [mdel_wr hp1, List.map_map, List.map_map]
      have ez := zipD_T ts us
      have ef : ((tS ∘ Tr.flat) : Tr → D) = fun t => tS t.flat := rfl
      rw [ef, ez]
      unfold dTmp
      have hTs : ∀ (ts us : List Tr) (ps : List Str), g.Ts ps ts → g.Ts ps us → ∀ q ∈ List.zip ts us, (∃ k, g.T k q.1) ∧ (∃ k, g.T k q.2) ∧ q.1.dep ≤ deps ts ∧ q.2.flat.length ≤ (flats us).length := by
        intro ts
        induction ts with
        | nil => intro us ps _ _ q hq; simp at hq
        | cons x ts ih =>
          intro us ps h h2 q hq
          cases us with
          | nil => simp at hq
          | cons y us =>
            cases ps with
            | nil => cases h
            | cons p ps =>
              obtain ⟨h1, h3⟩ := Ts_inv h
              obtain ⟨g1, g3⟩ := Ts_inv h2
              rw [deps, flats, List.length_append]
              rw [List.zip_cons_cons] at hq
              rcases List.mem_cons.mp hq with rfl | hq
              · exact ⟨⟨_, h1⟩, ⟨_, g1⟩, Nat.le_max_left _ _, by simp only; omega⟩
              · obtain ⟨z1, z2, z3, z4⟩ := ih us ps h3 g3 q hq
                exact ⟨z1, z2, by omega, by omega⟩
      have hm := hTs ts us ps a a2
      have hdep : deps ts ≤ n := by
        rw [Tr.dep] at hd
        omega
      have hlen := Ts_len a
      have hlen2 := Ts_len a2
      refine lcGo ?_
      unfold diAny
      walk_at "dl"
      refine lcK (List.zip ts us) (fun q => D.tup [tS q.1.flat, tS q.2.flat]) (fun r acc M2 => ∃ (σ2 : Sg) (bs : List Bool) (rt ru : List Tr), M2 = wr M p (.dK (enc σ2)) ∧ acc = bs.map D.bl ∧ r = List.zip rt ru ∧ rt.length = ru.length ∧ bs.length + r.length = ts.length ∧ σ2.length + (flats rt).length ≤ σ.length + (flats ts).length ∧
        leads g ts us σ = (bs.all id && (leads g rt ru σ2).1, (leads g rt ru σ2).2)) (fun _ _ _ _ => trivial) ⟨σ, [], ts, us, (wr_id hp).symm, rfl, rfl, by omega, by rw [List.length_zip]; simp; omega, Nat.le_refl _, by simp⟩ ?_ ?_
      · rintro ⟨x, y⟩ r acc M2 ⟨pre, hpre⟩ ⟨σ2, bs, rt, ru, rfl, rfl, hr, hrl, hbl, hsl, hq⟩
        obtain ⟨⟨kx, hx⟩, ⟨ky, hy⟩, hdx, hly⟩ := hm (x, y) (by rw [hpre]; simp)
        cases rt with
        | nil => simp at hr
        | cons x' rt =>
        cases ru with
        | nil => simp at hr
        | cons y' ru =>
        rw [List.zip_cons_cons] at hr
        injection hr with hr1 hr2
        injection hr1 with hr1 hr3
        subst hr1 hr3
        unfold dYes
        walk_at "dl"
        rw [flats, List.length_append] at hsl
        have hl1 := lead_len g x y σ2
        rw [List.length_cons] at hbl
        simp only at hdx hly
        refine ⟨t, g, kept, p, x, y, kx, ky, σ2, rfl, ok, fun o => by rw [wr_wr]; exact th o, wr_same, hx, hy, by omega, by omega, by omega, ?_⟩
        rw [wr_wr]
        have tl : ts.length ≤ 10000 := by
          have : ∀ ts : List Tr, ts.length ≤ (flats ts).length := by
            intro ts
            induction ts with
            | nil => exact Nat.le_refl _
            | cons z ts ih =>
              obtain ⟨r, e⟩ := flat_cons z
              rw [flats, List.length_append, e, List.length_cons, List.length_cons]
              omega
          have := this ts
          omega
        refine ⟨by rw [List.length_map]; omega, (lead g x y σ2).2, bs ++ [(lead g x y σ2).1], rt, ru, rfl, bl_map _ _, hr2, by simpa using hrl, by rw [List.length_append, List.length_singleton]; omega, by omega, ?_⟩
        rw [hq, leads]
        simp [Bool.and_assoc]
      · rintro acc M2 ⟨σ2, bs, rt, ru, rfl, rfl, hr, hrl, hbl, hsl, hq⟩
        have : rt = [] := by
          cases rt with
          | nil => rfl
          | cons _ _ =>
            cases ru with
            | nil => cases hrl
            | cons _ _ => cases hr
        subst this
        rw [leads] at hq
        rw [hq] at q
        simp only [Bool.and_true] at q
        exact ⟨bs, rfl, _, Sub.refl, q⟩
    · rw [if_neg hw] at q
      rw [decide_eq_false hw]
      walk_at "dl"
      have q' : Q (.bl false) (wr M p (.dK (enc σ))) := q
      rw [wr_id hp] at q'
      exact ⟨M, Sub.refl, q'⟩
end PR

namespace PR
open PySem PySem.Spec PyProof.Rows L2 DL
local macro_rules | `(tactic| walk_at "dl") => `(tactic| simp only [wSs, wS, DL.wE, DL.wT, DL.wL, wEs, wO, wC, wI, wG, wGs, dSeq, dAsg, dPar, dIf, dDrop, dSlot, dC, CD.d, dBin, boR, coR, dSub, dMod, dFdiv, dTest, dChain, bQ, dNext, dRet, dRetN, dgName, dgSub, dgTup, dgCons, dgNil, dLst, dTup, dTupX, dAug, dItX, dLz, dgTup2, dLenS, diZip, dCons, dNil, dIfE, dAndT, dOrT, dNotT, dAnd, dOr, dNot, dTruth, dTru_non, dTru_bl, dTru_int, dTru_str, dTru_tup, dTru_rl, dNeg, dSlice, dNoPart, dPart, dCall, dMt, dFnN, dMth, dFld, dSfl, dFz, dLcF, dNew, dNewD, dNewK, dLenK, dSliS, dSlS, dRevX, dgHead, dFrz, dForget, isTy, isIns, BF.rd, BT.rd, BM.rd, BM.ty, BF.rt, BT.rt, IEs.len, startD, getS, setS, wipeS, endB, tb, List.getD_cons_zero, List.getD_cons_succ, List.map_cons, List.map_nil, List.replicate, List.length_cons, List.length_nil, List.cons_append, List.nil_append, List.append_nil, dI_int, dAdd_int, dAdd_str, dAdd_tup, dIB_int, dLt_int, dLt_str, dEq_int, dEq_str, dNe_int, dNe_str, lenD_tup, lenD_rl, lenD_str, dMulA_int, dSl_str, ixN3_0, ixN3_1, ixN3_2, List.set_cons_zero, List.set_cons_succ, rAbs_int, rMin_int, rMax_int, rMin_str, rMax_str, dIx_wr, lenD_wr, atI_0, atI_1, atI_2, dIx_tup, dIx_rl, dIx_str, Option.some.injEq, exists_eq_left', decide_true, decide_false, eq_self, ite_true, ite_false, if_true, if_false, true_and, and_true, Bool.false_eq_true, Bool.not_true, Bool.not_false, Nat.reduceAdd, Nat.reduceSub, tTuple, tTupleX, dIs_non, dIs_bl, DL.isNon, dIn_str1, isi_str, isi_tup, isi_tx, isi_int, isi_rl, isi_bl, isi_non])
open PQ
/-! led_to -/
def ledTo (g : Gr) (Ts Us : List Tr) : Option Sg := if Ts.length = Us.length then (if (leads g Ts Us []).1 = true then some (leads g Ts Us []).2 else none) else none
def oSg : Option Sg → D
  | some σ => .tx (σ.map ptD)
  | none => .non
def trD (t : Tr) : D := tS t.flat
theorem enc_pair (σ : Sg) : (enc σ).map DL.pairD = σ.map ptD := by
  unfold enc
  rw [List.map_map]
  rfl
theorem mem_len {ts : List Tr} {t : Tr} (h : t ∈ ts) : t.flat.length ≤ (flats ts).length := by
  induction ts with
  | nil => cases h
  | cons x ts ih =>
    rw [flats, List.length_append]
    rcases List.mem_cons.mp h with rfl | h
    · omega
    · have := ih h; omega
theorem mem_dep {ts : List Tr} {t : Tr} (h : t ∈ ts) : t.dep ≤ deps ts := by
  induction ts with
  | nil => cases h
  | cons x ts ih =>
    rw [deps]
    rcases List.mem_cons.mp h with rfl | h
    · omega
    · have := ih h; omega
def spLedTo (C : Addr) (n : Nat) : DSp := fun ds M Q E => ∃ (t : Addr) (g : Gr) (kept : List (Key × D)) (Ts Us : List Tr), ds = [.ref t, .tup (Ts.map trD), .tup (Us.map trD)] ∧ g.Ok ∧ ThAt C M t g kept ∧ (∀ T ∈ Ts, ∃ k, g.T k T) ∧ (∀ U ∈ Us, ∃ k, g.T k U) ∧ deps Ts ≤ n ∧
  (flats Ts).length ≤ 5000 ∧ (∀ U ∈ Us, U.flat.length ≤ 10000) ∧ Ts.length ≤ 5000 ∧ Q (oSg (ledTo g Ts Us)) M
theorem led_to_law (C : Addr) (n : Nat) (ds : List D) (M : Mem) (Q : QE) (E : EX) (H : spLedTo C n ds M Q E) : wSs (tb [spLeads C n] [] []) ir_led_to (endB Q) E (startD 6 ds) M := by
  obtain ⟨t, g, kept, Ts, Us, rfl, ok, th, hT, hU, hd, hl, hl2, hl3, q⟩ := H
  have s24 : sizeLine = 2 ^ 24 := rfl
  unfold ir_led_to
  walk_at "dl"
  refine fun p hp => ?_
  have th' : ∀ o, ThAt C (wr M p o) t g kept := fun o => th.sub (sub_wr hp)
  rw [List.length_map, List.length_map]
  unfold ledTo at q
  by_cases hz : Ts.length = Us.length
  · rw [if_pos hz] at q
    rw [decide_eq_true (show (Ts.length : Int) = (Us.length : Int) by omega)]
    walk_at "dl"
    unfold dTmp
    refine lcGo ?_
    unfold diZip
    walk_at "dl"
    refine .inl ⟨_, _, rfl, rfl, ?_⟩
    have ez := zipD_T Ts Us
    have e2 : trD = fun t => tS t.flat := rfl
    rw [e2, ez]
    refine lcK (List.zip Ts Us) (fun q => D.tup [tS q.1.flat, tS q.2.flat]) (fun r acc M2 => ∃ (σ2 : Sg) (bs : List Bool) (rt ru : List Tr), M2 = wr M p (.dK (enc σ2)) ∧ acc = bs.map D.bl ∧ r = List.zip rt ru ∧ rt.length = ru.length ∧ bs.length + r.length = Ts.length ∧ σ2.length + (flats rt).length ≤ (flats Ts).length ∧ (∀ T ∈ rt, T ∈ Ts) ∧ (∀ U ∈ ru, U ∈ Us) ∧
      leads g Ts Us [] = (bs.all id && (leads g rt ru σ2).1, (leads g rt ru σ2).2)) (fun _ _ _ _ => trivial) ⟨[], [], Ts, Us, rfl, rfl, rfl, hz, by rw [List.length_zip]; simp; omega, by simp, fun _ h => h, fun _ h => h, by simp⟩ ?_ ?_
    · rintro ⟨x, y⟩ r acc M2 _ ⟨σ2, bs, rt, ru, rfl, rfl, hr, hrl, hbl, hsl, mt, mu, hq⟩
      cases rt with
      | nil => simp at hr
      | cons x' rt =>
      cases ru with
      | nil => simp at hr
      | cons y' ru =>
      rw [List.zip_cons_cons] at hr
      injection hr with hr1 hr2
      injection hr1 with hr1 hr3
      subst hr1 hr3
      obtain ⟨kx, hx⟩ := hT x (mt x (by simp))
      obtain ⟨ky, hy⟩ := hU y (mu y (by simp))
      have hdx := mem_dep (mt x (by simp))
      have hly := hl2 y (mu y (by simp))
      unfold dYes
      walk_at "dl"
      rw [flats, List.length_append] at hsl
      have hl1 := lead_len g x y σ2
      rw [List.length_cons] at hbl
      refine ⟨t, g, kept, p, x, y, kx, ky, σ2, rfl, ok, fun o => by rw [wr_wr]; exact th' o, wr_same, hx, hy, by omega, by omega, by omega, ?_⟩
      rw [wr_wr]
      refine ⟨by rw [List.length_map]; omega, (lead g x y σ2).2, bs ++ [(lead g x y σ2).1], rt, ru, rfl, bl_map _ _, hr2, by simpa using hrl, by rw [List.length_append, List.length_singleton]; omega, by omega, fun T h => mt T (by simp [h]), fun U h => mu U (by simp [h]), ?_⟩
      rw [hq, leads]
      simp [Bool.and_assoc]
    · rintro acc M2 ⟨σ2, bs, rt, ru, rfl, rfl, hr, hrl, hbl, hsl, mt, mu, hq⟩
      have : rt = [] := by
        cases rt with
        | nil => rfl
        | cons _ _ =>
          cases ru with
          | nil => cases hrl
          | cons _ _ => cases hr
      subst this
      rw [leads] at hq
      rw [hq] at q
      simp only [Bool.and_true] at q
      refine ⟨bs, rfl, ?_⟩
      walk_at "dl"
      cases hb : bs.all id with
      | true =>
        rw [hb] at q
        rw [if_pos rfl] at q
        walk_at "dl"
        refine ⟨_, wr_same, ?_⟩
        rw [enc_pair]
        exact ⟨M, sub_wr hp, q⟩
      | false =>
        rw [hb] at q
        rw [if_neg (by simp)] at q
        walk_at "dl"
        exact ⟨M, sub_wr hp, q⟩
  · rw [if_neg hz] at q
    rw [decide_eq_false (show ¬ (Ts.length : Int) = (Us.length : Int) by omega)]
    walk_at "dl"
    exact ⟨M, sub_wr hp, q⟩
/-! names_in -/
def isNm (g : Gr) (w : Str) : Bool := (g.names.lookup w).isSome
/-- the names, each once, as they first stand -/
def nmsIn (g : Gr) (ws : List Str) : List Str := ddup (ws.filter (isNm g))
theorem putG_nms (l : List Str) (w : Str) : putG (l.map fun w => ((.inr w : Key), D.bl true)) (.inr w) (.bl true) = (dstep l w).map fun w => ((.inr w : Key), D.bl true) := by
  unfold putG dstep
  by_cases h : w ∈ l
  · have : ((l.map fun w => ((.inr w : Key), D.bl true)).any fun kv => decide (kv.1 = (.inr w : Key))) = true := by
      rw [List.any_eq_true]
      exact ⟨_, List.mem_map_of_mem h, by simp⟩
    rw [if_pos this, if_pos h, List.map_map]
    refine List.map_congr_left fun x _ => ?_
    simp only [Function.comp]
    split <;> rfl
  · have : ((l.map fun w => ((.inr w : Key), D.bl true)).any fun kv => decide (kv.1 = (.inr w : Key))) = false := by
      rw [List.any_eq_false]
      intro q hq
      obtain ⟨x, hx, rfl⟩ := List.mem_map.mp hq
      simp only [decide_eq_true_eq]
      intro e
      injection e with e
      subst e
      exact h hx
    rw [this, if_neg h]
    simp
theorem merge_nms : ∀ (l m : List Str), mergeG (m.map fun w => ((.inr w : Key), D.bl true)) (l.map fun w => ((.inr w : Key), D.bl true)) = (l.foldl dstep m).map fun w => ((.inr w : Key), D.bl true)
  | [], m => rfl
  | w :: l, m => by
    rw [List.map_cons]
    show mergeG (putG (m.map fun w => ((.inr w : Key), D.bl true)) (.inr w) (.bl true)) (l.map fun w => ((.inr w : Key), D.bl true)) = _
    rw [putG_nms, merge_nms l (dstep m w)]
    rfl
def rowsD (bs : List (List Str)) : D := .tup (bs.map tS)
def spNames (C : Addr) : DSp := fun ds M Q E => ∃ (t : Addr) (g : Gr) (kept : List (Key × D)) (bs : List (List Str)), ds = [.ref t, rowsD bs] ∧ ThAt C M t g kept ∧ bs.flatten.length ≤ 100000 ∧ Q (.tx ((nmsIn g bs.flatten).map D.str)) M
theorem names_in_law (C : Addr) (ds : List D) (M : Mem) (Q : QE) (E : EX) (H : spNames C ds M Q E) : wSs (tb [] [spIsCalled C] [C]) ir_names_in (endB Q) E (startD 4 ds) M := by
  obtain ⟨t, g, kept, bs, rfl, th, hl, q⟩ := H
  have s24 : sizeLine = 2 ^ 24 := rfl
  have th0 := th
  obtain ⟨pc, pm, pk, h1, h2, h3, h4⟩ := th0
  have hle : ∀ {b : List Str}, b ∈ bs → b.length ≤ bs.flatten.length := fun {b} hb => by
    rw [List.length_flatten]
    have := List.mem_map_of_mem (f := List.length) hb
    generalize bs.map List.length = l at this ⊢
    induction l with
    | nil => cases this
    | cons x l ih =>
      rw [List.sum_cons]
      rcases List.mem_cons.mp this with e | e
      · omega
      · have := ih e; omega
  have e1 : (bs.flatMap fun b => (b.filter (isNm g)).map fun w => ((.inr w : Key), D.bl true)) = (bs.flatten.filter (isNm g)).map fun w => ((.inr w : Key), D.bl true) := by
    rw [List.filter_flatten, List.map_flatten, List.flatMap_def, List.map_map]
    rfl
  unfold ir_names_in
  walk_at "dl"
  refine dc2T bs tS (fun b => (b.filter (isNm g)).map fun w => ((.inr w : Key), D.bl true)) (fun R h => by
    unfold diAny rowsD
    walk_at "dl"
    exact h (fun _ => True) trivial) (fun b hb acc J hz hJ => ?_) ?_
  · unfold dYes
    walk_at "dl"
    unfold diAny tS
    walk_at "dl"
    refine in2D (c := isNm g) (kf := fun w => .inr w) (f := fun _ => .bl true) (live := fun _ => True) b D.str trivial ?_ (fun w hw K N q1 q2 => ?_) hJ
    · have h1 := List.length_filter_le (isNm g) bs.flatten
      rw [e1, List.length_map] at hz
      have := hle hb
      omega
    · walk_at "dl"
      refine ⟨⟨_, h1, rfl⟩, t, g, kept, w, rfl, th, ?_⟩
      unfold isNm at q1 q2
      cases e : (g.names.lookup w).isSome with
      | true =>
        walk_at "dl"
        exact q1 e
      | false =>
        walk_at "dl"
        exact q2 e
  · intro p hp
    rw [e1]
    have := merge_nms (bs.flatten.filter (isNm g)) []
    rw [List.map_nil] at this
    rw [this]
    unfold rTupleK
    refine ⟨_, wr_same, M, sub_wr hp, ?_⟩
    rw [List.map_map]
    exact q
end PR

namespace PR
open PySem PySem.Spec PyProof.Rows L2 DL
local macro_rules | `(tactic| walk_at "dl") => `(tactic| simp only [wSs, wS, DL.wE, DL.wT, DL.wL, wEs, wO, wC, wI, wG, wGs, dSeq, dAsg, dPar, dIf, dDrop, dSlot, dC, CD.d, dBin, boR, coR, dSub, dMod, dFdiv, dTest, dChain, bQ, dNext, dRet, dRetN, dgName, dgSub, dgTup, dgCons, dgNil, dLst, dTup, dTupX, dAug, dItX, dLz, dgTup2, dLenS, diZip, dCons, dNil, dIfE, dAndT, dOrT, dNotT, dAnd, dOr, dNot, dTruth, dTru_non, dTru_bl, dTru_int, dTru_str, dTru_tup, dTru_rl, dNeg, dSlice, dNoPart, dPart, dCall, dMt, dFnN, dMth, dFld, dSfl, dFz, dLcF, dNew, dNewD, dNewK, dLenK, dSliS, dSlS, dRevX, dgHead, dFrz, dForget, isTy, isIns, BF.rd, BT.rd, BM.rd, BM.ty, BF.rt, BT.rt, IEs.len, startD, getS, setS, wipeS, endB, tb, List.getD_cons_zero, List.getD_cons_succ, List.map_cons, List.map_nil, List.replicate, List.length_cons, List.length_nil, List.cons_append, List.nil_append, List.append_nil, dI_int, dAdd_int, dAdd_str, dAdd_tup, dIB_int, dLt_int, dLt_str, dEq_int, dEq_str, dNe_int, dNe_str, lenD_tup, lenD_rl, lenD_str, dMulA_int, dSl_str, ixN3_0, ixN3_1, ixN3_2, List.set_cons_zero, List.set_cons_succ, rAbs_int, rMin_int, rMax_int, rMin_str, rMax_str, dIx_wr, lenD_wr, atI_0, atI_1, atI_2, dIx_tup, dIx_rl, dIx_str, Option.some.injEq, exists_eq_left', decide_true, decide_false, eq_self, ite_true, ite_false, if_true, if_false, true_and, and_true, Bool.false_eq_true, Bool.not_true, Bool.not_false, Nat.reduceAdd, Nat.reduceSub, tTuple, tTupleX, dIs_non, dIs_bl, DL.isNon, dIn_str1, isi_str, isi_tup, isi_tx, isi_int, isi_rl, isi_bl, isi_non])
open PQ
/-! puts: right ones; one behind the other -/
theorem in_tx {w : Str} {ws : List Str} {neg : Bool} {M : Mem} {Q : QE} (q : Q (.bl (if neg then !decide (w ∈ ws) else decide (w ∈ ws))) M) : dIn neg (.str w) (.tx (ws.map D.str)) M Q := by
  show inSeq (.str w) (ws.map D.str) M fun b => Q (.bl (if neg then !b else b)) M
  refine inSeq_good (x := .str w) (xs := ws.map D.str) rfl goodL_strs fun b hb => ?_
  have : b = decide (w ∈ ws) := by rw [Bool.eq_iff_iff, hb, decide_eq_true_eq, mem_strs]
  rw [this]; exact q
theorem lenD_tx {xs : List D} {M : Mem} {Q : QE} : rLenD [.tx xs] M Q ↔ Q (.int xs.length) M := Iff.rfl
def spIsPut (C : Addr) : DSp := fun ds M Q E => ∃ (t : Addr) (g : Gr) (kept : List (Key × D)) (p : Str × List Str), ds = [.ref t, ptD p] ∧ g.Ok ∧ ThAt C M t g kept ∧ (∃ k, g.names.lookup p.1 = some k ∧ g.IsBody k p.2) ∧ p.2.length ≤ 100000 ∧ Q (.bl true) M
theorem kind_body {g : Gr} {k : Str} {b : List Str} (h : g.IsBody k b) : g.kindOf b = some k := by
  have e := go_body h [] none [] none
  rw [List.append_nil] at e
  unfold Gr.kindOf
  rw [if_neg (body_ne h), e]
  simp [Gr.go]
theorem is_put_law (C : Addr) (ds : List D) (M : Mem) (Q : QE) (E : EX) (H : spIsPut C ds M Q E) : wSs (tb [spKindOf C] [] [C]) ir_is_put (endB Q) E (startD 3 ds) M := by
  obtain ⟨t, g, kept, ⟨n, b⟩, rfl, ok, th, ⟨k, hk, hb⟩, hl, q⟩ := H
  have th0 := th
  obtain ⟨pc, pm, pk, h1, h2, h3, h4⟩ := th0
  unfold ir_is_put ptD
  walk_at "dl"
  refine ⟨_, _, h1, rfl, ?_⟩
  unfold Gr.nD
  refine ⟨g.names.map fun x => (.inr x.1, .str x.2), by rw [List.map_map]; rfl, fun p hp => ?_⟩
  rw [called_mergeQ ok]
  refine ⟨.inr (.inl ⟨_, wr_same⟩), ?_⟩
  rw [mGet1 wr_same (k := .inr n) rfl, called_val, hk]
  simp only [Option.map_some, Option.getD_some]
  walk_at "dl"
  refine ⟨t, g, kept, b, rfl, ok, th.sub (sub_wr hp), hl, ?_⟩
  rw [kind_body hb]
  show dEq (.str k) (.str k) _ _
  rw [dEq_str, decide_eq_true rfl]
  exact ⟨M, sub_wr hp, q⟩
def spIsPuts (C : Addr) : DSp := fun ds M Q E => ∃ (t : Addr) (g : Gr) (kept : List (Key × D)) (P : List (Str × List Str)), ds = [.ref t, .tx (P.map ptD)] ∧ g.Ok ∧ ThAt C M t g kept ∧ g.Puts P ∧ P.length ≤ 1000 ∧ (∀ p ∈ P, p.2.length ≤ 100000) ∧ Q (.bl true) M
theorem is_puts_law (C : Addr) (ds : List D) (M : Mem) (Q : QE) (E : EX) (H : spIsPuts C ds M Q E) : wSs (tb [spIsPut C] [] []) ir_is_puts (endB Q) E (startD 5 ds) M := by
  obtain ⟨t, g, kept, P, rfl, ok, th, hp, hl, hl2, q⟩ := H
  have s24 : sizeLine = 2 ^ 24 := rfl
  unfold ir_is_puts
  walk_at "dl"
  refine allT P ptD (fun _ => true) (fun R h => by
    unfold diAny
    walk_at "dl"
    exact h (fun _ => True) trivial) (by omega) (fun p hpm K h => ?_) ?_
  · walk_at "dl"
    exact ⟨t, g, kept, p, rfl, ok, th, hp.2 p hpm, hl2 p hpm, h⟩
  · rw [List.all_eq_true.mpr fun _ _ => rfl]
    walk_at "dl"
    refine scT P ptD (fun _ => true) (fun p => .inr p.1) (fun R h => by
      unfold diAny
      walk_at "dl"
      exact h (fun _ => True) trivial) (by omega) (fun p hpm K N h1 _ => ?_) ?_
    · unfold ptD dYes
      walk_at "dl"
      exact h1 rfl
    · rw [List.filter_eq_self.mpr fun _ _ => rfl]
      have nd : (P.map fun p => ((.inr p.1 : Key))).Nodup := by
        have := hp.1
        have e : (P.map fun p => ((.inr p.1 : Key))) = (P.map Prod.fst).map Sum.inr := by rw [List.map_map]; rfl
        rw [e]
        exact List.pairwise_map.mpr (this.imp fun ne z => ne (by injection z))
      rw [ddup_of_nodup nd, List.length_map]
      refine ⟨by omega, ?_⟩
      rw [lenD_tx, List.length_map, dEq_int, decide_eq_true rfl]
      exact ⟨M, Sub.refl, q⟩
/-- first P, then R, at once -/
def behind (g : Gr) (P R : Sg) : Sg := (P.map fun p => (p.1, putIn R p.2)) ++ R.filter fun q => !decide (q.1 ∈ nmsIn g (P.map Prod.fst))
def spBehind (C : Addr) : DSp := fun ds M Q E => ∃ (t : Addr) (g : Gr) (kept : List (Key × D)) (P R : Sg), ds = [.ref t, .tx (P.map ptD), .tx (R.map ptD)] ∧ ThAt C M t g kept ∧ (R.map Prod.fst).Nodup ∧ P.length ≤ 1000 ∧ R.length ≤ 1000 ∧ (∀ p ∈ P, (putIn R p.2).length ≤ 100000) ∧ Q (.tx ((behind g P R).map ptD)) M
theorem put_behind_law (C : Addr) (ds : List D) (M : Mem) (Q : QE) (E : EX) (H : spBehind C ds M Q E) : wSs (tb [spPutIn, spNames C] [] []) ir_put_behind (endB Q) E (startD 7 ds) M := by
  obtain ⟨t, g, kept, P, R, rfl, th, nd, hl, hl2, hp, q⟩ := H
  have s24 : sizeLine = 2 ^ 24 := rfl
  unfold ir_put_behind
  walk_at "dl"
  refine lcT P ptD (fun _ => true) (fun p => tS [p.1]) (fun R h => by
    unfold diAny
    walk_at "dl"
    exact h (fun _ => True) trivial) (by omega) (fun p hpm K N h1 _ => ?_) ?_
  · unfold ptD dYes
    walk_at "dl"
    exact ⟨by omega, h1 rfl⟩
  rw [List.filter_eq_self.mpr fun _ _ => rfl]
  walk_at "dl"
  have ef : (P.map fun p => [p.1]).flatten = P.map Prod.fst := by
    clear q hp hl
    induction P with
    | nil => rfl
    | cons p P ih => rw [List.map_cons, List.flatten_cons, ih]; rfl
  refine ⟨t, g, kept, P.map fun p => [p.1], ?_, th, by rw [ef, List.length_map]; omega, ?_⟩
  · unfold rowsD
    rw [List.map_map]
    rfl
  rw [ef]
  refine lcT P ptD (fun _ => true) (fun p => ptD (p.1, putIn R p.2)) (fun R h => by
    unfold diAny
    walk_at "dl"
    exact h (fun _ => True) trivial) (by omega) (fun p hpm K N h1 _ => ?_) ?_
  · unfold ptD dYes
    walk_at "dl"
    exact ⟨p.2, R, rfl, nd, hp p hpm, by omega, h1 rfl⟩
  rw [List.filter_eq_self.mpr fun _ _ => rfl]
  walk_at "dl"
  refine lcT R ptD (fun q => !decide (q.1 ∈ nmsIn g (P.map Prod.fst))) ptD (fun R h => by
    unfold diAny
    walk_at "dl"
    exact h (fun _ => True) trivial) (by omega) (fun p hpm K N h1 h2 => ?_) ?_
  · unfold ptD at h1 ⊢
    walk_at "dl"
    refine in_tx ?_
    walk_at "dl"
    cases e : decide (p.1 ∈ nmsIn g (P.map Prod.fst)) with
    | true =>
      rw [e] at h2
      walk_at "dl"
      exact h2 rfl
    | false =>
      rw [e] at h1
      walk_at "dl"
      exact ⟨by omega, h1 rfl⟩
  · show (_ ∧ _)
    have e1 : (P.map fun p => ptD (p.1, putIn R p.2)) ++ (R.filter fun q => !decide (q.1 ∈ nmsIn g (P.map Prod.fst))).map ptD = (behind g P R).map ptD := by
      unfold behind
      rw [List.map_append, List.map_map]
      rfl
    rw [e1]
    have := List.length_filter_le (fun q : Str × List Str => !decide (q.1 ∈ nmsIn g (P.map Prod.fst))) R
    refine ⟨by rw [List.length_map, List.length_map]; omega, M, Sub.refl, q⟩
end PR

namespace PR
open PySem PySem.Spec PyProof.Rows L2 DL
local macro_rules | `(tactic| walk_at "dl") => `(tactic| simp only [wSs, wS, DL.wE, DL.wT, DL.wL, wEs, wO, wC, wI, wG, wGs, dSeq, dAsg, dPar, dIf, dDrop, dSlot, dC, CD.d, dBin, boR, coR, dSub, dMod, dFdiv, dTest, dChain, bQ, dNext, dRet, dRetN, dgName, dgSub, dgTup, dgCons, dgNil, dLst, dTup, dTupX, dAug, dItX, dLz, dgTup2, dLenS, diZip, dCons, dNil, dIfE, dAndT, dOrT, dNotT, dAnd, dOr, dNot, dTruth, dTru_non, dTru_bl, dTru_int, dTru_str, dTru_tup, dTru_rl, dNeg, dSlice, dNoPart, dPart, dCall, dMt, dFnN, dMth, dFld, dSfl, dFz, dLcF, dNew, dNewD, dNewK, dLenK, dSliS, dSlS, dRevX, dgHead, dFrz, dForget, isTy, isIns, BF.rd, BT.rd, BM.rd, BM.ty, BF.rt, BT.rt, IEs.len, startD, getS, setS, wipeS, endB, tb, List.getD_cons_zero, List.getD_cons_succ, List.map_cons, List.map_nil, List.replicate, List.length_cons, List.length_nil, List.cons_append, List.nil_append, List.append_nil, dI_int, dAdd_int, dAdd_str, dAdd_tup, dIB_int, dLt_int, dLt_str, dEq_int, dEq_str, dNe_int, dNe_str, lenD_tup, lenD_rl, lenD_str, dMulA_int, dSl_str, ixN3_0, ixN3_1, ixN3_2, List.set_cons_zero, List.set_cons_succ, rAbs_int, rMin_int, rMax_int, rMin_str, rMax_str, dIx_wr, lenD_wr, atI_0, atI_1, atI_2, dIx_tup, dIx_rl, dIx_str, Option.some.injEq, exists_eq_left', decide_true, decide_false, eq_self, ite_true, ite_false, if_true, if_false, true_and, and_true, Bool.false_eq_true, Bool.not_true, Bool.not_false, Nat.reduceAdd, Nat.reduceSub, tTuple, tTupleX, dIs_non, dIs_bl, DL.isNon, dIn_str1, isi_str, isi_tup, isi_tx, isi_int, isi_rl, isi_bl, isi_non])
open PQ
/-! what is put in is led to by the puts -/
section
variable {g : Gr} {P : Sg}
theorem tree_kind {ws : List Str} {k : Str} (h : g.kindOf ws = some k) : ∃ t, g.T k t ∧ t.flat = ws := by
  have h0 := h
  unfold Gr.kindOf at h
  split at h
  · cases h
  · obtain ⟨Ts, rfl, m⟩ := go_trees ws [none] none (by rw [h]; simp)
    cases m with
    | @cons _ _ k2 t ts h1 h2 h3 =>
      cases h3
      have fe : flats [t] = t.flat := by rw [flats, flats, List.append_nil]
      rw [fe] at h0 ⊢
      rw [kind_T h1] at h0
      injection h0 with h0
      subst h0
      exact ⟨t, h1, rfl⟩
theorem put_tree (hp : g.Puts P) {k : Str} {T : Tr} (h : g.T k T) : ∃ U, g.T k U ∧ U.flat = putIn P T.flat := tree_kind (by rw [kind_put hp, kind_T h])
theorem put_trees (hp : g.Puts P) : ∀ (ts : List Tr) (ps : List Str), g.Ts ps ts → ∃ us, g.Ts ps us ∧ us.map Tr.flat = ts.map fun t => putIn P t.flat
  | [], [], _ => ⟨[], .nil, rfl⟩
  | [], _ :: _, h => by cases h
  | _ :: _, [], h => by cases h
  | t :: ts, p :: ps, h => by
    obtain ⟨h1, h2⟩ := Ts_inv h
    obtain ⟨U, u1, u2⟩ := put_tree hp h1
    obtain ⟨us, v1, v2⟩ := put_trees hp ts ps h2
    exact ⟨U :: us, .cons u1 v1, by rw [List.map_cons, List.map_cons, u2, v2]⟩
theorem putIn_app (a b : List Str) : putIn P (a ++ b) = putIn P a ++ putIn P b := by unfold putIn; rw [List.flatMap_append]
theorem putIn_flats : ∀ ts : List Tr, putIn P (flats ts) = (ts.map fun t => putIn P t.flat).flatten
  | [] => rfl
  | t :: ts => by rw [flats, putIn_app, putIn_flats ts, List.map_cons, List.flatten_cons]
/-- no shape's word has a put -/
theorem no_put (hp : g.Puts P) {w : Str} (h : g.names.lookup w = none) : P.lookup w = none := by
  cases e : P.lookup w with
  | none => rfl
  | some b =>
    obtain ⟨k, hk, _⟩ := hp.2 _ (lookup_in e)
    rw [h] at hk
    cases hk
theorem putIn_one (w : Str) : putIn P [w] = (P.lookup w).getD [w] := by unfold putIn; simp
theorem putIn_cons (w : Str) (r : List Str) : putIn P (w :: r) = putIn P [w] ++ putIn P r := putIn_app [w] r
/-- the parts of what is put in -/
theorem put_parts (hp : g.Puts P) {w k : Str} {ts : List Tr} {U : Tr} (hT : g.T k (.nd w ts)) (hU : g.T k U) (hn : g.names.lookup w = none) (e : U.flat = putIn P (Tr.nd w ts).flat) : U.w = w ∧ U.ts.map Tr.flat = (ts.map fun t => putIn P t.flat) ∧ ∃ ps, g.Ts ps ts ∧ g.Ts ps U.ts := by
  obtain ⟨ps, em, a⟩ := T_inv hT
  obtain ⟨us, u1, u2⟩ := put_trees hp ts ps a
  have h2 : g.T k (.nd w us) := .mk em u1
  have e2 : (Tr.nd w us).flat = U.flat := by
    rw [e, Tr.flat, Tr.flat, putIn_cons, putIn_one, no_put hp hn, putIn_flats, ← u2, ← flats_map]
    rfl
  have := flat_inj _ _ _ _ h2 hU e2
  subst this
  exact ⟨rfl, u2, ps, a, u1⟩
/-- the names of a row behind those that were told -/
def ext (g : Gr) (P : Sg) (σ : Sg) (ws : List Str) : Sg := ws.foldl (fun σ w => if isNm g w = true ∧ σ.lookup w = none then σ ++ [(w, putIn P [w])] else σ) σ
theorem ext_app (σ : Sg) (a b : List Str) : ext g P σ (a ++ b) = ext g P (ext g P σ a) b := by unfold ext; rw [List.foldl_append]
def Fits (P σ : Sg) : Prop := ∀ w b, σ.lookup w = some b → b = putIn P [w]
theorem lookup_snoc {σ : Sg} {w v : Str} {b : List Str} : (σ ++ [(w, b)]).lookup v = (σ.lookup v).or (if v = w then some b else none) := by
  induction σ with
  | nil =>
    rw [List.nil_append, List.lookup_cons]
    by_cases h : v = w
    · subst h; simp
    · have : (v == w) = false := beq_eq_false_iff_ne.mpr h
      rw [this, if_neg h]; rfl
  | cons p σ ih =>
    obtain ⟨a, c⟩ := p
    rw [List.cons_append, List.lookup_cons, List.lookup_cons, ih]
    cases v == a <;> rfl
theorem ext_fits : ∀ (ws : List Str) (σ : Sg), Fits P σ → Fits P (ext g P σ ws)
  | [], σ, h => h
  | w :: ws, σ, h => by
    show Fits P (ext g P (if isNm g w = true ∧ σ.lookup w = none then σ ++ [(w, putIn P [w])] else σ) ws)
    refine ext_fits ws _ ?_
    split
    · intro v b e
      rw [lookup_snoc] at e
      cases ev : σ.lookup v with
      | some c =>
        rw [ev] at e
        exact h v b (by rw [ev]; exact e)
      | none =>
        rw [ev] at e
        by_cases hv : v = w
        · subst hv
          simp at e
          exact e.symm
        · simp [hv] at e
    · exact h
mutual
theorem lead_put (hp : g.Puts P) : ∀ (T U : Tr) (k : Str) (σ : Sg), g.T k T → g.T k U → U.flat = putIn P T.flat → Fits P σ → lead g T U σ = (true, ext g P σ T.flat)
  | .nd w ts, U, k, σ, hT, hU, e, hf => by
    rw [lead]
    cases en : g.names.lookup w with
    | some kw =>
      obtain ⟨hk, rfl⟩ := name_T hT (by rw [en]; rfl)
      rw [en] at hk
      injection hk with hk
      subst hk
      have e1 : (Tr.nd w []).flat = [w] := by rw [Tr.flat, flats]
      rw [e1] at e ⊢
      have ku : (g.mak U.w).map Prod.fst = some kw := by
        cases U with
        | nd v us =>
          obtain ⟨qs, em2, _⟩ := T_inv hU
          show (g.mak v).map Prod.fst = _
          rw [em2]; rfl
      simp only [ku, if_true]
      have hn : isNm g w = true := by unfold isNm; rw [en]; rfl
      have ee : ext g P σ [w] = if σ.lookup w = none then σ ++ [(w, putIn P [w])] else σ := by
        unfold ext
        simp only [List.foldl_cons, List.foldl_nil, hn, true_and]
      rw [ee]
      cases es : σ.lookup w with
      | some b =>
        have hb := hf w b es
        simp only [reduceCtorEq, if_false]
        rw [hb, ← e, decide_eq_true rfl]
      | none =>
        simp only [if_true]
        rw [e]
    | none =>
      obtain ⟨e1, e2, ps, a1, a2⟩ := put_parts hp hT hU en e
      simp only [e1, if_true]
      have hn : isNm g w = false := by unfold isNm; rw [en]; rfl
      have ee : ext g P σ (Tr.nd w ts).flat = ext g P σ (flats ts) := by
        rw [Tr.flat]
        show ext g P (if isNm g w = true ∧ σ.lookup w = none then σ ++ [(w, putIn P [w])] else σ) (flats ts) = _
        rw [hn]
        simp
      rw [ee]
      exact leads_put hp ts U.ts ps σ a1 a2 e2 hf
theorem leads_put (hp : g.Puts P) : ∀ (ts us : List Tr) (ps : List Str) (σ : Sg), g.Ts ps ts → g.Ts ps us → us.map Tr.flat = (ts.map fun t => putIn P t.flat) → Fits P σ → leads g ts us σ = (true, ext g P σ (flats ts))
  | [], us, ps, σ, h1, h2, e, hf => by rw [leads, flats]; rfl
  | t :: ts, [], ps, σ, h1, h2, e, hf => by cases e
  | t :: ts, u :: us, [], σ, h1, h2, e, hf => by cases h1
  | t :: ts, u :: us, p :: ps, σ, h1, h2, e, hf => by
    obtain ⟨a1, a2⟩ := Ts_inv h1
    obtain ⟨b1, b2⟩ := Ts_inv h2
    rw [List.map_cons, List.map_cons] at e
    injection e with e1 e2
    rw [leads, lead_put hp t u p σ a1 b1 e1 hf, flats, ext_app]
    simp only [Bool.true_and]
    rw [leads_put hp ts us ps (ext g P σ t.flat) a2 b2 e2 (ext_fits _ _ hf)]
end
/-- rows of any kinds -/
theorem leads_rows (hp : g.Puts P) : ∀ (Ts Us : List Tr) (σ : Sg), (∀ T ∈ Ts, ∃ k, g.T k T) → (∀ U ∈ Us, ∃ k, g.T k U) → Us.map Tr.flat = (Ts.map fun t => putIn P t.flat) → Fits P σ → leads g Ts Us σ = (true, ext g P σ (flats Ts))
  | [], us, σ, _, _, e, hf => by rw [leads, flats]; rfl
  | t :: ts, [], σ, _, _, e, hf => by cases e
  | t :: ts, u :: us, σ, h1, h2, e, hf => by
    rw [List.map_cons, List.map_cons] at e
    injection e with e1 e2
    obtain ⟨k, a1⟩ := h1 t (by simp)
    obtain ⟨k2, b1⟩ := h2 u (by simp)
    have : k2 = k := by
      have q1 := kind_T b1
      rw [e1, kind_put hp, kind_T a1] at q1
      injection q1 with q1
      exact q1.symm
    subst this
    rw [leads, lead_put hp t u k2 σ a1 b1 e1 hf, flats, ext_app]
    simp only [Bool.true_and]
    rw [leads_rows hp ts us (ext g P σ t.flat) (fun T h => h1 T (by simp [h])) (fun U h => h2 U (by simp [h])) e2 (ext_fits _ _ hf)]
/-- what is told at last -/
def due (g : Gr) (P : Sg) (ws : List Str) : Sg := (nmsIn g ws).map fun w => (w, putIn P [w])
theorem ext_due : ∀ (ws : List Str) (l : List Str), ext g P (l.map fun w => (w, putIn P [w])) ws = ((ws.filter (isNm g)).foldl dstep l).map fun w => (w, putIn P [w])
  | [], l => rfl
  | w :: ws, l => by
    show ext g P (if isNm g w = true ∧ (l.map fun w => (w, putIn P [w])).lookup w = none then (l.map fun w => (w, putIn P [w])) ++ [(w, putIn P [w])] else (l.map fun w => (w, putIn P [w]))) ws = _
    have el : (l.map fun w => (w, putIn P [w])).lookup w = none ↔ w ∉ l := by
      rw [List.lookup_eq_none_iff]
      constructor
      · intro h hw
        have := h _ (List.mem_map_of_mem (f := fun w => (w, putIn P [w])) hw)
        simp at this
      · intro h p hp
        obtain ⟨x, hx, rfl⟩ := List.mem_map.mp hp
        simp only [bne_iff_ne, ne_eq]
        rintro rfl
        exact h hx
    cases hn : isNm g w with
    | false =>
      rw [List.filter_cons_of_neg (by rw [hn]; decide)]
      simp only [Bool.false_eq_true, false_and, if_false]
      exact ext_due ws l
    | true =>
      rw [List.filter_cons_of_pos hn, List.foldl_cons]
      simp only [true_and, el]
      unfold dstep
      by_cases hw : w ∈ l
      · rw [if_neg (fun h => h hw), if_pos hw]
        exact ext_due ws l
      · rw [if_pos hw, if_neg hw]
        have := ext_due ws (l ++ [w])
        rw [List.map_append] at this
        exact this
theorem ext_nil (ws : List Str) : ext g P [] ws = due g P ws := ext_due ws []
theorem led_put (hp : g.Puts P) {Ts Us : List Tr} (h1 : ∀ T ∈ Ts, ∃ k, g.T k T) (h2 : ∀ U ∈ Us, ∃ k, g.T k U) (e : Us.map Tr.flat = (Ts.map fun t => putIn P t.flat)) : ledTo g Ts Us = some (due g P (flats Ts)) := by
  have hl : Ts.length = Us.length := by
    have := congrArg List.length e
    rw [List.length_map, List.length_map] at this
    exact this.symm
  have := leads_rows hp Ts Us [] h1 h2 e (fun w b z => by cases z)
  unfold ledTo
  rw [if_pos hl, this, if_pos rfl, ext_nil]
/-- put in again, they make the same -/
theorem put_due (hp : g.Puts P) {all ws : List Str} (hs : ∀ w ∈ ws, w ∈ all) : putIn (due g P all) ws = putIn P ws := by
  unfold putIn
  have fc : ∀ (l : List Str) (f h : Str → List Str), (∀ w ∈ l, f w = h w) → l.flatMap f = l.flatMap h := fun l f h z => by
    rw [List.flatMap_def, List.flatMap_def, List.map_congr_left z]
  refine fc _ _ _ fun w hw => ?_
  cases hn : isNm g w with
  | false =>
    have hn' : g.names.lookup w = none := by unfold isNm at hn; cases e : g.names.lookup w with | none => rfl | some => rw [e] at hn; cases hn
    rw [no_put hp hn']
    have : (due g P all).lookup w = none := by
      rw [List.lookup_eq_none_iff]
      intro p hp2
      obtain ⟨x, hx, rfl⟩ := List.mem_map.mp hp2
      simp only [bne_iff_ne, ne_eq]
      rintro rfl
      unfold nmsIn at hx
      rw [mem_ddup, List.mem_filter, hn] at hx
      cases hx.2
    rw [this]
  | true =>
    have hm : w ∈ nmsIn g all := by
      unfold nmsIn
      rw [mem_ddup, List.mem_filter]
      exact ⟨hs w hw, hn⟩
    have hnd : ((due g P all).map Prod.fst).Nodup := by
      unfold due
      rw [List.map_map]
      have : (Prod.fst ∘ fun w => (w, putIn P [w])) = (id : Str → Str) := rfl
      rw [this, List.map_id]
      exact nodup_ddup _
    have : (due g P all).lookup w = some (putIn P [w]) := (lookup_of hnd).mpr (List.mem_map.mpr ⟨w, hm, rfl⟩)
    rw [this, putIn_one]
    rfl
theorem due_none (ws : List Str) : due g [] ws = (nmsIn g ws).map fun w => (w, [w]) := by
  unfold due
  refine List.map_congr_left fun w _ => ?_
  rw [putIn_one]
  rfl
end
end PR

/-! the small syntax of some defs (printed by gen2.py) -/
namespace K10
open PySem PySem.Spec PyProof.Rows L2 DL
/-! _law_hand -/
def ir__law_hand : ISs :=
  (.cons (.asg (.nm 2) (.ife (.cmp .Lt (.sl 1) (.cb .len (.sl 0) .nil)) (.ix (.sl 0) (.sl 1)) (.lit (.int 0))))
  (.cons (.asg (.nm 3) (.bin .Mod (.bin .Add (.bin .Add (.bin .Mod (.sl 2) (.lit (.int 2305843009213693951))) (.bin .Mult (.lit (.int 104729)) (.sl 1))) (.lit (.int 61))) (.lit (.int 2305843009213693951))))
  (.cons (.ret (.lst (.cons (.bin .Mult (.cb .abs (.sl 2) .nil) (.ct .int (.cmp .GtE (.cb .abs (.sl 2) .nil) (.bin .Pow (.lit (.int 10)) (.lit (.int 18)))) .nil)) (.cons (.sl 3) (.cons (.lit (.int 0)) .nil)))))
  .nil)))
-- slots: 0 _law_script 1 _law_k 2 _law_cell 3 _law_mixed
-- calls: [] ; methods: [] ; fields: [] ; constants: []
/-! _law_take -/
def ir__law_take : ISs :=
  (.cons (.iff (.cmp .Gt (.ix (.sl 0) (.lit (.int 0))) (.lit (.int 0))) (.cons (.asg (.nm 4) (.bin .Mod (.ix (.sl 0) (.lit (.int 0))) (.sl 1)))
  (.cons (.sto (.sl 0) (.lit (.int 0)) (.bin .FloorDiv (.ix (.sl 0) (.lit (.int 0))) (.sl 1)))
  (.cons (.ret (.sl 4))
  .nil))) .nil)
  (.cons (.sto (.sl 0) (.lit (.int 2)) (.bin .Add (.ix (.sl 0) (.lit (.int 2))) (.lit (.int 1))))
  (.cons (.asg (.nm 2) (.ix (.fz (.lst (.cons (.lit (.int 2305843009213693951)) (.cons (.lit (.int 2305843009213693921)) (.cons (.lit (.int 2305843009213693907)) .nil))))) (.bin .Mod (.ix (.sl 0) (.lit (.int 2))) (.lit (.int 3)))))
  (.cons (.asg (.nm 3) (.bin .Mod (.bin .Pow (.bin .Add (.ix (.sl 0) (.lit (.int 1))) (.bin .Mult (.lit (.int 7919)) (.ix (.sl 0) (.lit (.int 2))))) (.lit (.int 5))) (.sl 2)))
  (.cons (.ret (.bin .Mod (.bin .Add (.bin .FloorDiv (.sl 3) (.lit (.int 4099))) (.bin .Mult (.bin .FloorDiv (.sl 3) (.lit (.int 1000003))) (.lit (.int 7)))) (.sl 1)))
  .nil)))))
-- slots: 0 _law_hand_here 1 _law_many 2 _law_prime 3 _law_drawn 4 _law_digit
-- calls: [] ; methods: [] ; fields: [] ; constants: []
/-! _law_of -/
def ir__law_of : ISs :=
  (.cons (.ret (.ix (.sl 1) (.cal 0 (.cons (.sl 0) (.cons (.cb .len (.sl 1) .nil) .nil)) .nil)))
  .nil)
-- slots: 0 _law_hand_here 1 _law_some
-- calls: [('_law_take', 2, ())] ; methods: [] ; fields: [] ; constants: []
/-! _law_words -/
def lp__law_words_0 : IS :=
  .fo (.nm 4) (.rg1 (.sl 1)) (.cons (.asg (.nm 7) (.mt .pop (.sl 2) (.cal 0 (.cons (.sl 0) (.cons (.cb .len (.sl 2) .nil) .nil)) .nil) .nil))
  (.cons (.ex (.mt .append (.sl 6) (.bin .Add (.bin .Add (.sli (.sl 3) .no (.yes (.sl 5))) (.sl 7)) (.sli (.sl 3) (.yes (.sl 5)) .no)) .nil))
  .nil))
def ir__law_words : ISs :=
  (.cons (.asg (.nm 2) (.ct .list (.lit (.str "abcdefghijklmnopqrstuvwxyzABCDEFGHIJKLMNOPQRSTUVWXYZ+-*=<>&|~^")) .nil))
  (.cons (.asg (.nm 3) (.mt .join (.lit (.str "")) (.lcF (.lc [("_law_j", 8)] (.nm 8) (.rg1 (.cal 1 (.cons (.sl 0) (.cons (.fz (.lst (.cons (.lit (.int 0)) (.cons (.lit (.int 0)) (.cons (.lit (.int 1)) (.cons (.lit (.int 2)) (.cons (.lit (.int 5)) .nil))))))) .nil)) .nil)) .no (.cal 1 (.cons (.sl 0) (.cons (.lit (.str "a0+Z~9")) .nil)) .nil))) .nil))
  (.cons (.par 5 6 (.cal 0 (.cons (.sl 0) (.cons (.bin .Add (.cb .len (.sl 3) .nil) (.lit (.int 1))) .nil)) .nil) (.lst .nil))
  (.cons lp__law_words_0
  (.frz 6 (.cons (.ret (.sl 6))
  .nil))))))
-- slots: 0 _law_hand_here 1 _law_many 2 _law_signs 3 _law_stem 4 _law_k 5 _law_at 6 _law_words_here 7 _law_sign 8 _law_j
-- calls: [('_law_take', 2, ()), ('_law_of', 2, ())] ; methods: [] ; fields: [] ; constants: []
/-! _law_ground -/
def ct__law_ground_7 : ISs :=
  (.cons (.asg (.nm 6) (.cal 0 (.cons (.sl 0) (.cons (.lit (.int 2)) .nil)) .nil))
  (.cons (.ret (.tup (.cons (.ct .tuple (.sl 9) .nil) (.cons (.ct .tuple (.fz (.slst (.sl 10) .no .no (.yes (.ix (.fz (.lst (.cons (.lit (.int 1)) (.cons (.neg (.lit (.int 1))) .nil)))) (.sl 6))))) .nil) (.cons (.ctX (.fz (.slst (.sl 5) .no .no (.yes (.ix (.fz (.lst (.cons (.neg (.lit (.int 1))) (.cons (.lit (.int 1)) .nil)))) (.sl 6)))))) .nil)))))
  .nil))
def ct__law_ground_6 : ISs :=
  (.cons (.asg (.nm 5) (.lcF (.lc [("_law_k", 3)] (.nm 3) (.rg1 (.bin .Add (.sl 7) (.sl 4))) .no (.tup (.cons (.ix (.sl 2) (.bin .Add (.lit (.int 13)) (.sl 3))) (.cons (.ife (.cmp .Lt (.sl 3) (.sl 7)) (.ix (.sl 9) (.sl 3)) (.cal 1 (.cons (.sl 0) (.cons (.sl 9) .nil)) .nil)) .nil))))))
  ct__law_ground_7)
def ct__law_ground_5 : ISs :=
  (.cons (.asg (.nm 4) (.ife (.sl 1) (.bin .Sub (.lit (.int 12)) (.sl 7)) (.cal 0 (.cons (.sl 0) (.cons (.lit (.int 5)) .nil)) .nil)))
  ct__law_ground_6)
def lp__law_ground_3 : IS :=
  .fo (.nm 3) (.rg1 (.sl 8)) (.cons (.asg (.nm 11) (.tt .tuple (.lc [("_law_j", 12)] (.nm 12) (.rg1 (.cal 1 (.cons (.sl 0) (.cons (.fz (.lst (.cons (.lit (.int 0)) (.cons (.lit (.int 1)) (.cons (.lit (.int 1)) (.cons (.lit (.int 2)) (.cons (.lit (.int 2)) (.cons (.lit (.int 3)) .nil)))))))) .nil)) .nil)) .no (.cal 1 (.cons (.sl 0) (.cons (.sl 9) .nil)) .nil))))
  (.cons (.ex (.mt .append (.sl 10) (.tup (.cons (.ix (.sl 2) (.bin .Add (.lit (.int 5)) (.sl 3))) (.cons (.cal 1 (.cons (.sl 0) (.cons (.sl 9) .nil)) .nil) (.cons (.sl 11) .nil)))) .nil))
  .nil))
def ct__law_ground_2 : ISs :=
  (.cons (.asg (.nm 2) (.cal 2 (.cons (.sl 0) (.cons (.lit (.int 25)) .nil)) .nil))
  (.cons (.asg (.tp (.cons (.nm 9) (.cons (.nm 10) .nil))) (.tup (.cons (.fz (.sli (.sl 2) .no (.yes (.sl 7)))) (.cons (.lst (.cons (.tup (.cons (.ix (.sl 2) (.lit (.int 3))) (.cons (.ix (.sl 2) (.lit (.int 0))) (.cons (.tup .nil) .nil)))) (.cons (.tup (.cons (.ix (.sl 2) (.lit (.int 4))) (.cons (.ix (.sl 2) (.lit (.int 0))) (.cons (.tup (.cons (.ix (.sl 2) (.lit (.int 0))) (.cons (.ix (.sl 2) (.lit (.int 0))) .nil))) .nil)))) .nil))) .nil))))
  (.cons lp__law_ground_3
  ct__law_ground_5)))
def ir__law_ground : ISs :=
  (.cons (.asg (.nm 1) (.cmp .Eq (.cal 0 (.cons (.sl 0) (.cons (.lit (.int 8)) .nil)) .nil) (.lit (.int 0))))
  (.cons (.asg (.tp (.cons (.nm 7) (.cons (.nm 8) .nil))) (.tup (.cons (.bin .Add (.lit (.int 1)) (.cal 0 (.cons (.sl 0) (.cons (.lit (.int 3)) .nil)) .nil)) (.cons (.ife (.sl 1) (.lit (.int 8)) (.cal 0 (.cons (.sl 0) (.cons (.lit (.int 6)) .nil)) .nil)) .nil))))
  ct__law_ground_2))
-- slots: 0 _law_hand_here 1 _law_great 2 _law_words_here 3 _law_k 4 _law_extra 5 _law_names 6 _law_turned 7 _law_many 8 _law_more 9 _law_kinds 10 _law_shapes 11 _law_parts 12 _law_j
-- calls: [('_law_take', 2, ()), ('_law_of', 2, ()), ('_law_words', 2, ())] ; methods: [] ; fields: [] ; constants: []
/-! _law_body -/
def lp__law_body_0 : IS :=
  .fo (.nm 7) (.any (.sl 10)) (.cons (.asg (.nm 6) (.bin .Add (.sl 6) (.cal 0 (.cons (.sl 0) (.cons (.sl 1) (.cons (.sl 7) (.cons (.bin .FloorDiv (.bin .Sub (.sl 3) (.lit (.int 1))) (.cb .len (.sl 10) .nil)) .nil)))) .nil)))
  .nil)
def ir__law_body : ISs :=
  (.cons (.asg (.nm 4) (.lcF (.lc [("_law_row", 11)] (.nm 11) (.any (.ix (.sl 1) (.lit (.int 1)))) (.yes (.andE (.cmp .Eq (.ix (.sl 11) (.lit (.int 1))) (.sl 2)) (.one (.cmp .Lt (.cb .len (.ix (.sl 11) (.lit (.int 2))) .nil) (.sl 3))))) (.sl 11))))
  (.cons (.asg (.nm 5) (.lcF (.lc [("_law_name", 12), ("_law_own", 9)] (.tp (.cons (.nm 12) (.cons (.nm 9) .nil))) (.any (.ix (.sl 1) (.lit (.int 2)))) (.yes (.cmp .Eq (.sl 9) (.sl 2))) (.sl 12))))
  (.cons (.iff (.orE (.cmp .Eq (.sl 4) (.fz (.lst .nil))) (.one (.cmp .Eq (.cal 2 (.cons (.sl 0) (.cons (.lit (.int 3)) .nil)) .nil) (.lit (.int 0))))) (.cons (.ret (.tup (.cons (.cal 1 (.cons (.sl 0) (.cons (.sl 5) .nil)) .nil) .nil)))
  .nil) .nil)
  (.cons (.asg (.tp (.cons (.nm 8) (.cons (.nm 9) (.cons (.nm 10) .nil)))) (.cal 1 (.cons (.sl 0) (.cons (.sl 4) .nil)) .nil))
  (.cons (.asg (.nm 6) (.tup (.cons (.sl 8) .nil)))
  (.cons lp__law_body_0
  (.cons (.ret (.sl 6))
  .nil)))))))
-- slots: 0 _law_hand_here 1 _law_ground_here 2 _law_kind 3 _law_room 4 _law_shapes 5 _law_names 6 _law_got 7 _law_part 8 _law_word 9 _law_own 10 _law_parts 11 _law_row 12 _law_name
-- calls: [('_law_body', 4, ()), ('_law_of', 2, ()), ('_law_take', 2, ())] ; methods: [] ; fields: [] ; constants: []
/-! _law_theory -/
def ir__law_theory : ISs :=
  (.cons (.ret (.cal 0 (.cons (.ix (.sl 0) (.lit (.int 0))) (.cons (.ix (.sl 0) (.lit (.int 1))) (.cons (.ix (.sl 0) (.lit (.int 2))) .nil))) .nil))
  .nil)
-- slots: 0 _law_ground_here
-- calls: [('Theory', 3, ())] ; methods: [] ; fields: [] ; constants: []
/-! _law_puts -/
def ct__law_puts_2 : ISs :=
  (.cons (.iff (.andE (.cmp .Gt (.cb .len (.sl 5) .nil) (.lit (.int 1))) (.one (.cmp .Eq (.cal 0 (.cons (.sl 0) (.cons (.lit (.int 3)) .nil)) .nil) (.lit (.int 0))))) (.cons (.asg (.nm 6) (.ct .dict (.ix (.sl 1) (.lit (.int 2))) .nil))
  (.cons (.asg (.tp (.cons (.tp (.cons (.nm 9) (.cons (.nm 10) .nil))) (.cons (.tp (.cons (.nm 11) (.cons (.nm 12) .nil))) .nil))) (.fz (.sli (.sl 5) .no (.yes (.lit (.int 2))))))
  (.cons (.iff (.cmp .Eq (.ix (.sl 6) (.sl 9)) (.ix (.sl 6) (.sl 11))) (.cons (.hed (.sl 5) (.lit (.int 2)) (.fz (.lst (.cons (.tup (.cons (.sl 9) (.cons (.tup (.cons (.sl 11) .nil)) .nil))) (.cons (.tup (.cons (.sl 11) (.cons (.tup (.cons (.sl 9) .nil)) .nil))) .nil)))))
  .nil) .nil)
  .nil))) .nil)
  (.cons (.ret (.ctX (.sl 5)))
  .nil))
def lp__law_puts_1 : IS :=
  .fo (.nm 3) (.rg1 (.cal 0 (.cons (.sl 0) (.cons (.bin .Add (.cb .len (.sl 4) .nil) (.lit (.int 1))) .nil)) .nil)) (.cons (.asg (.tp (.cons (.nm 7) (.cons (.nm 8) .nil))) (.mt .pop (.sl 4) (.cal 0 (.cons (.sl 0) (.cons (.cb .len (.sl 4) .nil) .nil)) .nil) .nil))
  (.cons (.ex (.mt .append (.sl 5) (.tup (.cons (.sl 7) (.cons (.cal 1 (.cons (.sl 0) (.cons (.sl 1) (.cons (.sl 8) (.cons (.sl 2) .nil)))) .nil) .nil))) .nil))
  .nil))
def ir__law_puts : ISs :=
  (.cons (.par 4 5 (.ct .list (.ix (.sl 1) (.lit (.int 2))) .nil) (.lst .nil))
  (.cons lp__law_puts_1
  ct__law_puts_2))
-- slots: 0 _law_hand_here 1 _law_ground_here 2 _law_room 3 _law_k 4 _law_left 5 _law_got 6 _law_kinds 7 _law_name 8 _law_kind 9 _law_early 10 _law_told 11 _law_late 12 _law_more
-- calls: [('_law_take', 2, ()), ('_law_body', 4, ())] ; methods: [] ; fields: [] ; constants: []
/-! _law_put -/
def lp__law_put_0 : IS :=
  .fo (.nm 3) (.any (.sl 0)) (.cons (.asg (.nm 4) (.lcF (.lc [("_law_name", 5), ("_law_told", 6)] (.tp (.cons (.nm 5) (.cons (.nm 6) .nil))) (.any (.sl 1)) (.yes (.cmp .Eq (.sl 5) (.sl 3))) (.sl 6))))
  (.cons (.asg (.nm 2) (.fz (.bin .Add (.sl 2) (.ife (.cmp .NotEq (.sl 4) (.fz (.lst .nil))) (.fz (.ct .list (.ix (.sl 4) (.lit (.int 0))) .nil)) (.fz (.lst (.cons (.sl 3) .nil)))))))
  .nil))
def ir__law_put : ISs :=
  (.cons (.asg (.nm 2) (.fz (.lst .nil)))
  (.cons lp__law_put_0
  (.cons (.ret (.ct .tuple (.sl 2) .nil))
  .nil)))
-- slots: 0 _law_row 1 _law_pairs 2 _law_got 3 _law_word 4 _law_some 5 _law_name 6 _law_told
-- calls: [] ; methods: [] ; fields: [] ; constants: []
/-! law -/
def lp_law_0 : IS :=
  .fo (.nm 7) (.any (.sl 4)) (.cons (.par 10 11 (.cal 3 (.cons (.sl 7) (.cons (.sl 9) .nil)) .nil) (.cal 2 (.cons (.sl 7) (.cons (.sl 9) .nil)) .nil))
  (.cons (.iff (.orE (.cmp .NotEq (.cb .repr (.sl 11) .nil) (.cb .repr (.sl 10) .nil)) (.one (.cmp .NotEq (.cb .repr (.cal 2 (.cons (.sl 7) (.cons (.revX (.sl 9) .no .no (.yes (.neg (.lit (.int 1))))) .nil)) .nil) .nil) (.cb .repr (.sl 10) .nil)))) (.cons (.ret (.lit (.bl false)))
  .nil) .nil)
  (.cons (.iff (.orE (.cmp .NotEq (.cb .repr (.cal 2 (.cons (.sl 7) (.cons (.tupX .nil) .nil)) .nil) .nil) (.cb .repr (.sl 7) .nil)) (.one (.cmp .NotEq (.cal 1 (.cons (.sl 8) (.cons (.sl 11) .nil)) .nil) (.cal 1 (.cons (.sl 8) (.cons (.sl 7) .nil)) .nil)))) (.cons (.ret (.lit (.bl false)))
  .nil) .nil)
  (.cons (.iff (.cmp .NotEq (.cb .repr (.cal 0 .nil (.cons (.sl 9) (.cons (.sl 7) .nil))) .nil) (.cb .repr (.sl 10) .nil)) (.cons (.ret (.lit (.bl false)))
  .nil) .nil)
  .nil))))
def lp_law_1 : IS :=
  .fo (.nm 5) (.any (.ix (.sl 3) (.lit (.int 0)))) (.cons (.asg (.nm 4) (.fz (.bin .Add (.sl 4) (.lcF (.lc [("_law_turn", 13)] (.nm 13) (.rg1 (.lit (.int 3))) .no (.cal 4 (.cons (.sl 2) (.cons (.sl 3) (.cons (.sl 5) (.cons (.lit (.int 20)) .nil)))) .nil))))))
  .nil)
def lp_law_2 : IS :=
  .fo (.nm 1) (.rg1 (.cb .max (.lit (.int 1)) (.cons (.cb .min (.lit (.int 3)) (.cons (.cb .len (.sl 0) .nil) .nil)) .nil))) (.cons (.asg (.nm 2) (.cal 8 (.cons (.sl 0) (.cons (.sl 1) .nil)) .nil))
  (.cons (.asg (.nm 3) (.cal 7 (.cons (.sl 2) .nil) .nil))
  (.cons (.par 8 9 (.cal 5 (.cons (.sl 3) .nil) .nil) (.cal 6 (.cons (.sl 2) (.cons (.sl 3) (.cons (.lit (.int 9)) .nil))) .nil))
  (.cons (.asg (.nm 4) (.lcF (.lc [("_law_name", 12), ("_law_kind", 5)] (.tp (.cons (.nm 12) (.cons (.nm 5) .nil))) (.any (.ix (.sl 3) (.lit (.int 2)))) .no (.tup (.cons (.sl 12) .nil)))))
  (.cons lp_law_1
  (.cons (.asg (.nm 6) (.cb .repr (.tup (.cons (.sl 4) (.cons (.sl 9) .nil))) .nil))
  (.cons lp_law_0
  (.cons (.iff (.cmp .NotEq (.cb .repr (.tup (.cons (.sl 4) (.cons (.sl 9) .nil))) .nil) (.sl 6)) (.cons (.ret (.lit (.bl false)))
  .nil) .nil)
  .nil))))))))
def ir_law : ISs :=
  (.cons lp_law_2
  (.cons (.ret (.lit (.bl true)))
  .nil))
-- slots: 0 _law_script 1 _law_k 2 _law_hand_here 3 _law_ground_here 4 _law_rows 5 _law_kind 6 _law_kept 7 _law_row 8 _law_base 9 _law_pairs 10 _law_due 11 _law_told 12 _law_name 13 _law_turn
-- calls: [('put_in', 0, ('puts', 'body')), ('kind_of', 2, ()), ('put_in', 2, ()), ('_law_put', 2, ()), ('_law_body', 4, ()), ('_law_theory', 1, ()), ('_law_puts', 3, ()), ('_law_ground', 1, ()), ('_law_hand', 2, ())] ; methods: [] ; fields: [] ; constants: []
end K10

namespace K10
open PySem PySem.Spec PyProof.Rows L2 DL
local macro_rules | `(tactic| walk_at "dl") => `(tactic| simp only [wSs, wS, DL.wE, DL.wT, DL.wL, wEs, wO, wC, wI, wG, wGs, dSeq, dAsg, dPar, dIf, dDrop, dSlot, dC, CD.d, dBin, boR, coR, dSub, dMod, dFdiv, dTest, dChain, bQ, dNext, dRet, dRetN, dgName, dgSub, dgTup, dgCons, dgNil, dLst, dTup, dTupX, dCons, dNil, dIfE, dAndT, dOrT, dNotT, dAnd, dOr, dNot, dTruth, dTru_non, dTru_bl, dTru_int, dTru_str, dTru_tup, dTru_rl, dNeg, dSlice, dNoPart, dPart, dCall, dMt, dFnN, dMth, dFld, dSfl, dFz, dLcF, dNew, dNewD, dNewK, dLenK, dSliS, dSlS, dRevX, dgHead, dFrz, dForget, isTy, isIns, BF.rd, BT.rd, BM.rd, BM.ty, BF.rt, BT.rt, IEs.len, startD, getS, setS, wipeS, endB, tb, List.getD_cons_zero, List.getD_cons_succ, List.map_cons, List.map_nil, List.replicate, List.length_cons, List.length_nil, List.cons_append, List.nil_append, List.append_nil, dI_int, dAdd_int, dAdd_str, dAdd_tup, dIB_int, dLt_int, dLt_str, dEq_int, dEq_str, dNe_int, dNe_str, lenD_tup, lenD_rl, lenD_str, dMulA_int, dSl_str, ixN3_0, ixN3_1, ixN3_2, List.set_cons_zero, List.set_cons_succ, rAbs_int, rMin_int, rMax_int, rMin_str, rMax_str, dIx_wr, lenD_wr, atI_0, atI_1, atI_2, dIx_tup, dIx_rl, dIx_str, Option.some.injEq, exists_eq_left', decide_true, decide_false, eq_self, ite_true, ite_false, if_true, if_false, true_and, and_true, Bool.false_eq_true, Bool.not_true, Bool.not_false, Nat.reduceAdd, Nat.reduceSub, tTuple, tTupleX, dIs_non, dIs_bl, DL.isNon, dIn_str1, isi_str, isi_tup, isi_tx, isi_int, isi_rl, isi_bl, isi_non])
/-! the hand: what is drawn from the script -/
def Hob (o : MO) (n : Int) : Prop := ∃ a b c : Int, o = .lst [.int a, .int b, .int c] ∧ 0 ≤ a ∧ 0 ≤ b ∧ b < 2305843009213693951 ∧ 0 ≤ c ∧ c ≤ n
theorem Hob.le {o : MO} {n m : Int} (h : Hob o n) (l : n ≤ m) : Hob o m := by
  obtain ⟨a, b, c, e, h1, h2, h3, h4, h5⟩ := h
  exact ⟨a, b, c, e, h1, h2, h3, h4, by omega⟩
theorem pow5 {i : Int} (h0 : 0 ≤ i) (h1 : i < 2 ^ 63) : CPowG i 5 := by
  refine ⟨by decide, ?_⟩
  have : i.natAbs < 2 ^ 63 := by omega
  have l : i.natAbs.log2 < 63 ∨ i.natAbs = 0 := by
    by_cases z : i.natAbs = 0
    · exact .inr z
    · exact .inl ((Nat.log2_lt z).mpr this)
  rcases l with l | l
  · have : ((i.natAbs.log2 + 1 : Nat) : Int) ≤ 63 := by omega
    omega
  · rw [l]; decide
def spTake : DSp := fun ds M Q E => ∃ (h : Addr) (o : MO) (n m : Int), ds = [.ref h, .int m] ∧ 0 < m ∧ m < 2 ^ 40 ∧ M h = some o ∧ Hob o n ∧ n < 2 ^ 40 ∧ ∀ (r : Int) o', 0 ≤ r → r < m → Hob o' (n + 1) → Q (.int r) (wr M h o')
theorem law_take (S : Tb) (ds : List D) (M : Mem) (Q : QE) (E : EX) (H : spTake ds M Q E) : wSs S ir__law_take (endB Q) E (startD 5 ds) M := by
  obtain ⟨h, o, n, m, rfl, hm, hm2, hM, ⟨a, b, c, rfl, ha, hb, hb2, hc, hc2⟩, hn, q⟩ := H
  unfold ir__law_take
  walk_at "dl"
  simp only [dIx_ref hM, atI_0, Option.some.injEq, exists_eq_left', dI_int]
  by_cases h0 : 0 < a
  · repeat first | walk_at "dl" | simp only [dIx_ref hM, dSet_ref hM, h0]
    refine ⟨hm, ⟨hm, by omega⟩, _, Sub.refl, q _ _ (Int.emod_nonneg _ (by omega)) (Int.emod_lt_of_pos _ hm) ⟨_, b, c, rfl, Int.ediv_nonneg ha (by omega), hb, hb2, hc, by omega⟩⟩
  · repeat first | walk_at "dl" | simp only [dIx_ref hM, dSet_ref hM, h0]
    refine ⟨by decide, fun p hp => ⟨_, wr_same, ?_⟩⟩
    rw [mdel_wr hp]
    repeat first | walk_at "dl" | simp only [dIx_wr, atI_0, atI_1, atI_2, dI_int]
    have c3 : (c + 1) % 3 = 0 ∨ (c + 1) % 3 = 1 ∨ (c + 1) % 3 = 2 := by omega
    obtain ⟨P, hP, p0, p1⟩ : ∃ P : Int, L2.atI [D.int 2305843009213693951, D.int 2305843009213693921, D.int 2305843009213693907] ((c + 1) % 3) = some (.int P) ∧ 2305843009213693907 ≤ P ∧ P ≤ 2305843009213693951 := by
      rcases c3 with e | e | e <;> rw [e]
      · exact ⟨_, rfl, by omega, by omega⟩
      · exact ⟨_, rfl, by omega, by omega⟩
      · exact ⟨_, rfl, by omega, by omega⟩
    refine ⟨by omega, _, hP, ?_⟩
    repeat first | walk_at "dl" | simp only [dIx_wr, atI_0, atI_1, atI_2, dI_int]
    have d0 : 0 ≤ (b + 7919 * (c + 1)) ^ Int.toNat 5 % P := Int.emod_nonneg _ (by omega)
    have d1 : (b + 7919 * (c + 1)) ^ Int.toNat 5 % P < P := Int.emod_lt_of_pos _ (by omega)
    have pw : CPowG (b + 7919 * (c + 1)) 5 := pow5 (by omega) (by omega)
    generalize (b + 7919 * (c + 1)) ^ Int.toNat 5 % P = d at d0 d1 ⊢
    refine ⟨cm_left (by omega), pw, by omega, ⟨by omega, by omega⟩, ⟨by omega, by omega⟩, cm_right (by omega), hm, _, Sub.refl, ?_⟩
    exact q _ _ (Int.emod_nonneg _ (by omega)) (Int.emod_lt_of_pos _ hm) ⟨a, b, c + 1, rfl, ha, hb, hb2, by omega, by omega⟩
/-- what can be drawn from -/
def seqIn (d : D) (xs : List D) : Prop := d = .rl xs ∨ ∃ z : Str, d = .str z ∧ xs = DL.signs z
def spOf : DSp := fun ds M Q E => ∃ (h : Addr) (o : MO) (n : Int) (s : D) (xs : List D), ds = [.ref h, s] ∧ seqIn s xs ∧ xs ≠ [] ∧ xs.length ≤ 100000 ∧ M h = some o ∧ Hob o n ∧ n < 2 ^ 40 ∧ ∀ d ∈ xs, ∀ o', Hob o' (n + 1) → Q d (wr M h o')
theorem law_of (ds : List D) (M : Mem) (Q : QE) (E : EX) (H : spOf ds M Q E) : wSs (tb [spTake] [] []) ir__law_of (endB Q) E (startD 2 ds) M := by
  obtain ⟨h, o, n, s, xs, rfl, hs, hne, hl, hM, ho, hn, q⟩ := H
  have s24 : sizeLine = 2 ^ 24 := rfl
  have hp : 0 < xs.length := List.length_pos_iff.mpr hne
  unfold ir__law_of
  rcases hs with rfl | ⟨z, rfl, rfl⟩
  · walk_at "dl"
    refine ⟨h, o, n, _, rfl, by omega, by omega, hM, ho, hn, fun r o' h0 h1 ho' => ?_⟩
    obtain ⟨j, rfl⟩ : ∃ j : Nat, r = (j : Int) := ⟨r.toNat, by omega⟩
    have hj : j < xs.length := by omega
    walk_at "dl"
    exact ⟨_, atI_nat hj, _, Sub.refl, q _ (List.getElem_mem hj) _ ho'⟩
  · rw [signs_len] at hp hl
    walk_at "dl"
    refine ⟨by omega, h, o, n, _, rfl, by omega, by omega, hM, ho, hn, fun r o' h0 h1 ho' => ?_⟩
    obtain ⟨j, rfl⟩ : ∃ j : Nat, r = (j : Int) := ⟨r.toNat, by omega⟩
    have hj : j < z.cps.toList.length := by
      have : z.length = z.cps.toList.length := rfl
      omega
    walk_at "dl"
    refine ⟨by omega, _, atI_nat hj, _, Sub.refl, q _ ?_ _ ho'⟩
    unfold DL.signs
    exact List.mem_map_of_mem (List.getElem_mem hj)
def spHand : DSp := fun ds M Q E => ∃ (ns : List Int) (k : Int), ds = [.rl (ns.map D.int), .int k] ∧ 0 ≤ k ∧ k < 1000 ∧ ∀ h, M h = none → ∀ o, Hob o 0 → Q (.ref h) (wr M h o)
theorem law_hand (S : Tb) (ds : List D) (M : Mem) (Q : QE) (E : EX) (H : spHand ds M Q E) : wSs S ir__law_hand (endB Q) E (startD 4 ds) M := by
  obtain ⟨ns, k, rfl, hk, hk2, q⟩ := H
  unfold ir__law_hand
  walk_at "dl"
  have p18 : CPowG 10 18 := ⟨by decide, by decide +kernel⟩
  have fin : ∀ c g : Int, 0 ≤ g → ∀ p, M p = none → ∃ M2, DL.Sub M2 (wr M p (.lst [.int g, .int ((c % 2305843009213693951 + 104729 * k + 61) % 2305843009213693951), .int 0])) ∧ Q (.ref p) M2 := fun c g hg p hp =>
    ⟨_, Sub.refl, q p hp _ ⟨g, _, 0, rfl, hg, Int.emod_nonneg _ (by omega), Int.emod_lt_of_pos _ (by omega), by omega, by omega⟩⟩
  by_cases hl : k < ((ns.map D.int).length : Int)
  · repeat first | walk_at "dl" | simp only [hl]
    obtain ⟨j, rfl⟩ : ∃ j : Nat, k = (j : Int) := ⟨k.toNat, by omega⟩
    have hj : j < (ns.map D.int).length := by omega
    refine ⟨_, atI_nat hj, ?_⟩
    rw [List.getElem_map]
    generalize ns[j]'(by simpa using hj) = c
    walk_at "dl"
    refine ⟨by omega, cm_left (by omega), by omega, p18, cm_right ?_, by decide, fin c _ (Int.mul_nonneg ?_ ?_)⟩
    · split <;> omega
    · split <;> omega
    · split <;> omega
  · repeat first | walk_at "dl" | simp only [hl]
    refine ⟨by omega, cm_left (by omega), by omega, p18, cm_right ?_, by decide, fin 0 _ (Int.mul_nonneg ?_ ?_)⟩
    · split <;> omega
    · split <;> omega
    · split <;> omega
theorem take_ok {h : Addr} {o : MO} {n m : Int} {M : Mem} {K : QE} {E : EX} (hM : M h = some o) (ho : Hob o n) (hm : 0 < m) (hm2 : m < 2 ^ 40) (hn : n < 2 ^ 40) (q : ∀ (r : Nat) o', (r : Int) < m → Hob o' (n + 1) → K (.int r) (wr M h o')) : spTake [.ref h, .int m] M K E :=
  ⟨h, o, n, m, rfl, hm, hm2, hM, ho, hn, fun r o' h0 h1 h2 => by
    obtain ⟨j, rfl⟩ : ∃ j : Nat, r = (j : Int) := ⟨r.toNat, by omega⟩
    exact q j o' h1 h2⟩
theorem of_ok {α : Type} {h : Addr} {o : MO} {n : Int} {M : Mem} {K : QE} {E : EX} (xs : List α) (toD : α → D) (hM : M h = some o) (ho : Hob o n) (hx : xs ≠ []) (hl : xs.length ≤ 100000) (hn : n < 2 ^ 40) (q : ∀ x ∈ xs, ∀ o', Hob o' (n + 1) → K (toD x) (wr M h o')) : spOf [.ref h, .rl (xs.map toD)] M K E :=
  ⟨h, o, n, _, xs.map toD, rfl, .inl rfl, by simpa using hx, by simpa using hl, hM, ho, hn, fun d hd o' h2 => by
    obtain ⟨x, hx, rfl⟩ := List.mem_map.mp hd
    exact q x hx o' h2⟩
end K10

namespace K10
open PySem PySem.Spec PyProof.Rows L2 DL
local macro_rules | `(tactic| walk_at "dl") => `(tactic| simp only [wSs, wS, DL.wE, DL.wT, DL.wL, wEs, wO, wC, wI, wG, wGs, dSeq, dAsg, dPar, dIf, dDrop, dSlot, dC, CD.d, dBin, boR, coR, dSub, dMod, dFdiv, dTest, dChain, bQ, dNext, dRet, dRetN, dgName, dgSub, dgTup, dgCons, dgNil, dLst, dTup, dTupX, dCons, dNil, dIfE, dAndT, dOrT, dNotT, dAnd, dOr, dNot, dTruth, dTru_non, dTru_bl, dTru_int, dTru_str, dTru_tup, dTru_rl, dNeg, dSlice, dNoPart, dPart, dCall, dMt, dFnN, dMth, dFld, dSfl, dFz, dLcF, dNew, dNewD, dNewK, dLenK, dSliS, dSlS, dRevX, dgHead, dFrz, dForget, isTy, isIns, BF.rd, BT.rd, BM.rd, BM.ty, BF.rt, BT.rt, IEs.len, startD, getS, setS, wipeS, endB, tb, List.getD_cons_zero, List.getD_cons_succ, List.map_cons, List.map_nil, List.replicate, List.length_cons, List.length_nil, List.cons_append, List.nil_append, List.append_nil, dI_int, dAdd_int, dAdd_str, dAdd_tup, dIB_int, dLt_int, dLt_str, dEq_int, dEq_str, dNe_int, dNe_str, lenD_tup, lenD_rl, lenD_str, dMulA_int, dSl_str, ixN3_0, ixN3_1, ixN3_2, List.set_cons_zero, List.set_cons_succ, rAbs_int, rMin_int, rMax_int, rMin_str, rMax_str, dIx_wr, lenD_wr, atI_0, atI_1, atI_2, dIx_tup, dIx_rl, dIx_str, Option.some.injEq, exists_eq_left', decide_true, decide_false, eq_self, ite_true, ite_false, if_true, if_false, true_and, and_true, Bool.false_eq_true, Bool.not_true, Bool.not_false, Nat.reduceAdd, Nat.reduceSub, tTuple, tTupleX, dIs_non, dIs_bl, DL.isNon, dIn_str1, isi_str, isi_tup, isi_tx, isi_int, isi_rl, isi_bl, isi_non])
open PR
/-! the words that are drawn: one stem, one sign put in -/
abbrev SG : Str := "abcdefghijklmnopqrstuvwxyzABCDEFGHIJKLMNOPQRSTUVWXYZ+-*=<>&|~^"
abbrev ST : Str := "a0+Z~9"
theorem sg_len : SG.length = 62 := by decide +kernel
theorem sg_nodup : SG.cps.toList.Nodup := by decide +kernel
def mkW (stem : Str) (a c : Nat) : Str := cutS stem none (some (a : Int)) ++ ⟨#[c]⟩ ++ cutS stem (some (a : Int)) none
theorem mkW_list {stem : Str} {a c : Nat} (h : a ≤ stem.length) : (mkW stem a c).cps.toList = stem.cps.toList.take a ++ c :: stem.cps.toList.drop a := by
  unfold mkW
  rw [app_list, app_list]
  have e1 : (cutS stem none (some (a : Int))).cps.toList = stem.cps.toList.take a := by
    unfold cutS
    rw [HT.sIx_none, HT.sIx_nat, Nat.min_eq_left h]
    simp
  have e2 : (cutS stem (some (a : Int)) none).cps.toList = stem.cps.toList.drop a := by
    unfold cutS
    rw [HT.sIx_none, HT.sIx_nat, Nat.min_eq_left h]
    simp only [List.drop_drop]
    refine List.take_of_length_le ?_
    rw [List.length_drop]
    have : stem.cps.toList.length = stem.length := rfl
    omega
  rw [e1, e2]
  simp
theorem mkW_len {stem : Str} {a c : Nat} (h : a ≤ stem.length) : (mkW stem a c).length = stem.length + 1 := by
  have : (mkW stem a c).length = (mkW stem a c).cps.toList.length := rfl
  rw [this, mkW_list h, List.length_append, List.length_cons, List.length_take, List.length_drop]
  have : stem.cps.toList.length = stem.length := rfl
  omega
theorem mkW_inj {stem : Str} {a c d : Nat} (h : a ≤ stem.length) (e : mkW stem a c = mkW stem a d) : c = d := by
  have e1 := mkW_list (c := c) h
  rw [e, mkW_list h] at e1
  have := List.append_cancel_left e1
  injection this with e2
  exact e2.symm
theorem mkW_ok {stem : Str} {a c : Nat} (h : a ≤ stem.length) (hl : stem.length = 0 ∨ stem.length = 1 ∨ stem.length = 2 ∨ stem.length = 5) (hs : ∀ c ∈ stem.cps.toList, c ∈ ST.cps.toList) (hc : c ∈ SG.cps.toList) : wordB (mkW stem a c) = true := by
  have hlen := mkW_len (c := c) h
  have s1 : ∀ c ∈ ST.cps.toList, c ∈ signsW.cps.toList := by decide +kernel
  have s2 : ∀ c ∈ SG.cps.toList, c ∈ signsW.cps.toList := by decide +kernel
  have s3 : ∀ c ∈ SG.cps.toList, ¬ c ∈ figs.cps.toList := by decide +kernel
  have hh : ("holds" : Str).length = 5 := by decide +kernel
  have ne : mkW stem a c ≠ ("holds" : Str) := fun e => by
    rw [e, hh] at hlen
    omega
  have mem : ∀ d ∈ (mkW stem a c).cps.toList, d ∈ signsW.cps.toList := fun d hd => by
    rw [mkW_list h] at hd
    rcases List.mem_append.mp hd with hd | hd
    · exact s1 d (hs d (List.mem_of_mem_take hd))
    · rcases List.mem_cons.mp hd with rfl | hd
      · exact s2 _ hc
      · exact s1 d (hs d (List.mem_of_mem_drop hd))
  have all1 : (mkW stem a c).cps.toList.all (fun c => decide (c ∈ signsW.cps.toList)) = true := List.all_eq_true.mpr fun d hd => decide_eq_true (mem d hd)
  have all2 : (mkW stem a c).cps.toList.all (fun c => decide (c ∈ figs.cps.toList)) = false := by
    rw [List.all_eq_false]
    refine ⟨c, by rw [mkW_list h]; simp, by simpa using s3 c hc⟩
  unfold wordB
  rw [all1, all2, decide_eq_false ne, decide_eq_true (by omega), decide_eq_true (by omega)]
  rfl
theorem exSub {h : Addr} {M M' : Mem} {o : MO} (x : Ex h M M') (e : M' h = some o) : DL.Sub (DL.wr M h o) M' := fun a u k => by
  by_cases ha : a = h
  · subst ha
    rw [wr_same] at k
    cases k
    exact e
  · rw [wr_ne ha] at k
    exact x a u ha k
theorem ers {α β : Type} (f : α → β) : ∀ (l : List α) (k : Nat), (l.map f).eraseIdx k = (l.eraseIdx k).map f
  | [], _ => rfl
  | _ :: _, 0 => rfl
  | a :: l, k + 1 => by rw [List.map_cons, List.eraseIdx_cons_succ, List.eraseIdx_cons_succ, List.map_cons, ers f l k]
theorem erp {α : Type} : ∀ (l : List α) (k : Nat) (h : k < l.length), (l[k] :: l.eraseIdx k).Perm l
  | a :: l, 0, _ => List.Perm.refl _
  | a :: l, k + 1, h => by
    rw [List.getElem_cons_succ, List.eraseIdx_cons_succ]
    exact (List.Perm.swap _ _ _).trans ((erp l k (Nat.lt_of_succ_lt_succ h)).cons a)
def spWords : DSp := fun ds M Q E => ∃ (h : Addr) (o : MO) (n : Int), ds = [.ref h, .int 25] ∧ M h = some o ∧ Hob o n ∧ n < 2 ^ 39 ∧ ∀ ws : List Str, ws.length = 25 → ws.Nodup → (∀ w ∈ ws, wordB w = true) → ∀ o', Hob o' (n + 40) → Q (.rl (ws.map D.str)) (wr M h o')
theorem law_words (ds : List D) (M : Mem) (Q : QE) (E : EX) (H : spWords ds M Q E) : wSs (tb [spTake, spOf] [] []) ir__law_words (endB Q) E (startD 9 ds) M := by
  obtain ⟨h, o, n, rfl, hM, ho, hn, q⟩ := H
  have s24 : sizeLine = 2 ^ 24 := rfl
  unfold ir__law_words
  walk_at "dl"
  refine ⟨by rw [sg_len]; omega, fun ps hps => ?_⟩
  have nps : ps ≠ h := fun z => by subst z; rw [hM] at hps; cases hps
  refine lcGo ?_
  unfold diRng1
  walk_at "dl"
  refine ⟨by decide, fun p1 hp1 => ⟨_, wr_same, ?_⟩⟩
  rw [mdel_wr hp1]
  refine ⟨h, o, n, _, _, rfl, .inl rfl, by simp, by simp, by rw [wr_ne nps.symm]; exact hM, ho, by omega, fun d hd o1 ho1 => ?_⟩
  obtain ⟨m, rfl, hm⟩ : ∃ m : Nat, d = .int m ∧ (m = 0 ∨ m = 1 ∨ m = 2 ∨ m = 5) := by
    simp at hd
    rcases hd with rfl | rfl | rfl | rfl
    · exact ⟨0, rfl, .inl rfl⟩
    · exact ⟨1, rfl, .inr (.inl rfl)⟩
    · exact ⟨2, rfl, .inr (.inr (.inl rfl))⟩
    · exact ⟨5, rfl, .inr (.inr (.inr rfl))⟩
  refine ⟨⟨by omega, by omega⟩, ?_⟩
  rw [Int.toNat_natCast, rng0]
  refine lcK (List.range m) (fun i : Nat => D.int (i : Int)) (fun r acc M' => ∃ (o' : MO) (cs : List Nat), M' = wr (wr M ps (.lst (DL.signs SG))) h o' ∧ Hob o' (n + 1 + cs.length) ∧ acc = cs.map sg ∧ cs.length + r.length = m ∧ ∀ c ∈ cs, c ∈ ST.cps.toList) (fun _ _ _ _ => trivial) ⟨o1, [], rfl, by simpa using ho1, rfl, by simp, by simp⟩ ?_ ?_
  · rintro i r acc M' _ ⟨o', cs, rfl, ho', rfl, hl, hc⟩
    unfold dYes
    walk_at "dl"
    rw [List.length_cons] at hl
    refine ⟨h, o', _, _, _, rfl, .inr ⟨ST, rfl, rfl⟩, by decide +kernel, by rw [signs_len, show ST.length = 6 by decide +kernel]; omega, wr_same, ho', by omega, fun d hd o2 ho2 => ?_⟩
    obtain ⟨c, hc1, rfl⟩ : ∃ c ∈ ST.cps.toList, d = sg c := by
      unfold DL.signs at hd
      obtain ⟨c, hc, rfl⟩ := List.mem_map.mp hd
      exact ⟨c, hc, rfl⟩
    rw [wr_wr]
    refine ⟨by rw [List.length_map]; omega, o2, cs ++ [c], rfl, ?_, by simp, by rw [List.length_append, List.length_singleton]; omega, fun x hx => ?_⟩
    · rw [List.length_append, List.length_singleton]
      push_cast
      rw [← Int.add_assoc]
      exact ho2
    · rcases List.mem_append.mp hx with hx | hx
      · exact hc x hx
      · rw [List.mem_singleton] at hx; subst hx; exact hc1
  · rintro acc M' ⟨o2, cs, rfl, ho2, rfl, hl, hc⟩
    rw [List.length_nil, Nat.add_zero] at hl
    have e1 : cs.map sg = (cs.map fun c => (⟨#[c]⟩ : Str)).map D.str := by rw [List.map_map]; rfl
    have e2 : ((cs.map fun c => (⟨#[c]⟩ : Str)).map (·.length)).sum = cs.length := by
      rw [List.map_map]
      have : ((fun x : Str => x.length) ∘ fun c : Nat => (⟨#[c]⟩ : Str)) = fun _ => 1 := rfl
      rw [this]
      clear hl hc e1 ho2
      induction cs with
      | nil => rfl
      | cons c cs ih => rw [List.map_cons, List.sum_cons, ih, List.length_cons]; omega
    have e3 : (Str.ofString "").length = 0 := by decide +kernel
    refine ⟨cs.map fun c => ⟨#[c]⟩, e1, by rw [e2, e3]; omega, ?_⟩
    rw [join_sing]
    have k1 : (⟨cs.toArray⟩ : Str).length = m := by show cs.toArray.size = m; simpa using hl
    have k2 : ∀ c ∈ (⟨cs.toArray⟩ : Str).cps.toList, c ∈ ST.cps.toList := by simpa using hc
    rw [hl] at ho2
    generalize (⟨cs.toArray⟩ : Str) = stem at k1 k2
    clear e1 e2 e3 hc hl cs
    walk_at "dl"
    refine ⟨by omega, h, o2, _, _, rfl, by omega, by omega, wr_same, ho2, by omega, fun at_ o3 a0 a1 ho3 => ⟨by decide, fun pw hpw => ?_⟩⟩
    obtain ⟨a, rfl⟩ : ∃ a : Nat, at_ = (a : Int) := ⟨at_.toNat, by omega⟩
    have ha : a ≤ stem.length := by omega
    obtain ⟨npw, hpw⟩ := wr_fresh hpw
    obtain ⟨_, hpw⟩ := wr_fresh hpw
    obtain ⟨npps, hpw⟩ := wr_fresh hpw
    unfold lp__law_words_0
    walk_at "dl"
    refine forGo ?_
    unfold diRng1
    walk_at "dl"
    refine ⟨by decide, ?_⟩
    rw [show Int.toNat 25 = 25 from rfl, rng0]
    refine forK (List.range 25) (fun i : Nat => D.int (i : Int)) (fun r e' M' => ∃ (o' : MO) (rem used : List Nat) (x4 x7 x8 : Option D), e' = [some (.ref h), some (.int 25), some (.ref ps), some (.str stem), x4, some (.int a), some (.ref pw), x7, x8] ∧
      M' h = some o' ∧ Hob o' (n + 7 + used.length) ∧ M' ps = some (.lst (rem.map sg)) ∧ M' pw = some (.lst (used.map fun c => .str (mkW stem a c))) ∧ Ex h M M' ∧ (used ++ rem).Perm SG.cps.toList ∧ used.length + r.length = 25) (fun _ _ _ _ => trivial)
      ⟨o3, SG.cps.toList, [], none, none, none, rfl, ?_, ?_, ?_, wr_same, ?_, by simp, by simp⟩ ?_ ?_
    · rw [wr_ne npw.symm]; exact wr_same
    · exact ho3.le (by simp; omega)
    · rw [wr_ne npps.symm, wr_ne nps, wr_ne nps, wr_same]; rfl
    · intro b u hb e
      have b1 : b ≠ ps := fun z => by subst z; rw [hps] at e; cases e
      have b2 : b ≠ pw := fun z => by subst z; rw [hpw] at e; cases e
      rw [wr_ne b2, wr_ne hb, wr_ne hb, wr_ne b1]; exact e
    · rintro i r e' M' _ ⟨o', rem, used, x4, x7, x8, rfl, m1, m2, m3, m4, m5, m6, m7⟩
      have hlen : used.length + rem.length = 62 := by
        have := m6.length_eq
        rw [List.length_append] at this
        rw [this]
        exact sg_len
      rw [List.length_cons] at m7
      walk_at "dl"
      rw [lenD_ref m3]
      rw [List.length_map]
      refine ⟨.inl ⟨_, m3⟩, h, o', _, _, rfl, by omega, by omega, m1, m2, by omega, fun r0 o5 h0 h1 ho5 => ?_⟩
      obtain ⟨j, rfl⟩ : ∃ j : Nat, r0 = (j : Int) := ⟨r0.toNat, by omega⟩
      have hj : j < rem.length := by omega
      have hc : rem[j] ∈ SG.cps.toList := m6.mem_iff.mp (List.mem_append_right _ (List.getElem_mem hj))
      have l1 : (cutS stem none (some (a : Int))).length ≤ stem.length := cut_len
      have l2 : (cutS stem (some (a : Int)) none).length ≤ stem.length := cut_len
      refine ⟨rem.map sg, j, sg rem[j], by rw [wr_ne nps]; exact m3, by omega, by omega, seqIx_nat (by rw [List.length_map]; exact hj), by rw [List.getElem?_map, List.getElem?_eq_getElem hj]; rfl, ?_⟩
      walk_at "dl"
      have npp : pw ≠ ps := npps
      have q1 : (⟨#[rem[j]]⟩ : Str).length = 1 := rfl
      have m4' : wr (wr M' h o5) ps (MO.lst ((rem.map sg).eraseIdx j)) pw = some (.lst (used.map fun c => .str (mkW stem a c))) := by
        rw [wr_ne npp, wr_ne npw]; exact m4
      refine ⟨.inl ⟨_, m4'⟩, by omega, by rw [q1]; omega, by omega, by rw [app_len, q1]; omega, _, m4', by rw [List.length_map]; omega, o5, rem.eraseIdx j, used ++ [rem[j]], _, _, _, rfl, ?_, ?_, ?_, ?_, ?_, ?_, ?_⟩
      · rw [wr_ne npw.symm, wr_ne nps.symm, wr_same]
      · rw [List.length_append, List.length_singleton]
        push_cast
        rw [← Int.add_assoc]
        exact ho5
      · rw [wr_ne npp.symm, wr_same, ers]
      · rw [wr_same, List.map_append]
        rfl
      · intro b u hb e
        have b1 : b ≠ ps := fun z => by subst z; rw [hps] at e; cases e
        have b2 : b ≠ pw := fun z => by subst z; rw [hpw] at e; cases e
        rw [wr_ne b2, wr_ne b1, wr_ne hb]
        exact m5 b u hb e
      · refine List.Perm.trans ?_ m6
        rw [List.append_assoc]
        refine List.Perm.append_left _ ?_
        exact (erp rem j hj)
      · rw [List.length_append, List.length_singleton]
        omega
    · rintro e' M' ⟨o', rem, used, x4, x7, x8, rfl, m1, m2, m3, m4, m5, m6, m7⟩
      rw [List.length_nil, Nat.add_zero] at m7
      walk_at "dl"
      have nd : used.Nodup := (List.nodup_append.mp (m6.nodup_iff.mpr sg_nodup)).1
      have e1 : (used.map fun c => D.str (mkW stem a c)) = (used.map fun c => mkW stem a c).map D.str := by rw [List.map_map]; rfl
      refine ⟨_, m4, wr M h o', fun b u e => ?_, ?_⟩
      · by_cases hb : b = pw
        · subst hb
          rw [wr_ne npw, hpw] at e
          cases e
        · rw [mdel_ne hb]
          exact exSub m5 m1 b u e
      · rw [e1]
        refine q _ (by rw [List.length_map]; exact m7) ?_ ?_ o' (m2.le (by omega))
        · exact List.pairwise_map.mpr (nd.imp fun ne e => ne (mkW_inj ha e))
        · intro w hw
          obtain ⟨c, hc, rfl⟩ := List.mem_map.mp hw
          refine mkW_ok ha (by rw [k1]; exact hm) k2 (m6.mem_iff.mp (List.mem_append_left _ hc))
end K10

namespace K10
open PySem PySem.Spec PyProof.Rows L2 DL
local macro_rules | `(tactic| walk_at "dl") => `(tactic| simp only [wSs, wS, DL.wE, DL.wT, DL.wL, wEs, wO, wC, wI, wG, wGs, dSeq, dAsg, dPar, dIf, dDrop, dSlot, dC, CD.d, dBin, boR, coR, dSub, dMod, dFdiv, dTest, dChain, bQ, dNext, dRet, dRetN, dgName, dgSub, dgTup, dgCons, dgNil, dLst, dTup, dTupX, dCons, dNil, dIfE, dAndT, dOrT, dNotT, dAnd, dOr, dNot, dTruth, dTru_non, dTru_bl, dTru_int, dTru_str, dTru_tup, dTru_rl, dNeg, dSlice, dNoPart, dPart, dCall, dMt, dFnN, dMth, dFld, dSfl, dFz, dLcF, dNew, dNewD, dNewK, dLenK, dSliS, dSlS, dRevX, dgHead, dFrz, dForget, isTy, isIns, BF.rd, BT.rd, BM.rd, BM.ty, BF.rt, BT.rt, IEs.len, startD, getS, setS, wipeS, endB, tb, List.getD_cons_zero, List.getD_cons_succ, List.map_cons, List.map_nil, List.replicate, List.length_cons, List.length_nil, List.cons_append, List.nil_append, List.append_nil, dI_int, dAdd_int, dAdd_str, dAdd_tup, dIB_int, dLt_int, dLt_str, dEq_int, dEq_str, dNe_int, dNe_str, lenD_tup, lenD_rl, lenD_str, dMulA_int, dSl_str, ixN3_0, ixN3_1, ixN3_2, List.set_cons_zero, List.set_cons_succ, rAbs_int, rMin_int, rMax_int, rMin_str, rMax_str, dIx_wr, lenD_wr, atI_0, atI_1, atI_2, dIx_tup, dIx_rl, dIx_str, Option.some.injEq, exists_eq_left', decide_true, decide_false, eq_self, ite_true, ite_false, if_true, if_false, true_and, and_true, Bool.false_eq_true, Bool.not_true, Bool.not_false, Nat.reduceAdd, Nat.reduceSub, tTuple, tTupleX, dIs_non, dIs_bl, DL.isNon, dIn_str1, isi_str, isi_tup, isi_tx, isi_int, isi_rl, isi_bl, isi_non])
open PR
/-! the ground that is drawn -/
def GOk (g : Gr) : Prop := g.Ok ∧ (∀ k ∈ g.kinds, ∃ n ∈ g.names, n.2 = k) ∧ g.kinds.length ≤ 3 ∧ g.shapes.length ≤ 10 ∧ g.names.length ≤ 12
def gD (g : Gr) : D := .tup [g.kD, g.sD, g.nD]
structure Wok (ws : List Str) : Prop where
  len : ws.length = 25
  nd : ws.Nodup
  ok : ∀ w ∈ ws, wordB w = true
/-- shapes over drawn words -/
structure Sok (ws : List Str) (many c : Nat) (S : List (Str × Str × List Str)) : Prop where
  fst : S.map Prod.fst = (ws.drop 3).take c
  prt : ∀ s ∈ S, s.2.1 ∈ ws.take many ∧ s.2.2.length ≤ 3 ∧ ∀ p ∈ s.2.2, p ∈ ws.take many
structure Nok (ws : List Str) (many c : Nat) (N : List (Str × Str)) : Prop where
  fst : N.map Prod.fst = (ws.drop 13).take c
  prt : ∀ s ∈ N, s.2 ∈ ws.take many
  all : ∀ i, i < c → i < many → ∃ s ∈ N, ws[i]? = some s.2
theorem gok_of {ws : List Str} {many c d : Nat} {S S' : List (Str × Str × List Str)} {N N' : List (Str × Str)} (w : Wok ws) (m1 : 1 ≤ many) (m3 : many ≤ 3) (hc : c ≤ 10) (hd : d ≤ 12) (hmd : many ≤ d) (s : Sok ws many c S) (n : Nok ws many d N) (pS : S'.Perm S) (pN : N'.Perm N) : GOk ⟨ws.take many, S', N'⟩ := by
  have hl := w.len
  have hsl : S.length = c := by
    have := congrArg List.length s.fst
    rw [List.length_map, List.length_take, List.length_drop] at this
    omega
  have hnl : N.length = d := by
    have := congrArg List.length n.fst
    rw [List.length_map, List.length_take, List.length_drop] at this
    omega
  have hm : ∀ k ∈ ws.take many, k ∈ ws := fun k hk => List.mem_of_mem_take hk
  refine ⟨⟨?_, fun k hk => w.ok k (hm k hk), fun x hx => ?_, fun x hx => ?_, ?_, ?_, ?_, ?_⟩, fun k hk => ?_, ?_, ?_, ?_⟩
  · intro e
    have := congrArg List.length e
    rw [List.length_take, List.length_nil] at this
    omega
  · have hx' := pS.mem_iff.mp hx
    refine ⟨w.ok _ ?_, s.prt x hx'⟩
    have : x.1 ∈ S.map Prod.fst := List.mem_map_of_mem hx'
    rw [s.fst] at this
    exact List.mem_of_mem_drop (List.mem_of_mem_take this)
  · have hx' := pN.mem_iff.mp hx
    refine ⟨w.ok _ ?_, n.prt x hx'⟩
    have : x.1 ∈ N.map Prod.fst := List.mem_map_of_mem hx'
    rw [n.fst] at this
    exact List.mem_of_mem_drop (List.mem_of_mem_take this)
  · have p1 : (ws.take many ++ (S'.map (·.1) ++ N'.map (·.1))).Perm (ws.take many ++ ((ws.drop 3).take c ++ (ws.drop 13).take d)) := by
      refine List.Perm.append_left _ (List.Perm.append ?_ ?_)
      · rw [← s.fst]; exact pS.map _
      · rw [← n.fst]; exact pN.map _
    rw [p1.nodup_iff]
    have sub : List.Sublist (ws.take many ++ ((ws.drop 3).take c ++ (ws.drop 13).take d)) ws := by
      have e1 : ws = ws.take 3 ++ ((ws.drop 3).take 10 ++ ws.drop 13) := by
        have : ws.drop 13 = (ws.drop 3).drop 10 := by rw [List.drop_drop]
        rw [this, List.take_append_drop, List.take_append_drop]
      have a1 : List.Sublist (ws.take many) (ws.take 3) := by
        have : ws.take many = (ws.take 3).take many := by rw [List.take_take, Nat.min_eq_left m3]
        rw [this]; exact List.take_sublist _ _
      have a2 : List.Sublist ((ws.drop 3).take c) ((ws.drop 3).take 10) := by
        have : (ws.drop 3).take c = ((ws.drop 3).take 10).take c := by rw [List.take_take, Nat.min_eq_left hc]
        rw [this]; exact List.take_sublist _ _
      have a3 : List.Sublist ((ws.drop 13).take d) (ws.drop 13) := List.take_sublist _ _
      have := a1.append (a2.append a3)
      rwa [← e1] at this
    exact sub.nodup w.nd
  · show (ws.take many).length ≤ 100
    rw [List.length_take]; omega
  · show S'.length ≤ 100
    rw [pS.length_eq]; omega
  · show N'.length ≤ 100
    rw [pN.length_eq]; omega
  · obtain ⟨i, hi, rfl⟩ := List.getElem_of_mem hk
    have hi2 : i < many := by rw [List.length_take] at hi; omega
    obtain ⟨x, hx, e⟩ := n.all i (by omega) hi2
    refine ⟨x, pN.mem_iff.mpr hx, ?_⟩
    rw [List.getElem_take]
    have : ws[i]? = some ws[i] := List.getElem?_eq_getElem (by omega)
    rw [this] at e
    injection e with e
    exact e.symm
  · show (ws.take many).length ≤ 3
    rw [List.length_take]; omega
  · show S'.length ≤ 10
    rw [pS.length_eq]; omega
  · show N'.length ≤ 12
    rw [pN.length_eq]; omega
theorem at_map {α : Type} {xs : List α} {f : α → D} {j : Nat} (h : j < xs.length) : L2.atI (xs.map f) (j : Int) = some (f xs[j]) := by
  have := DL.atI_nat (r := xs.map f) (k := j) (by rw [List.length_map]; exact h)
  rw [List.getElem_map] at this
  exact this
theorem exWr {h : Addr} {M M' : Mem} {o : MO} (x : Ex h M M') : DL.Sub (wr M h o) (wr M' h o) := exSub (fun a u ha e => by rw [wr_ne ha]; exact x a u ha e) wr_same
theorem lst_ne {M : Mem} {h p : Addr} {o : MO} {n : Int} {xs : List D} (ho : Hob o n) (hM : M h = some o) (hp : M p = some (.lst xs)) (hx : ∀ x ∈ xs, ∀ i : Int, x ≠ .int i) : p ≠ h := fun z => by
  subst z
  rw [hM] at hp
  obtain ⟨a, b, c, rfl, _⟩ := ho
  injection hp with hp
  injection hp with hp
  subst hp
  exact hx _ List.mem_cons_self a rfl
theorem pickPm {α : Type} {S : List α} {f : α → D} {i : Int} (hi : i = 1 ∨ i = -1) : ∃ S' : List α, S'.Perm S ∧ pickG (S.map f) none none i = S'.map f := by
  rcases hi with rfl | rfl
  · exact ⟨S, .refl _, pickG_one _⟩
  · exact ⟨S.reverse, List.reverse_perm _, by rw [pickG_rev, List.map_reverse]⟩
theorem ground7 {h pS : Addr} {o : MO} {n : Int} {ws : List Str} {many c d : Nat} {x1 x2 x3 x4 x6 x7 x8 x11 x12 : Option D} {S : List (Str × Str × List Str)} {N : List (Str × Str)} {M : Mem} {Q : QE} {E : EX} (w : Wok ws) (m1 : 1 ≤ many) (m3 : many ≤ 3) (hc : c ≤ 10) (hd : d ≤ 12) (hmd : many ≤ d) (s : Sok ws many c S) (nn : Nok ws many d N)
    (hM : M h = some o) (ho : Hob o n) (hn : n < 2 ^ 39) (hS : M pS = some (.lst (S.map shD'))) (q : ∀ g, GOk g → ∀ o', Hob o' (n + 1) → ∃ M2, DL.Sub M2 (wr M h o') ∧ Q (gD g) M2) :
    wSs (tb [spTake, spOf, spWords] [] []) ct__law_ground_7 (endB Q) E [some (.ref h), x1, x2, x3, x4, some (.rl (N.map nmD)), x6, x7, x8, some (.rl ((ws.take many).map D.str)), some (.ref pS), x11, x12] M := by
  have s24 : sizeLine = 2 ^ 24 := rfl
  have nph : pS ≠ h := lst_ne ho hM hS fun x hx i e => by
    obtain ⟨y, _, rfl⟩ := List.mem_map.mp hx
    cases e
  unfold ct__law_ground_7
  walk_at "dl"
  refine take_ok hM ho (by omega) (by omega) (by omega) fun r o1 hr ho1 => ⟨by decide, fun p1 hp1 => ⟨_, wr_same, ?_⟩⟩
  rw [mdel_wr hp1]
  have hS1 : wr M h o1 pS = some (.lst (S.map shD')) := by rw [wr_ne nph]; exact hS
  obtain ⟨i, j, hi, hj, ei, ej⟩ : ∃ i j : Int, (i = 1 ∨ i = -1) ∧ (j = 1 ∨ j = -1) ∧ L2.atI [D.int 1, D.int (-1)] (r : Int) = some (.int i) ∧ L2.atI [D.int (-1), D.int 1] (r : Int) = some (.int j) := by
    have r01 : r = 0 ∨ r = 1 := by omega
    rcases r01 with rfl | rfl
    · exact ⟨1, -1, .inl rfl, .inr rfl, rfl, rfl⟩
    · exact ⟨-1, 1, .inr rfl, .inl rfl, rfl, rfl⟩
  obtain ⟨S', pS', eS⟩ := pickPm (S := S) (f := shD') hi
  obtain ⟨N', pN', eN⟩ := pickPm (S := N) (f := nmD) hj
  rw [dIx_rl]
  refine ⟨.int i, ei, by omega, _, hS1, fun p2 hp2 => ⟨_, wr_same, ?_⟩⟩
  rw [mdel_wr hp2, eS]
  refine ⟨by decide, fun p3 hp3 => ⟨_, wr_same, ?_⟩⟩
  rw [mdel_wr hp3, dIx_rl]
  refine ⟨.int j, ej, by omega, fun p4 hp4 => ⟨_, wr_same, ?_⟩⟩
  rw [mdel_wr hp4, eN]
  refine ⟨by decide, ?_⟩
  exact q ⟨ws.take many, S', N'⟩ (gok_of w m1 m3 hc hd hmd s nn pS' pN') o1 ho1
theorem ground6 {h pS : Addr} {o : MO} {n : Int} {ws : List Str} {many c ex : Nat} {x1 x3 x5 x6 x8 x11 x12 : Option D} {S : List (Str × Str × List Str)} {M : Mem} {Q : QE} {E : EX} (w : Wok ws) (m1 : 1 ≤ many) (m3 : many ≤ 3) (hc : c ≤ 10) (hd : many + ex ≤ 12) (s : Sok ws many c S)
    (hM : M h = some o) (ho : Hob o n) (hn : n < 2 ^ 38) (hS : M pS = some (.lst (S.map shD'))) (q : ∀ g, GOk g → ∀ o', Hob o' (n + 15) → ∃ M2, DL.Sub M2 (wr M h o') ∧ Q (gD g) M2) :
    wSs (tb [spTake, spOf, spWords] [] []) ct__law_ground_6 (endB Q) E [some (.ref h), x1, some (.rl (ws.map D.str)), x3, some (.int ex), x5, x6, some (.int many), x8, some (.rl ((ws.take many).map D.str)), some (.ref pS), x11, x12] M := by
  have s24 : sizeLine = 2 ^ 24 := rfl
  have nph : pS ≠ h := lst_ne ho hM hS fun x hx i e => by
    obtain ⟨y, _, rfl⟩ := List.mem_map.mp hx
    cases e
  unfold ct__law_ground_6
  walk_at "dl"
  refine lcGo ?_
  unfold diRng1
  walk_at "dl"
  refine ⟨⟨by omega, by omega⟩, ?_⟩
  rw [show ((many : Int) + (ex : Int)).toNat = many + ex by omega, rng0]
  refine lcK (List.range (many + ex)) (fun i : Nat => D.int (i : Int)) (fun r acc M' => ∃ (o' : MO) (N : List (Str × Str)), M' = wr M h o' ∧ Hob o' (n + N.length) ∧ acc = N.map nmD ∧ r = (List.range (many + ex)).drop N.length ∧ N.length ≤ many + ex ∧ Nok ws many N.length N) (fun _ _ _ _ => trivial)
    ⟨o, [], (wr_id hM).symm, by simpa using ho, rfl, by simp, Nat.zero_le _, ⟨by simp, by simp, fun i hi => absurd hi (Nat.not_lt_zero i)⟩⟩ ?_ ?_
  · rintro i r acc M' _ ⟨o', N, rfl, ho', rfl, hr, hle, nn⟩
    obtain ⟨rfl, hk, hr'⟩ := range_drop hr.symm
    have h25 := w.len
    have h1 : 13 + N.length < ws.length := by omega
    unfold dYes
    walk_at "dl"
    have e13 : L2.atI (ws.map D.str) (13 + (N.length : Int)) = some (.str ws[13 + N.length]) := by
      have := atI_nat (r := ws.map D.str) (k := 13 + N.length) (by rw [List.length_map]; exact h1)
      rw [List.getElem_map] at this
      exact this
    have efst : (N.map Prod.fst) ++ [ws[13 + N.length]] = (ws.drop 13).take (N.length + 1) := by
      rw [nn.fst, List.take_add_one]
      congr 1
      rw [List.getElem?_drop, List.getElem?_eq_getElem h1]
      rfl
    have fin : ∀ (k : Str) (o2 : MO), k ∈ ws.take many → (N.length < many → ws[N.length]? = some k) → Hob o2 (n + (N.length + 1)) → 2 ≤ sizeLine ∧ (N.map nmD).length < sizeLine ∧ ∃ (o' : MO) (N' : List (Str × Str)), wr M h o2 = wr M h o' ∧ Hob o' (n + N'.length) ∧ N.map nmD ++ [.tup [.str ws[13 + N.length], .str k]] = N'.map nmD ∧ r = (List.range (many + ex)).drop N'.length ∧ N'.length ≤ many + ex ∧ Nok ws many N'.length N' := fun k o2 hk1 hk2 ho2 => by
      refine ⟨by omega, by rw [List.length_map]; omega, o2, N ++ [(ws[13 + N.length], k)], rfl, ?_, by simp [nmD], ?_, ?_, ?_, ?_, ?_⟩
      · rw [List.length_append, List.length_singleton]; push_cast; exact ho2
      · rw [List.length_append, List.length_singleton]; exact hr'
      · rw [List.length_append, List.length_singleton]; omega
      · rw [List.length_append, List.length_singleton, List.map_append]; exact efst
      · intro x hx
        rcases List.mem_append.mp hx with hx | hx
        · exact nn.prt x hx
        · rw [List.mem_singleton] at hx; subst hx; exact hk1
      · intro i h1 h2
        rw [List.length_append, List.length_singleton] at h1
        by_cases hi : i < N.length
        · obtain ⟨x, hx, e⟩ := nn.all i hi h2
          exact ⟨x, List.mem_append_left _ hx, e⟩
        · have : i = N.length := by omega
          subst this
          exact ⟨_, List.mem_append_right _ (List.mem_singleton.mpr rfl), hk2 h2⟩
    refine ⟨_, e13, ?_⟩
    by_cases hlt : (N.length : Int) < many
    · repeat first | walk_at "dl" | simp only [hlt]
      have hlt' : N.length < many := by omega
      have h2 : N.length < (ws.take many).length := by rw [List.length_take]; omega
      have ek : L2.atI ((ws.take many).map D.str) (N.length : Int) = some (.str (ws.take many)[N.length]) := by
        have := atI_nat (r := (ws.take many).map D.str) (k := N.length) (by rw [List.length_map]; exact h2)
        rw [List.getElem_map] at this
        exact this
      refine ⟨_, ek, fin _ _ (List.getElem_mem h2) (fun _ => ?_) (ho'.le (by omega))⟩
      rw [List.getElem_take, List.getElem?_eq_getElem (by omega)]
    · repeat first | walk_at "dl" | simp only [hlt]
      refine of_ok (ws.take many) D.str wr_same ho' (fun e => ?_) (by rw [List.length_take]; omega) (by omega) fun k hk1 o2 ho2 => ?_
      · have := congrArg List.length e
        rw [List.length_take, List.length_nil] at this
        omega
      · rw [wr_wr]
        exact fin k o2 hk1 (fun h => by omega) (by rw [← Int.add_assoc]; exact ho2)
  · rintro acc M' ⟨o', N, rfl, ho', rfl, hr, hle, nn⟩
    have hl : N.length = many + ex := by
      have l1 := congrArg List.length hr
      rw [List.length_nil, List.length_drop, List.length_range] at l1
      omega
    rw [hl] at nn ho'
    refine ground7 w m1 m3 hc hd (by omega) s nn wr_same ho' (by push_cast; omega) (by rw [wr_ne nph]; exact hS) fun g hg o2 ho2 => ?_
    rw [wr_wr]
    exact q g hg o2 (ho2.le (by push_cast; omega))
theorem ground5 {h pS : Addr} {o : MO} {n : Int} {gr : Bool} {ws : List Str} {many c : Nat} {x3 x4 x5 x6 x8 x11 x12 : Option D} {S : List (Str × Str × List Str)} {M : Mem} {Q : QE} {E : EX} (w : Wok ws) (m1 : 1 ≤ many) (m3 : many ≤ 3) (hc : c ≤ 10) (s : Sok ws many c S)
    (hM : M h = some o) (ho : Hob o n) (hn : n + 1 < 2 ^ 38) (hS : M pS = some (.lst (S.map shD'))) (q : ∀ g, GOk g → ∀ o', Hob o' (n + 16) → ∃ M2, DL.Sub M2 (wr M h o') ∧ Q (gD g) M2) :
    wSs (tb [spTake, spOf, spWords] [] []) ct__law_ground_5 (endB Q) E [some (.ref h), some (.bl gr), some (.rl (ws.map D.str)), x3, x4, x5, x6, some (.int many), x8, some (.rl ((ws.take many).map D.str)), some (.ref pS), x11, x12] M := by
  have s24 : sizeLine = 2 ^ 24 := rfl
  have nph : pS ≠ h := lst_ne ho hM hS fun x hx i e => by
    obtain ⟨y, _, rfl⟩ := List.mem_map.mp hx
    cases e
  unfold ct__law_ground_5
  cases gr with
  | true =>
    walk_at "dl"
    rw [show (12 : Int) - (many : Int) = ((12 - many : Nat) : Int) by omega]
    exact ground6 w m1 m3 hc (by omega) s hM ho (by omega) hS fun g hg o' ho' => q g hg o' (ho'.le (by omega))
  | false =>
    walk_at "dl"
    refine take_ok hM ho (by omega) (by omega) (by omega) fun r o1 hr ho1 => ?_
    refine ground6 w m1 m3 hc (by omega) s wr_same ho1 (by omega) (by rw [wr_ne nph]; exact hS) fun g hg o' ho' => ?_
    rw [wr_wr]
    exact q g hg o' (ho'.le (by omega))
theorem ground2 {h : Addr} {o : MO} {n : Int} {gr : Bool} {many more : Nat} {x2 x3 x4 x5 x6 x9 x10 x11 x12 : Option D} {M : Mem} {Q : QE} {E : EX} (m1 : 1 ≤ many) (m3 : many ≤ 3) (hc : more ≤ 8)
    (hM : M h = some o) (ho : Hob o n) (hn : n < 2 ^ 37) (q : ∀ g, GOk g → ∀ o', Hob o' (n + 180) → ∃ M2, DL.Sub M2 (wr M h o') ∧ Q (gD g) M2) :
    wSs (tb [spTake, spOf, spWords] [] []) ct__law_ground_2 (endB Q) E [some (.ref h), some (.bl gr), x2, x3, x4, x5, x6, some (.int many), some (.int more), x9, x10, x11, x12] M := by
  have s24 : sizeLine = 2 ^ 24 := rfl
  unfold ct__law_ground_2
  walk_at "dl"
  refine ⟨h, o, n, rfl, hM, ho, by omega, fun ws hl nd ok o1 ho1 => ?_⟩
  have w : Wok ws := ⟨hl, nd, ok⟩
  walk_at "dl"
  have at_ : ∀ (j : Nat) (hj : j < 25), L2.atI (ws.map D.str) (j : Int) = some (.str (ws[j]'(by omega))) := fun j hj => at_map (f := D.str) (by omega)
  have hcut : cutG (ws.map D.str) none (some (many : Int)) = (ws.take many).map D.str := by
    unfold cutG
    rw [HT.sIx_none, HT.sIx_nat, List.length_map, Nat.min_eq_left (by omega), List.drop_zero, Nat.sub_zero, List.map_take]
  refine fun p hp => ⟨_, wr_same, ?_⟩
  rw [hcut]
  have w0 : ws[0]'(by omega) ∈ ws.take many := by
    rw [List.mem_iff_getElem]
    exact ⟨0, by rw [List.length_take]; omega, by rw [List.getElem_take]⟩
  refine ⟨_, at_ 3 (by omega), _, at_ 0 (by omega), Nat.zero_le _, by omega, _, at_ 4 (by omega), _, at_ 0 (by omega), _, at_ 0 (by omega), _, at_ 0 (by omega), by omega, by omega, by omega, fun pS hpS => ⟨by omega, ?_⟩⟩
  rw [mdel_wr hp] at hpS ⊢
  obtain ⟨npS, hpS⟩ := wr_fresh hpS
  generalize e0 : ws[0]'(by omega) = k0 at w0
  generalize e3 : ws[3]'(by omega) = s3
  generalize e4 : ws[4]'(by omega) = s4
  have s0 : Sok ws many 2 [(s3, k0, []), (s4, k0, [k0, k0])] := by
    refine ⟨?_, fun x hx => ?_⟩
    · have d3 : ws.drop 3 = s3 :: s4 :: ws.drop 5 := by
        rw [List.drop_eq_getElem_cons (i := 3) (by omega), List.drop_eq_getElem_cons (i := 4) (by omega), e3, e4]
      rw [d3]
      rfl
    · simp at hx
      rcases hx with rfl | rfl
      · exact ⟨w0, by simp, by simp⟩
      · exact ⟨w0, by simp, by simp [w0]⟩
  unfold lp__law_ground_3
  walk_at "dl"
  refine forGo ?_
  unfold diRng1
  walk_at "dl"
  refine ⟨⟨by omega, by omega⟩, ?_⟩
  rw [Int.toNat_natCast, rng0]
  refine forK (List.range more) (fun i : Nat => D.int (i : Int)) (fun r e' M' => ∃ (o' : MO) (S : List (Str × Str × List Str)) (c : Nat) (y3 y11 y12 : Option D), e' = [some (.ref h), some (.bl gr), some (.rl (ws.map D.str)), y3, x4, x5, x6, some (.int many), some (.int more), some (.rl ((ws.take many).map D.str)), some (.ref pS), y11, y12] ∧
      M' h = some o' ∧ Hob o' (n + 40 + c * 5) ∧ M' pS = some (.lst (S.map shD')) ∧ Ex h M M' ∧ S.length = 2 + c ∧ r = (List.range more).drop c ∧ c ≤ more ∧ Sok ws many (2 + c) S) (fun _ _ _ _ => trivial)
      ⟨o1, _, 0, x3, x11, x12, rfl, by rw [wr_ne npS.symm]; exact wr_same, by simpa using ho1, wr_same, fun b u hb e => ?_, rfl, by simp, Nat.zero_le _, s0⟩ ?_ ?_
  · have b2 : b ≠ pS := fun z => by subst z; rw [hpS] at e; cases e
    rw [wr_ne b2, wr_ne hb]; exact e
  · rintro i r e' M' _ ⟨o', S, c, y3, y11, y12, rfl, a1, a2, a3, a4, a5, a6, a7, a8⟩
    obtain ⟨rfl, hk, hr'⟩ := range_drop a6.symm
    walk_at "dl"
    unfold dTmp
    refine lcGo ?_
    walk_at "dl"
    refine ⟨by decide, fun p1 hp1 => ⟨_, wr_same, ?_⟩⟩
    rw [mdel_wr hp1]
    have nph : pS ≠ h := npS
    refine ⟨h, o', _, _, _, rfl, .inl rfl, by simp, by simp, a1, a2, by omega, fun d hd o2 ho2 => ?_⟩
    obtain ⟨m, rfl, hm⟩ : ∃ m : Nat, d = .int m ∧ m ≤ 3 := by
      simp at hd
      rcases hd with rfl | rfl | rfl | rfl
      · exact ⟨0, rfl, by omega⟩
      · exact ⟨1, rfl, by omega⟩
      · exact ⟨2, rfl, by omega⟩
      · exact ⟨3, rfl, by omega⟩
    refine ⟨⟨by omega, by omega⟩, ?_⟩
    rw [Int.toNat_natCast, rng0]
    have tkne : ws.take many ≠ [] := fun e => by
      have := congrArg List.length e
      rw [List.length_take, List.length_nil] at this
      omega
    have tkl : (ws.take many).length ≤ 100000 := by rw [List.length_take]; omega
    refine lcK (List.range m) (fun i : Nat => D.int (i : Int)) (fun r acc M2 => ∃ (o3 : MO) (ps : List Str), M2 = wr M' h o3 ∧ Hob o3 (n + 40 + i * 5 + 1 + ps.length) ∧ acc = ps.map D.str ∧ ps.length + r.length = m ∧ ∀ p ∈ ps, p ∈ ws.take many) (fun _ _ _ _ => trivial) ⟨o2, [], rfl, by simpa using ho2, rfl, by simp, by simp⟩ ?_ ?_
    · rintro j r2 acc M2 _ ⟨o3, ps, rfl, ho3, rfl, hl2, hp3⟩
      unfold dYes
      walk_at "dl"
      rw [List.length_cons] at hl2
      refine of_ok (ws.take many) D.str wr_same ho3 tkne tkl (by omega) fun k hk1 o4 ho4 => ?_
      rw [wr_wr]
      refine ⟨by rw [List.length_map]; omega, o4, ps ++ [k], rfl, ?_, by simp, by rw [List.length_append, List.length_singleton]; omega, fun x hx => ?_⟩
      · rw [List.length_append, List.length_singleton]
        push_cast
        rw [← Int.add_assoc]
        exact ho4
      · rcases List.mem_append.mp hx with hx | hx
        · exact hp3 x hx
        · rw [List.mem_singleton] at hx; subst hx; exact hk1
    · rintro acc M2 ⟨o3, ps, rfl, ho3, rfl, hl2, hp3⟩
      rw [List.length_nil, Nat.add_zero] at hl2
      have h5 : 5 + i < ws.length := by omega
      have a3' : wr M' h o3 pS = some (.lst (S.map shD')) := by rw [wr_ne nph]; exact a3
      refine ⟨.inl ⟨_, a3'⟩, _, at_map (j := 5 + i) h5, ?_⟩
      refine of_ok (ws.take many) D.str wr_same ho3 tkne tkl (by omega) fun k hk1 o4 ho4 => ?_
      rw [wr_wr]
      have a3'' : wr M' h o4 pS = some (.lst (S.map shD')) := by rw [wr_ne nph]; exact a3
      refine ⟨by omega, _, a3'', by rw [List.length_map]; omega, o4, S ++ [(ws[5 + i], k, ps)], i + 1, _, _, _, rfl, ?_, ?_, ?_, ?_, ?_, hr', by omega, ?_⟩
      · rw [wr_ne nph.symm]; exact wr_same
      · exact ho4.le (by push_cast; omega)
      · rw [wr_same]; simp [shD', tS]
      · intro b u hb e
        have b2 : b ≠ pS := fun z => by subst z; rw [hpS] at e; cases e
        rw [wr_ne b2, wr_ne hb]; exact a4 b u hb e
      · rw [List.length_append, List.length_singleton]; omega
      · refine ⟨?_, fun x hx => ?_⟩
        · rw [List.map_append, a8.fst, show 2 + (i + 1) = (2 + i) + 1 by omega, List.take_add_one]
          congr 1
          rw [List.getElem?_drop, List.getElem?_eq_getElem (by omega)]
          simp only [show 3 + (2 + i) = 5 + i by omega]
          rfl
        · rcases List.mem_append.mp hx with hx | hx
          · exact a8.prt x hx
          · rw [List.mem_singleton] at hx; subst hx; exact ⟨hk1, by show ps.length ≤ 3; omega, hp3⟩
  · rintro e' M' ⟨o', S, c, y3, y11, y12, rfl, a1, a2, a3, a4, a5, a6, a7, a8⟩
    have hcm : c = more := by
      have l1 := congrArg List.length a6
      rw [List.length_nil, List.length_drop, List.length_range] at l1
      omega
    subst hcm
    refine ground5 w m1 m3 (by omega) a8 a1 a2 (by omega) a3 fun g hg o2 ho2 => ?_
    obtain ⟨M2, s2, q2⟩ := q g hg o2 (ho2.le (by omega))
    exact ⟨M2, fun b u e => exWr a4 b u (s2 b u e), q2⟩
def spGround : DSp := fun ds M Q E => ∃ (h : Addr) (o : MO) (n : Int), ds = [.ref h] ∧ M h = some o ∧ Hob o n ∧ n < 2 ^ 36 ∧ ∀ g : Gr, GOk g → ∀ o', Hob o' (n + 200) → Q (gD g) (wr M h o')
theorem law_ground (ds : List D) (M : Mem) (Q : QE) (E : EX) (H : spGround ds M Q E) : wSs (tb [spTake, spOf, spWords] [] []) ir__law_ground (endB Q) E (startD 13 ds) M := by
  obtain ⟨h, o, n, rfl, hM, ho, hn, q⟩ := H
  have s24 : sizeLine = 2 ^ 24 := rfl
  unfold ir__law_ground
  walk_at "dl"
  refine take_ok hM ho (by omega) (by omega) (by omega) fun r1 o1 _ ho1 => ?_
  walk_at "dl"
  refine take_ok wr_same ho1 (by omega) (by omega) (by omega) fun r2 o2 hr2 ho2 => ?_
  rw [wr_wr]
  walk_at "dl"
  rw [show (1 : Int) + (r2 : Int) = ((1 + r2 : Nat) : Int) by omega]
  cases hg : decide ((r1 : Int) = 0) with
  | true =>
    walk_at "dl"
    refine ⟨by omega, ground2 (more := 8) (by omega) (by omega) (by omega) wr_same ho2 (by omega) fun g hg o' ho' => ?_⟩
    rw [wr_wr]
    exact ⟨_, fun _ _ e => e, q g hg o' (ho'.le (by omega))⟩
  | false =>
    walk_at "dl"
    refine take_ok wr_same ho2 (by omega) (by omega) (by omega) fun r3 o3 hr3 ho3 => ?_
    rw [wr_wr]
    refine ⟨by omega, ground2 (more := r3) (by omega) (by omega) (by omega) wr_same ho3 (by omega) fun g hg o' ho' => ?_⟩
    rw [wr_wr]
    exact ⟨_, fun _ _ e => e, q g hg o' (ho'.le (by omega))⟩
end K10

namespace K10
open PySem PySem.Spec PyProof.Rows L2 DL
local macro_rules | `(tactic| walk_at "dl") => `(tactic| simp only [wSs, wS, DL.wE, DL.wT, DL.wL, wEs, wO, wC, wI, wG, wGs, dSeq, dAsg, dPar, dIf, dDrop, dSlot, dC, CD.d, dBin, boR, coR, dSub, dMod, dFdiv, dTest, dChain, bQ, dNext, dRet, dRetN, dgName, dgSub, dgTup, dgCons, dgNil, dLst, dTup, dTupX, dCons, dNil, dIfE, dAndT, dOrT, dNotT, dAnd, dOr, dNot, dTruth, dTru_non, dTru_bl, dTru_int, dTru_str, dTru_tup, dTru_rl, dNeg, dSlice, dNoPart, dPart, dCall, dMt, dFnN, dMth, dFld, dSfl, dFz, dLcF, dNew, dNewD, dNewK, dLenK, dSliS, dSlS, dRevX, dgHead, dFrz, dForget, isTy, isIns, BF.rd, BT.rd, BM.rd, BM.ty, BF.rt, BT.rt, IEs.len, startD, getS, setS, wipeS, endB, tb, List.getD_cons_zero, List.getD_cons_succ, List.map_cons, List.map_nil, List.replicate, List.length_cons, List.length_nil, List.cons_append, List.nil_append, List.append_nil, dI_int, dAdd_int, dAdd_str, dAdd_tup, dIB_int, dLt_int, dLt_str, dEq_int, dEq_str, dNe_int, dNe_str, lenD_tup, lenD_rl, lenD_str, dMulA_int, dSl_str, ixN3_0, ixN3_1, ixN3_2, List.set_cons_zero, List.set_cons_succ, rAbs_int, rMin_int, rMax_int, rMin_str, rMax_str, dIx_wr, lenD_wr, atI_0, atI_1, atI_2, dIx_tup, dIx_rl, dIx_str, Option.some.injEq, exists_eq_left', decide_true, decide_false, eq_self, ite_true, ite_false, if_true, if_false, true_and, and_true, Bool.false_eq_true, Bool.not_true, Bool.not_false, Nat.reduceAdd, Nat.reduceSub, tTuple, tTupleX, dIs_non, dIs_bl, DL.isNon, dIn_str1, isi_str, isi_tup, isi_tx, isi_int, isi_rl, isi_bl, isi_non])
open PR
/-! bodies that are drawn -/
theorem lookup_ofG {α : Type} {xs : List (Str × α)} (hn : (xs.map Prod.fst).Nodup) {w : Str} {b : α} (h : (w, b) ∈ xs) : xs.lookup w = some b := by
  induction xs with
  | nil => cases h
  | cons p r ih =>
    obtain ⟨a, c⟩ := p
    rw [List.map_cons, List.nodup_cons] at hn
    rw [List.lookup_cons]
    rcases List.mem_cons.mp h with h2 | h2
    · cases h2
      rw [beq_self_eq_true]
    · have : (w == a) = false := beq_eq_false_iff_ne.mpr fun e => hn.1 (by rw [← e]; exact List.mem_map.mpr ⟨(w, b), h2, rfl⟩)
      rw [this]
      exact ih hn.2 h2
theorem lookup_no {α : Type} {xs : List (Str × α)} {w : Str} (h : w ∉ xs.map Prod.fst) : xs.lookup w = none := by
  cases e : xs.lookup w with
  | none => rfl
  | some b => exact absurd (List.mem_map.mpr ⟨_, lookup_in e, rfl⟩) h
theorem mak_name {g : Gr} (ok : g.Ok) {w k : Str} (h : (w, k) ∈ g.names) : g.mak w = some (k, []) := by
  have un := ok.un
  rw [List.nodup_append, List.nodup_append] at un
  unfold Gr.mak
  rw [lookup_ofG un.2.1.2.1 h]
theorem mak_shape {g : Gr} (ok : g.Ok) {s : Str × Str × List Str} (h : s ∈ g.shapes) : g.mak s.1 = some (s.2.1, s.2.2) := by
  have un := ok.un
  rw [List.nodup_append, List.nodup_append] at un
  unfold Gr.mak
  rw [lookup_no (fun e => un.2.1.2.2 _ (List.mem_map_of_mem h) _ e rfl), lookup_ofG un.2.1.1 (w := s.1) (b := s.2) h]
theorem name_body {g : Gr} (ok : g.Ok) {w k : Str} (h : (w, k) ∈ g.names) : g.IsBody k [w] := ⟨w, [], [], rfl, mak_name ok h, reads_nil g⟩
theorem good_shD (s : Str × Str × List Str) (n : Nat) : good (shD' s) (n + 2) = true := by
  unfold shD' good goodL
  simp only [good, goodL, tS, Bool.true_and, Bool.and_true]
  exact goodL_strs
def spBody (r : Nat) : DSp := fun ds M Q E => ∃ (h : Addr) (o : MO) (n : Int) (g : Gr) (k : Str) (room : Nat), ds = [.ref h, gD g, .str k, .int room] ∧ room ≤ r ∧ 1 ≤ room ∧ room ≤ 1000 ∧ GOk g ∧ k ∈ g.kinds ∧ M h = some o ∧ Hob o n ∧ n + 3 * room < 2 ^ 36 ∧
  ∀ b, g.IsBody k b → b.length ≤ room → ∀ o', Hob o' (n + 3 * room) → Q (tS b) (wr M h o')
theorem law_body (r : Nat) (ds : List D) (M : Mem) (Q : QE) (E : EX) (H : spBody (r + 1) ds M Q E) : wSs (tb [spBody r, spOf, spTake] [] []) ir__law_body (endB Q) E (startD 13 ds) M := by
  obtain ⟨h, o, n, g, k, room, rfl, hr, hr1, hr2, hg, hk, hM, ho, hn, q⟩ := H
  have s24 : sizeLine = 2 ^ 24 := rfl
  obtain ⟨ok, hnm, hk3, hs10, hn12⟩ := hg
  unfold ir__law_body
  walk_at "dl"
  refine lcT g.shapes shD' (fun s => decide (s.2.1 = k) && decide ((s.2.2.length : Int) < room)) shD' (fun R h => by
    unfold diAny gD
    walk_at "dl"
    exact h (fun _ => True) trivial) (by omega) (fun s hs K N h1 h2 => ?_) ?_
  · unfold shD' at h1 ⊢
    unfold tS at h1 ⊢
    walk_at "dl"
    rw [List.length_map]
    by_cases c1 : s.2.1 = k
    · by_cases c2 : (s.2.2.length : Int) < room
      · rw [decide_eq_true c1, decide_eq_true c2] at h1 ⊢
        walk_at "dl"
        exact h1 rfl
      · rw [decide_eq_true c1, decide_eq_false c2] at h2 ⊢
        walk_at "dl"
        exact h2 rfl
    · rw [decide_eq_false c1] at h2 ⊢
      walk_at "dl"
      exact h2 rfl
  generalize hSS : g.shapes.filter (fun s => decide (s.2.1 = k) && decide ((s.2.2.length : Int) < room)) = SS
  have hSm : ∀ s ∈ SS, s ∈ g.shapes ∧ s.2.1 = k ∧ s.2.2.length < room := fun s hs => by
    rw [← hSS, List.mem_filter, Bool.and_eq_true, decide_eq_true_eq, decide_eq_true_eq] at hs
    exact ⟨hs.1, hs.2.1, by omega⟩
  have hSl : SS.length ≤ 10 := by
    rw [← hSS]
    exact Nat.le_trans (List.length_filter_le _ _) hs10
  refine lcT g.names nmD (fun x => decide (x.2 = k)) (fun x => .str x.1) (fun R h => by
    unfold diAny gD
    walk_at "dl"
    exact h (fun _ => True) trivial) (by omega) (fun x hx K N h1 h2 => ?_) ?_
  · unfold nmD
    walk_at "dl"
    by_cases c1 : x.2 = k
    · rw [decide_eq_true c1] at h1 ⊢
      walk_at "dl"
      exact h1 rfl
    · rw [decide_eq_false c1] at h2 ⊢
      walk_at "dl"
      exact h2 rfl
  generalize hNN : g.names.filter (fun x => decide (x.2 = k)) = NN
  have hNm : ∀ x ∈ NN, (x.1, k) ∈ g.names := fun x hx => by
    rw [← hNN, List.mem_filter, decide_eq_true_eq] at hx
    rw [← hx.2]
    exact hx.1
  have hNe : NN ≠ [] := fun e => by
    obtain ⟨x, hx, ex⟩ := hnm k hk
    have : x ∈ NN := by rw [← hNN]; exact List.mem_filter.mpr ⟨hx, decide_eq_true ex⟩
    rw [e] at this
    cases this
  have hNl : NN.length ≤ 12 := by
    rw [← hNN]
    exact Nat.le_trans (List.length_filter_le _ _) hn12
  clear hSS hNN
  have leaf : ∀ (o1 : MO) (n1 : Int) (M1 : Mem), M1 = wr M h o1 → Hob o1 n1 → n1 ≤ n + 1 → spOf [.ref h, .rl (NN.map fun x => .str x.1)] M1 (fun x M1 => 1 ≤ sizeLine ∧ ∃ M2, DL.Sub M2 M1 ∧ Q (.tup [x]) M2) E := fun o1 n1 M1 e1 ho1 hn1 => by
    subst e1
    refine of_ok NN (fun x => D.str x.1) wr_same ho1 hNe (by omega) (by omega) fun x hx o2 ho2 => ⟨by omega, _, fun _ _ e => e, ?_⟩
    rw [wr_wr]
    exact q [x.1] (name_body ok (hNm x hx)) (by simpa using hr1) o2 (ho2.le (by omega))
  refine ⟨Nat.zero_le _, fun p1 hp1 => ⟨_, wr_same, ?_⟩⟩
  rw [mdel_wr hp1]
  refine dEq_rl0 (goodL_all.mpr fun x hx => ?_) ?_
  · obtain ⟨s, _, rfl⟩ := List.mem_map.mp hx
    exact good_shD s _
  cases hE : SS with
  | nil =>
    rw [List.map_nil, List.isEmpty_nil]
    walk_at "dl"
    exact leaf o n M (wr_id hM).symm ho (by omega)
  | cons S0 SR =>
  rw [← hE]
  have e1 : (SS.map shD').isEmpty = false := by rw [hE]; rfl
  rw [e1]
  walk_at "dl"
  refine take_ok hM ho (by omega) (by omega) (by omega) fun r3 o1 hr3 ho1 => ?_
  rw [dEq_int]
  cases hz : decide ((r3 : Int) = 0) with
  | true =>
    walk_at "dl"
    exact leaf o1 _ _ rfl ho1 (by omega)
  | false =>
  walk_at "dl"
  refine of_ok SS shD' wr_same ho1 (by rw [hE]; simp) (by omega) (by omega) fun s hs o2 ho2 => ?_
  obtain ⟨s1, s2, s3⟩ := hSm s hs
  have hprt := (ok.sw s s1).2.2
  rw [wr_wr]
  unfold shD' tS
  walk_at "dl"
  refine ⟨by omega, ?_⟩
  generalize hps : s.2.2 = ps at s3 hprt
  have hmk : g.mak s.1 = some (k, ps) := by rw [mak_shape ok s1, s2, hps]
  obtain ⟨x4, hx4⟩ : ∃ x, x = some (D.rl (SS.map fun s => D.tup [D.str s.1, D.str s.2.1, D.tup (s.2.2.map D.str)])) := ⟨_, rfl⟩
  obtain ⟨x5, hx5⟩ : ∃ x, x = some (D.rl (NN.map fun x => D.str x.1)) := ⟨_, rfl⟩
  rw [← hx4, ← hx5]
  unfold lp__law_body_0
  walk_at "dl"
  refine forI ps D.str (fun rest e' M' => ∃ (o' : MO) (pre b : List Str) (y7 : Option D), e' = [some (.ref h), some (gD g), some (.str k), some (.int room), x4, x5, some (tS (s.1 :: b)), y7, some (.str s.1), some (.str s.2.1), some (.tup (ps.map D.str)), none, none] ∧
      M' = wr M h o' ∧ ps = pre ++ rest ∧ g.Reads pre b ∧ b.length ≤ pre.length * ((room - 1) / ps.length) ∧ Hob o' (n + 2 + 3 * (pre.length * ((room - 1) / ps.length) : Nat))) (fun R h => by
    unfold diAny
    walk_at "dl"
    exact h (fun _ => True) fun _ _ _ _ => trivial) ⟨o2, [], [], none, rfl, rfl, rfl, reads_nil g, Nat.zero_le _, by simpa [Int.add_assoc] using ho2⟩ ?_ ?_
  · rintro p rest e' M' _ ⟨o', pre, b, y7, rfl, rfl, hpp, hrd, hbl, ho'⟩
    have hL : 1 ≤ ps.length := by rw [hpp, List.length_append, List.length_cons]; omega
    have hq1 : 1 ≤ (room - 1) / ps.length := Nat.div_pos (by omega) hL
    have hq2 : (room - 1) / ps.length ≤ room - 1 := Nat.div_le_self _ _
    have hq3 : ps.length * ((room - 1) / ps.length) ≤ room - 1 := Nat.mul_div_le _ _
    have hpre : pre.length + 1 ≤ ps.length := by rw [hpp, List.length_append, List.length_cons]; omega
    have hmul : (pre.length + 1) * ((room - 1) / ps.length) ≤ ps.length * ((room - 1) / ps.length) := Nat.mul_le_mul_right _ hpre
    have eq0 : ((room : Int) - 1) / (ps.length : Int) = (((room - 1) / ps.length : Nat) : Int) := by
      rw [Int.natCast_ediv]
      congr 1
      omega
    rw [Nat.succ_mul] at hmul
    walk_at "dl"
    rw [List.length_map, eq0]
    generalize (room - 1) / ps.length = q0 at *
    refine ⟨⟨by omega, by omega⟩, h, o', _, g, p, q0, rfl, by omega, hq1, by omega, ⟨ok, hnm, hk3, hs10, hn12⟩, hprt.2 p (by rw [hpp]; simp), wr_same, ho', by omega, fun b2 hb2 hl2 o3 ho3 => ?_⟩
    rw [wr_wr]
    unfold tS
    walk_at "dl"
    refine ⟨?_, o3, pre ++ [p], b ++ b2, some (.str p), ?_, rfl, by rw [hpp]; simp, reads_snoc hrd hb2, ?_, ?_⟩
    · simp only [List.length_map, List.length_cons]
      omega
    · simp
    · rw [List.length_append, List.length_append, List.length_singleton, Nat.succ_mul]
      omega
    · rw [List.length_append, List.length_singleton, Nat.succ_mul]
      exact ho3.le (by push_cast; omega)
  · rintro e' M' ⟨o', pre, b, y7, rfl, rfl, hpp, hrd, hbl, ho'⟩
    rw [List.append_nil] at hpp
    subst hpp
    have hq3 : ps.length * ((room - 1) / ps.length) ≤ room - 1 := Nat.mul_div_le _ _
    walk_at "dl"
    refine ⟨_, fun _ _ e => e, q (s.1 :: b) ⟨s.1, b, ps, rfl, hmk, hrd⟩ ?_ o' (ho'.le ?_)⟩
    · rw [List.length_cons]; omega
    · omega
end K10

namespace K10
open PySem PySem.Spec PyProof.Rows L2 DL
local macro_rules | `(tactic| walk_at "dl") => `(tactic| simp only [wSs, wS, DL.wE, DL.wT, DL.wL, wEs, wO, wC, wI, wG, wGs, dSeq, dAsg, dPar, dIf, dDrop, dSlot, dC, CD.d, dBin, boR, coR, dSub, dMod, dFdiv, dTest, dChain, bQ, dNext, dRet, dRetN, dgName, dgSub, dgTup, dgCons, dgNil, dLst, dTup, dTupX, dCons, dNil, dIfE, dAndT, dOrT, dNotT, dAnd, dOr, dNot, dTruth, dTru_non, dTru_bl, dTru_int, dTru_str, dTru_tup, dTru_rl, dNeg, dSlice, dNoPart, dPart, dCall, dMt, dFnN, dMth, dFld, dSfl, dFz, dLcF, dNew, dNewD, dNewK, dLenK, dSliS, dSlS, dRevX, dgHead, dFrz, dForget, isTy, isIns, BF.rd, BT.rd, BM.rd, BM.ty, BF.rt, BT.rt, IEs.len, startD, getS, setS, wipeS, endB, tb, List.getD_cons_zero, List.getD_cons_succ, List.map_cons, List.map_nil, List.replicate, List.length_cons, List.length_nil, List.cons_append, List.nil_append, List.append_nil, dI_int, dAdd_int, dAdd_str, dAdd_tup, dIB_int, dLt_int, dLt_str, dEq_int, dEq_str, dNe_int, dNe_str, lenD_tup, lenD_rl, lenD_str, dMulA_int, dSl_str, ixN3_0, ixN3_1, ixN3_2, List.set_cons_zero, List.set_cons_succ, rAbs_int, rMin_int, rMax_int, rMin_str, rMax_str, dIx_wr, lenD_wr, atI_0, atI_1, atI_2, dIx_tup, dIx_rl, dIx_str, Option.some.injEq, exists_eq_left', decide_true, decide_false, eq_self, ite_true, ite_false, if_true, if_false, true_and, and_true, Bool.false_eq_true, Bool.not_true, Bool.not_false, Nat.reduceAdd, Nat.reduceSub, tTuple, tTupleX, dIs_non, dIs_bl, DL.isNon, dIn_str1, isi_str, isi_tup, isi_tx, isi_int, isi_rl, isi_bl, isi_non])
open PR
/-! theories made, and the pairs that are drawn -/
def spTheory (C : Addr) : DSp := fun ds M Q E => ∃ g : Gr, ds = [g.kD, g.sD, g.nD] ∧ g.Ok ∧ ∀ (t : Addr) M', M t = none → ThAt C M' t g [] → DL.Sub M M' → Q (.ref t) M'
def spMkTh (C : Addr) : DSp := fun ds M Q E => ∃ g : Gr, ds = [gD g] ∧ g.Ok ∧ ∀ (t : Addr) M', M t = none → ThAt C M' t g [] → DL.Sub M M' → Q (.ref t) M'
theorem law_theory (C : Addr) (ds : List D) (M : Mem) (Q : QE) (E : EX) (H : spMkTh C ds M Q E) : wSs (tb [spTheory C] [] []) ir__law_theory (endB Q) E (startD 1 ds) M := by
  obtain ⟨g, rfl, ok, q⟩ := H
  unfold ir__law_theory gD
  walk_at "dl"
  exact ⟨g, rfl, ok, fun t M' h1 h2 h3 => ⟨M', fun _ _ e => e, q t M' h1 h2 h3⟩⟩
theorem theory_make (C : Addr) {ds cs : List D} {M : Mem} {Q : QE} {E : EX} (hd : ds.length = 3) (hc : cs.length = 0) (h : spTheory C (ds ++ cs) M Q E) (x : Addr) (hx : M x = none) : spInit C (.ref x :: (ds ++ [.non])) (wr M x (.ins C [])) (fun v M' => v = .non ∧ Q (.ref x) M') E := by
  have : cs = [] := List.length_eq_zero_iff.mp hc
  subst this
  rw [List.append_nil] at h
  obtain ⟨g, rfl, ok, q⟩ := h
  refine ⟨x, g, rfl, ok, wr_same, fun M' h1 h2 => ⟨rfl, q x M' hx h1 fun a o e => ?_⟩⟩
  have ne : a ≠ x := fun z => by subst z; rw [hx] at e; cases e
  exact h2 a o ne (by rw [wr_ne ne]; exact e)
def PutsOk (g : Gr) (room : Nat) (P : List (Str × List Str)) : Prop := g.Puts P ∧ P.length ≤ 12 ∧ ∀ p ∈ P, p.2.length ≤ room
def spPuts : DSp := fun ds M Q E => ∃ (h : Addr) (o : MO) (n : Int) (g : Gr) (room : Nat), ds = [.ref h, gD g, .int room] ∧ 1 ≤ room ∧ room ≤ 20 ∧ GOk g ∧ M h = some o ∧ Hob o n ∧ n < 2 ^ 35 ∧ ∀ P, PutsOk g room P → ∀ o', Hob o' (n + 40000) → Q (.tx (P.map ptD)) (wr M h o')
theorem called_merge {g : Gr} (ok : g.Ok) : mergeG [] (g.names.map fun x => ((.inr x.1 : Key), D.str x.2)) = g.called := by
  have un := ok.un
  rw [List.nodup_append, List.nodup_append] at un
  refine mergeG_nodup ?_
  have : ((([] : List (Key × D)) ++ g.names.map fun x => ((.inr x.1 : Key), D.str x.2)).map (·.1)) = (g.names.map (·.1)).map Sum.inr := by
    rw [List.nil_append, List.map_map, List.map_map]; rfl
  rw [this]
  exact List.pairwise_map.mpr (un.2.1.2.1.imp fun ne e => ne (by injection e))
theorem puts2 {h pG : Addr} {o : MO} {n : Int} {g : Gr} {room : Nat} {x2 x3 x4 x6 x7 x8 x9 x10 x11 x12 : Option D} {P : List (Str × List Str)} {M : Mem} {Q : QE} {E : EX} (hg : GOk g) (hr : 1 ≤ room) (hM : M h = some o) (ho : Hob o n) (hn : n < 2 ^ 36) (hP : M pG = some (.lst (P.map ptD))) (ok : PutsOk g room P)
    (q : ∀ P, PutsOk g room P → ∀ o', Hob o' (n + 1) → ∃ M2, DL.Sub M2 (wr (wr M h o') pG (.lst (P.map ptD))) ∧ Q (.tx (P.map ptD)) M2) :
    wSs (tb [spTake, spBody 20] [] []) ct__law_puts_2 (endB Q) E [some (.ref h), some (gD g), x2, x3, x4, some (.ref pG), x6, x7, x8, x9, x10, x11, x12] M := by
  have s24 : sizeLine = 2 ^ 24 := rfl
  obtain ⟨gok, hnm, hk3, hs10, hn12⟩ := hg
  have nph : pG ≠ h := lst_ne ho hM hP fun x hx i e => by
    obtain ⟨y, _, rfl⟩ := List.mem_map.mp hx
    cases e
  have hwP : ∀ o', wr (wr M h o') pG (.lst (P.map ptD)) = wr M h o' := fun o' => wr_id (by rw [wr_ne nph]; exact hP)
  unfold ct__law_puts_2
  walk_at "dl"
  rw [lenD_ref hP, List.length_map]
  by_cases hl : (1 : Int) < (P.length : Int)
  · repeat first | walk_at "dl" | simp only [hl, dLt_int]
    refine take_ok hM ho (by omega) (by omega) (by omega) fun r o1 hr3 ho1 => ?_
    rw [dEq_int]
    have hP1 : wr M h o1 pG = some (.lst (P.map ptD)) := by rw [wr_ne nph]; exact hP
    cases hz : decide ((r : Int) = 0) with
    | false =>
      walk_at "dl"
      refine ⟨_, hP1, ?_⟩
      have := q P ok o1 ho1
      rw [hwP] at this
      exact this
    | true =>
      obtain ⟨⟨pn, pk⟩, pl, pr⟩ := ok
      match P, hl, hP, hP1, pn, pk, pl, pr, hwP, q with
      | p1 :: p2 :: PR, hl, hP, hP1, pn, pk, pl, pr, hwP, q =>
      unfold gD Gr.nD
      walk_at "dl"
      refine ⟨g.names.map fun x => (.inr x.1, .str x.2), ?_, fun pd hpd => ?_⟩
      · rw [List.map_map]; rfl
      rw [called_merge gok]
      have npd : pG ≠ pd := fun z => by subst z; rw [hP1] at hpd; cases hpd
      refine ⟨_, by rw [wr_ne npd]; exact hP1, fun p4 hp4 => ⟨_, wr_same, ?_⟩⟩
      rw [mdel_wr hp4]
      have hcut : cutG ((p1 :: p2 :: PR).map ptD) none (some 2) = [ptD p1, ptD p2] := by
        unfold cutG
        rw [HT.sIx_none, show (2 : Int) = ((2 : Nat) : Int) by rfl, HT.sIx_nat, Nat.min_eq_left (by simp)]
        rfl
      rw [hcut]
      obtain ⟨k1, l1, b1⟩ := pk p1 (by simp)
      obtain ⟨k2, l2, b2⟩ := pk p2 (by simp)
      unfold ptD
      walk_at "dl"
      rw [dIx_dict wr_same (k := .inr p1.1) (d := .str k1) rfl (by rw [called_val, l1]; rfl), dIx_dict wr_same (k := .inr p2.1) (d := .str k2) rfl (by rw [called_val, l2]; rfl), dEq_str]
      have hpG1 : wr (wr M h o1) pd (.dK g.called) pG = some (.lst ((p1 :: p2 :: PR).map ptD)) := by rw [wr_ne npd]; exact hP1
      by_cases hk : k1 = k2
      · subst hk
        rw [decide_eq_true rfl]
        walk_at "dl"
        refine ⟨by omega, by omega, by omega, by omega, by omega, fun p5 hp5 => ⟨_, wr_same, ?_⟩⟩
        rw [mdel_wr hp5]
        have gm : ∀ {w k : Str}, g.names.lookup w = some k → g.IsBody k [w] := fun e => name_body gok (lookup_in e)
        have ok' : PutsOk g room ((p1.1, [p2.1]) :: (p2.1, [p1.1]) :: PR) := by
          refine ⟨⟨pn, fun p hp => ?_⟩, pl, fun p hp => ?_⟩
          · rcases List.mem_cons.mp hp with rfl | hp
            · exact ⟨k1, l1, gm l2⟩
            rcases List.mem_cons.mp hp with rfl | hp
            · exact ⟨k1, l2, gm l1⟩
            · exact pk p (by simp [hp])
          · rcases List.mem_cons.mp hp with rfl | hp
            · exact hr
            rcases List.mem_cons.mp hp with rfl | hp
            · exact hr
            · exact pr p (by simp [hp])
        refine ⟨_, hpG1, by omega, by simp; omega, by simp at pl ⊢; omega, _, wr_same, ?_⟩
        obtain ⟨M2, s2, q2⟩ := q _ ok' o1 ho1
        refine ⟨M2, fun b u e => ?_, q2⟩
        have e2 := s2 b u e
        by_cases hb : b = pG
        · subst hb
          rw [wr_same] at e2 ⊢
          exact e2
        · rw [wr_ne hb] at e2 ⊢
          have b1 : b ≠ pd := fun z => by subst z; rw [hpd] at e2; cases e2
          rw [wr_ne b1]
          exact e2
      · rw [decide_eq_false hk]
        walk_at "dl"
        refine ⟨_, hpG1, ?_⟩
        obtain ⟨M2, s2, q2⟩ := q _ ⟨⟨pn, pk⟩, pl, pr⟩ o1 ho1
        rw [hwP] at s2
        refine ⟨M2, fun b u e => ?_, q2⟩
        have e2 := s2 b u e
        have b1 : b ≠ pd := fun z => by subst z; rw [hpd] at e2; cases e2
        rw [wr_ne b1]
        exact e2
  · repeat first | walk_at "dl" | simp only [hl, dLt_int]
    refine ⟨_, hP, ?_⟩
    have := q P ok o (ho.le (by omega))
    rw [hwP, wr_id hM] at this
    exact this
theorem law_puts (ds : List D) (M : Mem) (Q : QE) (E : EX) (H : spPuts ds M Q E) : wSs (tb [spTake, spBody 20] [] []) ir__law_puts (endB Q) E (startD 13 ds) M := by
  obtain ⟨h, o, n, g, room, rfl, hr, hr2, hg, hM, ho, hn, q⟩ := H
  have s24 : sizeLine = 2 ^ 24 := rfl
  obtain ⟨gok, hnm, hk3, hs10, hn12⟩ := id hg
  unfold ir__law_puts gD Gr.nD
  walk_at "dl"
  refine fun pL hpL => ⟨by decide, fun pG hpG => ?_⟩
  have nLh : pL ≠ h := fun z => by subst z; rw [hM] at hpL; cases hpL
  obtain ⟨nGL, hpG⟩ := wr_fresh hpG
  have nGh : pG ≠ h := fun z => by subst z; rw [hM] at hpG; cases hpG
  have hML : wr (wr M pL (.lst (g.names.map nmD))) pG (.lst []) pL = some (.lst (g.names.map nmD)) := by rw [wr_ne nGL.symm]; exact wr_same
  unfold lp__law_puts_1
  walk_at "dl"
  refine forGo ?_
  unfold diRng1
  walk_at "dl"
  rw [lenD_ref hML, List.length_map]
  walk_at "dl"
  refine take_ok (by rw [wr_ne nGh.symm, wr_ne nLh.symm]; exact hM) ho (by omega) (by omega) (by omega) fun m o1 hm ho1 => ⟨⟨by omega, by omega⟩, ?_⟩
  rw [Int.toNat_natCast, rng0]
  refine forK (List.range m) (fun i : Nat => D.int (i : Int)) (fun r e' M' => ∃ (o' : MO) (L : List (Str × Str)) (P : List (Str × List Str)) (used : List (Str × Str)) (y3 y7 y8 : Option D), e' = [some (.ref h), some (.tup [g.kD, g.sD, .tx (g.names.map nmD)]), some (.int room), y3, some (.ref pL), some (.ref pG), none, y7, y8, none, none, none, none] ∧
      M' h = some o' ∧ Hob o' (n + 1 + P.length * 100) ∧ M' pL = some (.lst (L.map nmD)) ∧ M' pG = some (.lst (P.map ptD)) ∧ Ex h M M' ∧ r.length + P.length = m ∧ (used ++ L).Perm g.names ∧ P.map Prod.fst = used.map Prod.fst ∧ ∀ p ∈ P, ∃ k, (p.1, k) ∈ g.names ∧ g.IsBody k p.2 ∧ p.2.length ≤ room) (fun _ _ _ _ => trivial)
      ⟨o1, g.names, [], [], none, none, none, rfl, wr_same, by simpa using ho1, by rw [wr_ne nLh]; exact hML, by rw [wr_ne nGh]; exact wr_same, fun b u hb e => ?_, by simp, .refl _, rfl, by simp⟩ ?_ ?_
  · have b1 : b ≠ pL := fun z => by subst z; rw [hpL] at e; cases e
    have b2 : b ≠ pG := fun z => by subst z; rw [hpG] at e; cases e
    rw [wr_ne hb, wr_ne b2, wr_ne b1]; exact e
  · rintro i r e' M' _ ⟨o', L, P, used, y3, y7, y8, rfl, a1, a2, a3, a4, a5, a6, a7, a8, a9⟩
    have hul : used.length = P.length := by
      have := congrArg List.length a8
      rw [List.length_map, List.length_map] at this
      exact this.symm
    have hLl : used.length + L.length = g.names.length := by
      have := a7.length_eq
      rwa [List.length_append] at this
    rw [List.length_cons] at a6
    walk_at "dl"
    rw [lenD_ref a3, List.length_map]
    have hLp : 0 < L.length := by omega
    refine ⟨.inl ⟨_, a3⟩, take_ok a1 a2 (by omega) (by omega) (by omega) fun j o2 hj ho2 => ?_⟩
    have hj : j < L.length := by omega
    have hLn : L[j] ∈ g.names := a7.mem_iff.mp (List.mem_append_right _ (List.getElem_mem hj))
    have nk : L[j].2 ∈ g.kinds := (gok.nw _ hLn).2
    refine ⟨L.map nmD, j, nmD L[j], by rw [wr_ne nLh]; exact a3, by omega, by omega, seqIx_nat (by rw [List.length_map]; exact hj), by rw [List.getElem?_map, List.getElem?_eq_getElem hj]; rfl, ?_⟩
    unfold nmD
    have a4' : wr (wr M' h o2) pL (.lst ((L.map nmD).eraseIdx j)) pG = some (.lst (P.map ptD)) := by rw [wr_ne nGL, wr_ne nGh]; exact a4
    refine ⟨rfl, .inl ⟨_, a4'⟩, h, o2, _, g, L[j].2, room, rfl, hr2, hr, by omega, hg, nk, by rw [wr_ne nLh.symm]; exact wr_same, ho2, by omega, fun b hb hbl o3 ho3 => ⟨by omega, ?_⟩⟩
    have a4'' : wr (wr (wr M' h o2) pL (.lst ((L.map nmD).eraseIdx j))) h o3 pG = some (.lst (P.map ptD)) := by rw [wr_ne nGh]; exact a4'
    refine ⟨_, a4'', by rw [List.length_map]; omega, o3, L.eraseIdx j, P ++ [(L[j].1, b)], used ++ [L[j]], _, _, _, rfl, ?_, ?_, ?_, ?_, ?_, ?_, ?_, ?_, ?_⟩
    · rw [wr_ne nGh.symm]; exact wr_same
    · rw [List.length_append, List.length_singleton]
      exact ho3.le (by push_cast; omega)
    · rw [wr_ne nGL.symm, wr_ne nLh, wr_same, ers]
    · rw [wr_same]; simp [ptD]
    · intro b' u hb' e
      have b1 : b' ≠ pL := fun z => by subst z; rw [hpL] at e; cases e
      have b2 : b' ≠ pG := fun z => by subst z; rw [hpG] at e; cases e
      rw [wr_ne b2, wr_ne hb', wr_ne b1, wr_ne hb']
      exact a5 b' u hb' e
    · rw [List.length_append, List.length_singleton]; omega
    · refine List.Perm.trans ?_ a7
      rw [List.append_assoc]
      exact List.Perm.append_left _ (erp L j hj)
    · rw [List.map_append, List.map_append, a8]; rfl
    · intro p hp
      rcases List.mem_append.mp hp with hp | hp
      · exact a9 p hp
      · rw [List.mem_singleton] at hp
        subst hp
        exact ⟨L[j].2, hLn, hb, hbl⟩
  · rintro e' M' ⟨o', L, P, used, y3, y7, y8, rfl, a1, a2, a3, a4, a5, a6, a7, a8, a9⟩
    have un := gok.un
    rw [List.nodup_append, List.nodup_append] at un
    have hul : used.length = P.length := by
      have := congrArg List.length a8
      rw [List.length_map, List.length_map] at this
      exact this.symm
    have hLl : used.length + L.length = g.names.length := by
      have := a7.length_eq
      rwa [List.length_append] at this
    refine puts2 hg hr a1 a2 (by omega) a4 ⟨⟨?_, fun p hp => ?_⟩, by omega, fun p hp => ?_⟩ fun P' hP' o2 ho2 => ?_
    · rw [a8]
      have := ((a7.map Prod.fst).nodup_iff).mpr un.2.1.2.1
      rw [List.map_append, List.nodup_append] at this
      exact this.1
    · obtain ⟨k, k1, k2, k3⟩ := a9 p hp
      exact ⟨k, lookup_ofG un.2.1.2.1 k1, k2⟩
    · obtain ⟨k, k1, k2, k3⟩ := a9 p hp
      exact k3
    · refine ⟨_, fun b u e => ?_, q P' hP' o2 (ho2.le (by omega))⟩
      by_cases hb : b = h
      · subst hb
        rw [wr_same] at e
        rw [wr_ne nGh.symm, wr_same]
        exact e
      · rw [wr_ne hb] at e
        have b2 : b ≠ pG := fun z => by subst z; rw [hpG] at e; cases e
        rw [wr_ne b2, wr_ne hb]
        exact a5 b u hb e
end K10

namespace K10
open PySem PySem.Spec PyProof.Rows L2 DL
local macro_rules | `(tactic| walk_at "dl") => `(tactic| simp only [wSs, wS, DL.wE, DL.wT, DL.wL, wEs, wO, wC, wI, wG, wGs, dSeq, dAsg, dPar, dIf, dDrop, dSlot, dC, CD.d, dBin, boR, coR, dSub, dMod, dFdiv, dTest, dChain, bQ, dNext, dRet, dRetN, dgName, dgSub, dgTup, dgCons, dgNil, dLst, dTup, dTupX, dCons, dNil, dIfE, dAndT, dOrT, dNotT, dAnd, dOr, dNot, dTruth, dTru_non, dTru_bl, dTru_int, dTru_str, dTru_tup, dTru_rl, dNeg, dSlice, dNoPart, dPart, dCall, dMt, dFnN, dMth, dFld, dSfl, dFz, dLcF, dNew, dNewD, dNewK, dLenK, dSliS, dSlS, dRevX, dgHead, dFrz, dForget, isTy, isIns, BF.rd, BT.rd, BM.rd, BM.ty, BF.rt, BT.rt, IEs.len, startD, getS, setS, wipeS, endB, tb, List.getD_cons_zero, List.getD_cons_succ, List.map_cons, List.map_nil, List.replicate, List.length_cons, List.length_nil, List.cons_append, List.nil_append, List.append_nil, dI_int, dAdd_int, dAdd_str, dAdd_tup, dIB_int, dLt_int, dLt_str, dEq_int, dEq_str, dNe_int, dNe_str, lenD_tup, lenD_rl, lenD_str, dMulA_int, dSl_str, ixN3_0, ixN3_1, ixN3_2, List.set_cons_zero, List.set_cons_succ, rAbs_int, rMin_int, rMax_int, rMin_str, rMax_str, dIx_wr, lenD_wr, atI_0, atI_1, atI_2, dIx_tup, dIx_rl, dIx_str, Option.some.injEq, exists_eq_left', decide_true, decide_false, eq_self, ite_true, ite_false, if_true, if_false, true_and, and_true, Bool.false_eq_true, Bool.not_true, Bool.not_false, Nat.reduceAdd, Nat.reduceSub, tTuple, tTupleX, dIs_non, dIs_bl, DL.isNon, dIn_str1, isi_str, isi_tup, isi_tx, isi_int, isi_rl, isi_bl, isi_non])
open PR
/-! what putting in should give -/
theorem dAdd_rl {xs ys : List D} {M : Mem} {Q : QE} : dAdd (.rl xs) (.rl ys) M Q ↔ xs.length + ys.length ≤ sizeLine ∧ ∀ p, M p = none → Q (.ref p) (wr M p (.lst (xs ++ ys))) := Iff.rfl
def spPut : DSp := fun ds M Q E => ∃ (ws : List Str) (P : List (Str × List Str)), ds = [tS ws, .tx (P.map ptD)] ∧ P.length ≤ 1000 ∧ (PR.putIn P ws).length ≤ 100000 ∧ Q (tS (PR.putIn P ws)) M
theorem law_put (S : Tb) (ds : List D) (M : Mem) (Q : QE) (E : EX) (H : spPut ds M Q E) : wSs S ir__law_put (endB Q) E (startD 7 ds) M := by
  obtain ⟨ws, P, rfl, hP, hl, q⟩ := H
  have s24 : sizeLine = 2 ^ 24 := rfl
  unfold ir__law_put
  walk_at "dl"
  refine ⟨Nat.zero_le _, fun p hp => ⟨_, wr_same, ?_⟩⟩
  rw [mdel_wr hp]
  unfold lp__law_put_0
  walk_at "dl"
  refine forI ws D.str (fun r e' M' => ∃ (pre : List Str) (y3 y4 y5 y6 : Option D), e' = [some (tS ws), some (.tx (P.map ptD)), some (.rl ((PR.putIn P pre).map D.str)), y3, y4, y5, y6] ∧ M' = M ∧ ws = pre ++ r) (fun R h => by
    unfold diAny tS
    walk_at "dl"
    exact h (fun _ => True) fun _ _ _ _ => trivial) ⟨[], none, none, none, none, rfl, rfl, rfl⟩ ?_ ?_
  · rintro w r e' M' _ ⟨pre, y3, y4, y5, y6, rfl, rfl, hw⟩
    have epi : PR.putIn P (pre ++ [w]) = PR.putIn P pre ++ (P.lookup w).getD [w] := by
      unfold PR.putIn
      rw [List.flatMap_append]
      simp
    have hlen : (PR.putIn P pre).length + ((P.lookup w).getD [w]).length ≤ 100000 := by
      have : PR.putIn P ws = PR.putIn P (pre ++ [w]) ++ PR.putIn P r := by
        rw [hw]
        unfold PR.putIn
        simp
      rw [this, List.length_append, epi, List.length_append] at hl
      omega
    walk_at "dl"
    refine lcT P ptD (fun p => decide (p.1 = w)) (fun p => tS p.2) (fun R h => by
      unfold diAny
      walk_at "dl"
      exact h (fun _ => True) trivial) (by omega) (fun p hp K N h1 h2 => ?_) ?_
    · unfold ptD
      walk_at "dl"
      by_cases c : p.1 = w
      · rw [decide_eq_true c] at h1 ⊢
        walk_at "dl"
        exact h1 rfl
      · rw [decide_eq_false c] at h2 ⊢
        walk_at "dl"
        exact h2 rfl
    · have hh := lookup_head (pairs := P) (w := w)
      generalize P.filter (fun p => decide (p.1 = w)) = F at hh ⊢
      refine ⟨Nat.zero_le _, fun p1 hp1 => ⟨_, wr_same, ?_⟩⟩
      rw [mdel_wr hp1]
      refine dNe_rl0 (goodL_all.mpr fun x hx => ?_) ?_
      · obtain ⟨y, _, rfl⟩ := List.mem_map.mp hx
        show good (.tup (y.2.map D.str)) 63 = true
        unfold good
        exact goodL_strs
      cases hF : P.lookup w with
      | none =>
        rw [hF] at hh epi hlen
        have : F = [] := List.head?_eq_none_iff.mp hh
        subst this
        rw [List.map_nil, List.isEmpty_nil]
        walk_at "dl"
        refine ⟨by omega, fun p2 hp2 => ⟨_, wr_same, ?_⟩⟩
        rw [mdel_wr hp2]
        have eP : (PR.putIn P pre).map D.str ++ [D.str w] = (PR.putIn P (pre ++ [w])).map D.str := by
          rw [epi]
          simp only [List.map_append, Option.getD_none, List.map_cons, List.map_nil]
        rw [dAdd_rl, eP]
        refine ⟨by rw [List.length_map]; simp at hlen ⊢; omega, fun p3 hp3 => ⟨_, wr_same, pre ++ [w], _, _, _, _, rfl, mdel_wr hp3, by rw [hw]; simp⟩⟩
      | some b =>
        rw [hF] at hh epi hlen
        obtain ⟨F0, FR, rfl, hF0⟩ : ∃ F0 FR, F = F0 :: FR ∧ F0.2 = b := by
          cases F with
          | nil => cases hh
          | cons F0 FR =>
            refine ⟨F0, FR, rfl, ?_⟩
            injection hh with hh
            rw [hh]
        rw [List.map_cons, List.isEmpty_cons, hF0]
        unfold tS
        walk_at "dl"
        refine fun p2 hp2 => ⟨_, wr_same, ?_⟩
        rw [mdel_wr hp2, dAdd_rl]
        have eP : (PR.putIn P pre).map D.str ++ b.map D.str = (PR.putIn P (pre ++ [w])).map D.str := by
          rw [epi]
          simp only [List.map_append, Option.getD_some]
        rw [eP]
        refine ⟨by rw [List.length_map, List.length_map]; simp at hlen; omega, fun p3 hp3 => ⟨_, wr_same, pre ++ [w], _, _, _, _, rfl, mdel_wr hp3, by rw [hw]; simp⟩⟩
  · rintro e' M' ⟨pre, y3, y4, y5, y6, rfl, rfl, hw⟩
    rw [List.append_nil] at hw
    subst hw
    walk_at "dl"
    exact ⟨M', fun _ _ e => e, q⟩
end K10

namespace KH
open PySem PySem.Spec PyProof.Rows L2 DL
local macro_rules | `(tactic| walk_at "dl") => `(tactic| simp only [wSs, wS, DL.wE, DL.wT, DL.wL, wEs, wO, wC, wI, wG, wGs, dSeq, dAsg, dPar, dIf, dDrop, dSlot, dC, CD.d, dBin, boR, coR, dSub, dMod, dFdiv, dTest, dChain, bQ, dNext, dRet, dRetN, dgName, dgSub, dgTup, dgCons, dgNil, dLst, dTup, dTupX, dAug, dItX, dLz, dgTup2, dLenS, diZip, dCons, dNil, dIfE, dAndT, dOrT, dNotT, dAnd, dOr, dNot, dTruth, dTru_non, dTru_bl, dTru_int, dTru_str, dTru_tup, dTru_rl, dNeg, dSlice, dNoPart, dPart, dCall, dMt, dFnN, dMth, dFld, dSfl, dFz, dLcF, dNew, dNewD, dNewK, dLenK, dSliS, dSlS, dRevX, dgHead, dFrz, dForget, isTy, isIns, BF.rd, BT.rd, BM.rd, BM.ty, BF.rt, BT.rt, IEs.len, startD, getS, setS, wipeS, endB, tb, List.getD_cons_zero, List.getD_cons_succ, List.map_cons, List.map_nil, List.replicate, List.length_cons, List.length_nil, List.cons_append, List.nil_append, List.append_nil, dI_int, dAdd_int, dAdd_str, dAdd_tup, dIB_int, dLt_int, dLt_str, dEq_int, dEq_str, dNe_int, dNe_str, lenD_tup, lenD_rl, lenD_str, dMulA_int, dSl_str, ixN3_0, ixN3_1, ixN3_2, List.set_cons_zero, List.set_cons_succ, rAbs_int, rMin_int, rMax_int, rMin_str, rMax_str, dIx_wr, lenD_wr, atI_0, atI_1, atI_2, dIx_tup, dIx_rl, dIx_str, Option.some.injEq, exists_eq_left', decide_true, decide_false, eq_self, ite_true, ite_false, if_true, if_false, true_and, and_true, Bool.false_eq_true, Bool.not_true, Bool.not_false, Nat.reduceAdd, Nat.reduceSub, tTuple, tTupleX, dIs_non, dIs_bl, DL.isNon, dIn_str1, isi_str, isi_tup, isi_tx, isi_int, isi_rl, isi_bl, isi_non])
open PR
/-! what may be shown as text -/
structure Sh (k n : Nat) (d : D) : Prop where
  flat : flatD d = true
  nod : (toPy d).hasDict = false
  dep : (toPy d).depth ≤ k
  shw : Shw d n
theorem Sh.le {k n k' n' : Nat} {d : D} (h : Sh k n d) (l : k ≤ k') (l2 : n ≤ n') : Sh k' n' d := ⟨h.flat, h.nod, Nat.le_trans h.dep l, h.shw.le l2⟩
theorem rRepr_sh {d : D} {n : Nat} {M : Mem} {Q : QE} (h : Sh 64 n d) (hn : n ≤ sizeLine) (q : Q (.str (shD d)) M) : rRepr [d] M Q :=
  ⟨toPy d, PD.of d h.flat, h.nod, h.shw.1, Nat.le_trans h.shw.2 hn, h.dep, q⟩
theorem sh_row {k n : Nat} {xs : List D} (h : ∀ x ∈ xs, Sh k n x) : flatDL xs = true ∧ PyData.hasDictAll (toPyL xs) = false ∧ PyData.depthAll (toPyL xs) ≤ k ∧ ∀ x ∈ xs, Shw x n := by
  refine ⟨?_, ?_, ?_, fun x hx => (h x hx).shw⟩
  all_goals induction xs with
  | nil => first | rfl | exact Nat.zero_le _
  | cons x xs ih =>
    have h1 := h x (by simp)
    have h2 := ih fun y hy => h y (by simp [hy])
    first
    | (unfold flatDL; rw [h1.flat, h2]; rfl)
    | (unfold toPyL; rw [PyData.hasDictAll, h1.nod, h2]; rfl)
    | (unfold toPyL; rw [PyData.depthAll]; have := h1.dep; omega)
theorem sh_tup {k n : Nat} {xs : List D} (h : ∀ x ∈ xs, Sh k n x) : Sh (k + 1) (xs.length * (n + 2) + 3) (.tup xs) := by
  obtain ⟨h1, h2, h3, h4⟩ := sh_row h
  refine ⟨by unfold flatD; exact h1, by unfold toPy; rw [PyData.hasDict]; exact h2, by unfold toPy; rw [PyData.depth]; omega, shw_tup h4⟩
theorem sh_tx {k n : Nat} {xs : List D} (h : ∀ x ∈ xs, Sh k n x) : Sh (k + 1) (xs.length * (n + 2) + 3) (.tx xs) := by
  obtain ⟨h1, h2, h3, h4⟩ := sh_row h
  have e : toPy (.tx xs) = toPy (.tup xs) := by unfold toPy; rfl
  refine ⟨by unfold flatD; exact h1, by unfold toPy; rw [PyData.hasDict]; exact h2, by unfold toPy; rw [PyData.depth]; omega, ?_⟩
  have := shw_tup h4
  unfold Shw at this ⊢
  rw [e]
  exact this
theorem sh_rl {k n : Nat} {xs : List D} (h : ∀ x ∈ xs, Sh k n x) : Sh (k + 1) (xs.length * (n + 2) + 2) (.rl xs) := by
  obtain ⟨h1, h2, h3, h4⟩ := sh_row h
  refine ⟨by unfold flatD; exact h1, by unfold toPy; rw [PyData.hasDict]; exact h2, by unfold toPy; rw [PyData.depth]; omega, shw_rl h4⟩
theorem sh_str {w : Str} {m : Nat} (h1 : w.length ≤ m) (h2 : ∀ c ∈ w.cps.toList, c < 200) : Sh 0 (10 * m + 2) (.str w) :=
  ⟨rfl, by unfold toPy; rw [PyData.hasDict], by unfold toPy; rw [PyData.depth]; exact Nat.le_refl _, shw_str h1 h2⟩
theorem sh_word {w : Str} (h : wordB w = true) : Sh 0 62 (.str w) := sh_str (m := 6) (word_len h) (word_small h)
theorem sh_non : Sh 0 4 .non := ⟨rfl, by unfold toPy; rw [PyData.hasDict], by unfold toPy; rw [PyData.depth]; exact Nat.le_refl _, by unfold Shw toPy; decide +kernel⟩
theorem sh_bl {b : Bool} : Sh 0 5 (.bl b) := ⟨rfl, by unfold toPy; rw [PyData.hasDict], by unfold toPy; rw [PyData.depth]; exact Nat.le_refl _, by cases b <;> (unfold Shw toPy; decide +kernel)⟩
theorem sh_tS {ws : List Str} {m : Nat} (h : ∀ w ∈ ws, wordB w = true) (l : ws.length ≤ m) : Sh 1 (m * 64 + 3) (tS ws) := by
  unfold tS
  refine (sh_tup (k := 0) (n := 62) fun x hx => ?_).le (Nat.le_refl _) ?_
  · obtain ⟨w, hw, rfl⟩ := List.mem_map.mp hx
    exact sh_word (h w hw)
  · rw [List.length_map]; omega
theorem shD_tx (xs : List D) : shD (.tx xs) = shD (.tup xs) := by unfold shD toPy; rfl
/-! equality -/
theorem ne_same {d : D} {M : Mem} {Q : QE} (g : good d 64 = true) (q : Q (.bl false) M) : dNe d d M Q := dNe_good g g fun b hb => by
  have : b = false := by
    cases b
    · rfl
    · exact absurd rfl (hb.mp rfl)
  rw [this]; exact q
theorem ne_str {s : Str} {M : Mem} {Q : QE} (q : Q (.bl false) M) : dNe (.str s) (.str s) M Q := ne_same (d := .str s) rfl q
end KH

namespace KG
open PySem PySem.Spec PyProof.Rows L2 DL
local macro_rules | `(tactic| walk_at "dl") => `(tactic| simp only [wSs, wS, DL.wE, DL.wT, DL.wL, wEs, wO, wC, wI, wG, wGs, dSeq, dAsg, dPar, dIf, dDrop, dSlot, dC, CD.d, dBin, boR, coR, dSub, dMod, dFdiv, dTest, dChain, bQ, dNext, dRet, dRetN, dgName, dgSub, dgTup, dgCons, dgNil, dLst, dTup, dTupX, dAug, dItX, dLz, dgTup2, dLenS, diZip, dCons, dNil, dIfE, dAndT, dOrT, dNotT, dAnd, dOr, dNot, dTruth, dTru_non, dTru_bl, dTru_int, dTru_str, dTru_tup, dTru_rl, dNeg, dSlice, dNoPart, dPart, dCall, dMt, dFnN, dMth, dFld, dSfl, dFz, dLcF, dNew, dNewD, dNewK, dLenK, dSliS, dSlS, dRevX, dgHead, dFrz, dForget, isTy, isIns, BF.rd, BT.rd, BM.rd, BM.ty, BF.rt, BT.rt, IEs.len, startD, getS, setS, wipeS, endB, tb, List.getD_cons_zero, List.getD_cons_succ, List.map_cons, List.map_nil, List.replicate, List.length_cons, List.length_nil, List.cons_append, List.nil_append, List.append_nil, dI_int, dAdd_int, dAdd_str, dAdd_tup, dIB_int, dLt_int, dLt_str, dEq_int, dEq_str, dNe_int, dNe_str, lenD_tup, lenD_rl, lenD_str, dMulA_int, dSl_str, ixN3_0, ixN3_1, ixN3_2, List.set_cons_zero, List.set_cons_succ, rAbs_int, rMin_int, rMax_int, rMin_str, rMax_str, dIx_wr, lenD_wr, atI_0, atI_1, atI_2, dIx_tup, dIx_rl, dIx_str, Option.some.injEq, exists_eq_left', decide_true, decide_false, eq_self, ite_true, ite_false, if_true, if_false, true_and, and_true, Bool.false_eq_true, Bool.not_true, Bool.not_false, Nat.reduceAdd, Nat.reduceSub, tTuple, tTupleX, dIs_non, dIs_bl, DL.isNon, dIn_str1, isi_str, isi_tup, isi_tx, isi_int, isi_rl, isi_bl, isi_non])
open PR K10 KH
/-! bodies, puts: words, lengths, texts -/
theorem put_words {g : Gr} {room : Nat} {P : List (Str × List Str)} (ok : g.Ok) (hp : PutsOk g room P) {ws : List Str} (hw : ∀ w ∈ ws, wordB w = true) : ∀ w ∈ PR.putIn P ws, wordB w = true := by
  intro w h
  unfold PR.putIn at h
  obtain ⟨a, ha, h⟩ := List.mem_flatMap.mp h
  cases e : P.lookup a with
  | none =>
    rw [e] at h
    simp at h
    subst h
    exact hw _ ha
  | some b =>
    rw [e] at h
    obtain ⟨k, _, hb⟩ := hp.1.2 _ (lookup_in e)
    exact body_words ok hb w h
theorem put_len {g : Gr} {room : Nat} {P : List (Str × List Str)} (h1 : 1 ≤ room) (hp : PutsOk g room P) : ∀ ws : List Str, (PR.putIn P ws).length ≤ ws.length * room
  | [] => Nat.zero_le _
  | w :: r => by
    have e : PR.putIn P (w :: r) = (P.lookup w).getD [w] ++ PR.putIn P r := by unfold PR.putIn; rw [List.flatMap_cons]
    rw [e, List.length_append, List.length_cons, Nat.succ_mul]
    have := put_len h1 hp r
    have h1 : ((P.lookup w).getD [w]).length ≤ room := by
      cases e : P.lookup w with
      | none => simpa using h1
      | some b => exact hp.2.2 _ (lookup_in e)
    omega
mutual
theorem dep_len : ∀ t : Tr, t.dep ≤ t.flat.length
  | .nd w ts => by
    rw [Tr.dep, Tr.flat, List.length_cons]
    have := deps_len ts
    omega
theorem deps_len : ∀ ts : List Tr, deps ts ≤ (flats ts).length
  | [] => Nat.le_refl _
  | t :: ts => by
    rw [deps, flats, List.length_append]
    have := dep_len t
    have := deps_len ts
    omega
end
/-- rows of bodies -/
def RowsT (g : Gr) (m : Nat) (Ts : List Tr) : Prop := ∀ T ∈ Ts, (∃ k, g.T k T) ∧ T.flat.length ≤ m
theorem deps_le {m : Nat} : ∀ {Ts : List Tr}, (∀ T ∈ Ts, T.flat.length ≤ m) → deps Ts ≤ m
  | [], _ => Nat.zero_le _
  | t :: ts, h => by
    rw [deps]
    have h1 := dep_len t
    have h2 := h t (by simp)
    have h3 := deps_le (Ts := ts) (m := m) fun T hT => h T (List.mem_cons_of_mem _ hT)
    omega
theorem flats_le {m : Nat} : ∀ {Ts : List Tr}, (∀ T ∈ Ts, T.flat.length ≤ m) → (flats Ts).length ≤ Ts.length * m
  | [], _ => Nat.zero_le _
  | t :: ts, h => by
    rw [flats, List.length_append, List.length_cons, Nat.succ_mul]
    have h2 := h t (by simp)
    have h3 := flats_le (Ts := ts) (m := m) fun T hT => h T (List.mem_cons_of_mem _ hT)
    omega
theorem put_rows {g : Gr} {P : Sg} (hp : g.Puts P) : ∀ {Ts : List Tr}, (∀ T ∈ Ts, ∃ k, g.T k T) → ∃ Us : List Tr, (∀ U ∈ Us, ∃ k, g.T k U) ∧ Us.map Tr.flat = Ts.map fun t => PR.putIn P t.flat
  | [], _ => ⟨[], (fun _ h => nomatch h), rfl⟩
  | t :: ts, h => by
    obtain ⟨k, hk⟩ := h t (by simp)
    obtain ⟨U, u1, u2⟩ := put_tree hp hk
    obtain ⟨Us, v1, v2⟩ := put_rows hp (Ts := ts) fun T hT => h T (List.mem_cons_of_mem _ hT)
    refine ⟨U :: Us, fun V hV => ?_, by rw [List.map_cons, List.map_cons, u2, v2]⟩
    rcases List.mem_cons.mp hV with rfl | hV
    · exact ⟨k, u1⟩
    · exact v1 V hV
theorem trD_flat (Ts : List Tr) : Ts.map trD = (Ts.map Tr.flat).map tS := by rw [List.map_map]; rfl
/-- one row, as text -/
theorem repr_row {ws : List Str} {m : Nat} {M : Mem} {Q : QE} (h : ∀ w ∈ ws, wordB w = true) (l : ws.length ≤ m) (hm : m ≤ 200000) (q : Q (.str (shD (tS ws))) M) : rRepr [tS ws] M Q :=
  rRepr_sh ((sh_tS h l).le (by decide) (Nat.le_refl _)) (by have : sizeLine = 2 ^ 24 := rfl; omega) q
/-- rows, as text -/
theorem sh_rows {rs : List (List Str)} {m n : Nat} (h : ∀ r ∈ rs, (∀ w ∈ r, wordB w = true) ∧ r.length ≤ m) (l : rs.length ≤ n) : Sh 2 (n * (m * 64 + 5) + 3) (.tup (rs.map tS)) := by
  refine (sh_tup (k := 1) (n := m * 64 + 3) fun x hx => ?_).le (Nat.le_refl _) ?_
  · obtain ⟨r, hr, rfl⟩ := List.mem_map.mp hx
    exact sh_tS (h r hr).1 (h r hr).2
  · rw [List.length_map]
    have := Nat.mul_le_mul_right (m * 64 + 3 + 2) l
    exact Nat.add_le_add_right this 3
theorem sh_pt {p : Str × List Str} {m : Nat} (h1 : wordB p.1 = true) (h2 : ∀ w ∈ p.2, wordB w = true) (l : p.2.length ≤ m) : Sh 2 (2 * (m * 64 + 67) + 3) (ptD p) := by
  unfold ptD
  refine (sh_tup (k := 1) (n := m * 64 + 65) fun x hx => ?_).le (Nat.le_refl _) (Nat.le_refl _)
  rcases List.mem_cons.mp hx with rfl | hx
  · exact (sh_word h1).le (by decide) (by omega)
  · rw [List.mem_singleton] at hx
    subst hx
    exact (sh_tS h2 l).le (Nat.le_refl _) (by omega)
/-- puts, as text -/
theorem sh_puts {P : Sg} {m n : Nat} (h : ∀ p ∈ P, wordB p.1 = true ∧ (∀ w ∈ p.2, wordB w = true) ∧ p.2.length ≤ m) (l : P.length ≤ n) : Sh 3 (n * (2 * (m * 64 + 67) + 5) + 3) (.tx (P.map ptD)) := by
  refine (sh_tx (k := 2) (n := 2 * (m * 64 + 67) + 3) fun x hx => ?_).le (Nat.le_refl _) ?_
  · obtain ⟨p, hp, rfl⟩ := List.mem_map.mp hx
    obtain ⟨h1, h2, h3⟩ := h p hp
    exact sh_pt h1 h2 h3
  · rw [List.length_map]
    have := Nat.mul_le_mul_right (2 * (m * 64 + 67) + 3 + 2) l
    exact Nat.add_le_add_right this 3
/-- what is due, as text -/
theorem due_sh {g : Gr} {room : Nat} {P : Sg} (ok : g.Ok) (h1 : 1 ≤ room) (hp : PutsOk g room P) {ws : List Str} {n : Nat} (hl : (nmsIn g ws).length ≤ n) : Sh 3 (n * (2 * (room * 64 + 67) + 5) + 3) (.tx ((due g P ws).map ptD)) := by
  refine sh_puts (fun p h => ?_) (by unfold due; rw [List.length_map]; exact hl)
  obtain ⟨w, hw, rfl⟩ := List.mem_map.mp h
  unfold nmsIn at hw
  rw [mem_ddup, List.mem_filter] at hw
  have hww : wordB w = true := by
    unfold isNm at hw
    cases e : g.names.lookup w with
    | none => rw [e] at hw; cases hw.2
    | some k => exact (ok.nw _ (lookup_in e)).1
  have h2 := put_len h1 hp [w]
  rw [List.length_singleton, Nat.one_mul] at h2
  exact ⟨hww, put_words ok hp (fun v hv => by rw [List.mem_singleton] at hv; subst hv; exact hww), h2⟩
theorem due_nodup {g : Gr} {P : Sg} {ws : List Str} : ((due g P ws).map Prod.fst).Nodup := by
  unfold due
  rw [List.map_map]
  have : (Prod.fst ∘ fun w => (w, PR.putIn P [w])) = (id : Str → Str) := rfl
  rw [this, List.map_id]
  exact nodup_ddup _
theorem puts_none {g : Gr} {room : Nat} : PutsOk g room [] := ⟨⟨List.nodup_nil, fun p hp => nomatch hp⟩, Nat.zero_le _, fun p hp => nomatch hp⟩
theorem good_rows {rs : List (List Str)} : good (.tup (rs.map tS)) 64 = true := by
  unfold good
  refine goodL_all.mpr fun x hx => ?_
  obtain ⟨r, _, rfl⟩ := List.mem_map.mp hx
  exact good_tS r _
end KG

namespace PR
open PySem PySem.Spec PyProof.Rows L2 DL
local macro_rules | `(tactic| walk_at "dl") => `(tactic| simp only [wSs, wS, DL.wE, DL.wT, DL.wL, wEs, wO, wC, wI, wG, wGs, dSeq, dAsg, dPar, dIf, dDrop, dSlot, dC, CD.d, dBin, boR, coR, dSub, dMod, dFdiv, dTest, dChain, bQ, dNext, dRet, dRetN, dgName, dgSub, dgTup, dgCons, dgNil, dLst, dTup, dTupX, dAug, dItX, dLz, dgTup2, dLenS, diZip, dCons, dNil, dIfE, dAndT, dOrT, dNotT, dAnd, dOr, dNot, dTruth, dTru_non, dTru_bl, dTru_int, dTru_str, dTru_tup, dTru_rl, dNeg, dSlice, dNoPart, dPart, dCall, dMt, dFnN, dMth, dFld, dSfl, dFz, dLcF, dNew, dNewD, dNewK, dLenK, dSliS, dSlS, dRevX, dgHead, dFrz, dForget, isTy, isIns, BF.rd, BT.rd, BM.rd, BM.ty, BF.rt, BT.rt, IEs.len, startD, getS, setS, wipeS, endB, tb, List.getD_cons_zero, List.getD_cons_succ, List.map_cons, List.map_nil, List.replicate, List.length_cons, List.length_nil, List.cons_append, List.nil_append, List.append_nil, dI_int, dAdd_int, dAdd_str, dAdd_tup, dIB_int, dLt_int, dLt_str, dEq_int, dEq_str, dNe_int, dNe_str, lenD_tup, lenD_rl, lenD_str, dMulA_int, dSl_str, ixN3_0, ixN3_1, ixN3_2, List.set_cons_zero, List.set_cons_succ, rAbs_int, rMin_int, rMax_int, rMin_str, rMax_str, dIx_wr, lenD_wr, atI_0, atI_1, atI_2, dIx_tup, dIx_rl, dIx_str, Option.some.injEq, exists_eq_left', decide_true, decide_false, eq_self, ite_true, ite_false, if_true, if_false, true_and, and_true, Bool.false_eq_true, Bool.not_true, Bool.not_false, Nat.reduceAdd, Nat.reduceSub, tTuple, tTupleX, dIs_non, dIs_bl, DL.isNon, dIn_str1, isi_str, isi_tup, isi_tx, isi_int, isi_rl, isi_bl, isi_non])
open PQ
/-! puts behind one another: the plain law -/
section
variable {g : Gr}
/-- first P, then R -/
def bh (P R : Sg) : Sg := (P.map fun p => (p.1, putIn R p.2)) ++ R.filter fun q => !decide (q.1 ∈ P.map Prod.fst)
theorem puts_name {P : Sg} (hp : g.Puts P) {p : Str × List Str} (h : p ∈ P) : isNm g p.1 = true := by
  obtain ⟨k, hk, _⟩ := hp.2 p h
  unfold isNm
  rw [hk]
  rfl
theorem behind_eq {P R : Sg} (hp : ∀ p ∈ P, isNm g p.1 = true) : behind g P R = bh P R := by
  unfold behind bh
  congr 1
  refine List.filter_congr fun q _ => ?_
  have : (q.1 ∈ nmsIn g (P.map Prod.fst)) ↔ q.1 ∈ P.map Prod.fst := by
    unfold nmsIn
    rw [mem_ddup, List.mem_filter]
    refine ⟨fun h => h.1, fun h => ⟨h, ?_⟩⟩
    obtain ⟨p, hpm, e⟩ := List.mem_map.mp h
    rw [← e]
    exact hp p hpm
  simp only [this]
theorem lookup_app {α : Type} {a b : List (Str × α)} {w : Str} : (a ++ b).lookup w = (a.lookup w).or (b.lookup w) := by
  induction a with
  | nil => rfl
  | cons p a ih =>
    obtain ⟨k, c⟩ := p
    rw [List.cons_append, List.lookup_cons, List.lookup_cons, ih]
    cases w == k <;> rfl
theorem lookup_mapv {α β : Type} {a : List (Str × α)} {f : α → β} {w : Str} : (a.map fun p => (p.1, f p.2)).lookup w = (a.lookup w).map f := by
  induction a with
  | nil => rfl
  | cons p a ih =>
    obtain ⟨k, c⟩ := p
    rw [List.map_cons, List.lookup_cons, List.lookup_cons, ih]
    cases w == k <;> rfl
theorem lookup_filt {α : Type} {a : List (Str × α)} {c : Str → Bool} {w : Str} : (a.filter fun p => c p.1).lookup w = if c w = true then a.lookup w else none := by
  induction a with
  | nil => simp
  | cons p a ih =>
    obtain ⟨k, x⟩ := p
    by_cases hk : w = k
    · subst hk
      cases hc : c w with
      | true => rw [List.filter_cons_of_pos (by simpa using hc)]; simp
      | false => rw [List.filter_cons_of_neg (by simp [hc]), ih, hc]; simp
    · have hb : (w == k) = false := beq_eq_false_iff_ne.mpr hk
      cases hc : c k with
      | true =>
        rw [List.filter_cons_of_pos (by simpa using hc), List.lookup_cons, List.lookup_cons, hb]
        exact ih
      | false =>
        rw [List.filter_cons_of_neg (by simp [hc]), List.lookup_cons, hb]
        exact ih
theorem lookup_key {α : Type} {a : List (Str × α)} {w : Str} : a.lookup w = none ↔ w ∉ a.map Prod.fst := by
  rw [List.lookup_eq_none_iff]
  constructor
  · intro h hw
    obtain ⟨p, hp, rfl⟩ := List.mem_map.mp hw
    have := h p hp
    simp at this
  · intro h p hp
    simp only [bne_iff_ne, ne_eq]
    rintro rfl
    exact h (List.mem_map_of_mem hp)
theorem bh_lookup {P R : Sg} {w : Str} : (bh P R).lookup w = match P.lookup w with | some b => some (putIn R b) | none => R.lookup w := by
  unfold bh
  rw [lookup_app, lookup_mapv]
  cases e : P.lookup w with
  | some b => rfl
  | none =>
    rw [lookup_filt (c := fun x => !decide (x ∈ P.map Prod.fst))]
    have := lookup_key.mp e
    simp [this]
theorem bh_one {P R : Sg} (w : Str) : putIn (bh P R) [w] = putIn R (putIn P [w]) := by
  rw [putIn_one, putIn_one, bh_lookup]
  cases P.lookup w with
  | some b => rfl
  | none => rw [Option.getD_none, putIn_one]
theorem bh_put {P R : Sg} : ∀ ws : List Str, putIn (bh P R) ws = putIn R (putIn P ws)
  | [] => rfl
  | w :: ws => by rw [putIn_cons, putIn_cons (P := P) w ws, putIn_app, bh_one, bh_put ws]
theorem bh_keys (P R : Sg) : (bh P R).map Prod.fst = P.map Prod.fst ++ (R.map Prod.fst).filter fun x => !decide (x ∈ P.map Prod.fst) := by
  unfold bh
  rw [List.map_append, List.map_map, List.filter_map]
  rfl
theorem body_put {P : Sg} (hp : g.Puts P) {k : Str} {b : List Str} (h : g.IsBody k b) : g.IsBody k (putIn P b) := by
  obtain ⟨T, hT, rfl⟩ := tree_of h
  obtain ⟨U, hU, e⟩ := put_tree hp hT
  rw [← e]
  exact body_of_T U k hU
theorem bh_puts {P R : Sg} (hp : g.Puts P) (hr : g.Puts R) : g.Puts (bh P R) := by
  constructor
  · rw [bh_keys]
    refine List.nodup_append.mpr ⟨hp.1, hr.1.filter _, fun a ha b hb e => ?_⟩
    subst e
    rw [List.mem_filter] at hb
    simp at hb
    obtain ⟨p, hp2, rfl⟩ := List.mem_map.mp ha
    exact hb.2 p.2 hp2
  · intro p h
    unfold bh at h
    rcases List.mem_append.mp h with h | h
    · obtain ⟨q, hq, rfl⟩ := List.mem_map.mp h
      obtain ⟨k, h1, h2⟩ := hp.2 q hq
      exact ⟨k, h1, body_put hr h2⟩
    · exact hr.2 p ((List.mem_filter.mp h).1)
theorem bh_assoc (P R S : Sg) : bh (bh P R) S = bh P (bh R S) := by
  have e1 : (bh P R).map (fun p => (p.1, putIn S p.2)) = (P.map fun p => (p.1, putIn (bh R S) p.2)) ++ (R.map fun p => (p.1, putIn S p.2)).filter fun q => !decide (q.1 ∈ P.map Prod.fst) := by
    unfold bh
    rw [List.map_append, List.map_map, List.filter_map]
    congr 1
    refine List.map_congr_left fun p _ => ?_
    have := (bh_put (P := R) (R := S) p.2).symm
    unfold bh at this
    simp only [Function.comp, this]
  have e2 : (S.filter fun q => !decide (q.1 ∈ (bh P R).map Prod.fst)) = (S.filter fun q => !decide (q.1 ∈ R.map Prod.fst)).filter fun q => !decide (q.1 ∈ P.map Prod.fst) := by
    rw [List.filter_filter, bh_keys]
    refine List.filter_congr fun q _ => ?_
    by_cases h1 : q.1 ∈ P.map Prod.fst <;> by_cases h2 : q.1 ∈ R.map Prod.fst <;> simp only [List.mem_append, List.mem_filter, h1, h2] <;> simp [h1]
  show (bh P R).map (fun p => (p.1, putIn S p.2)) ++ (S.filter fun q => !decide (q.1 ∈ (bh P R).map Prod.fst)) = (P.map fun p => (p.1, putIn (bh R S) p.2)) ++ ((R.map fun p => (p.1, putIn S p.2)) ++ (S.filter fun q => !decide (q.1 ∈ R.map Prod.fst))).filter fun q => !decide (q.1 ∈ P.map Prod.fst)
  rw [e1, e2, List.filter_append, List.append_assoc]
theorem bh_len (P R : Sg) : (bh P R).length ≤ P.length + R.length := by
  unfold bh
  rw [List.length_append, List.length_map]
  have := List.length_filter_le (fun q : Str × List Str => !decide (q.1 ∈ P.map Prod.fst)) R
  omega
end
end PR

namespace KT
open PySem PySem.Spec PyProof.Rows L2 DL
local macro_rules | `(tactic| walk_at "dl") => `(tactic| simp only [wSs, wS, DL.wE, DL.wT, DL.wL, wEs, wO, wC, wI, wG, wGs, dSeq, dAsg, dPar, dIf, dDrop, dSlot, dC, CD.d, dBin, boR, coR, dSub, dMod, dFdiv, dTest, dChain, bQ, dNext, dRet, dRetN, dgName, dgSub, dgTup, dgCons, dgNil, dLst, dTup, dTupX, dAug, dItX, dLz, dgTup2, dLenS, diZip, dCons, dNil, dIfE, dAndT, dOrT, dNotT, dAnd, dOr, dNot, dTruth, dTru_non, dTru_bl, dTru_int, dTru_str, dTru_tup, dTru_rl, dNeg, dSlice, dNoPart, dPart, dCall, dMt, dFnN, dMth, dFld, dSfl, dFz, dLcF, dNew, dNewD, dNewK, dLenK, dSliS, dSlS, dRevX, dgHead, dFrz, dForget, isTy, isIns, BF.rd, BT.rd, BM.rd, BM.ty, BF.rt, BT.rt, IEs.len, startD, getS, setS, wipeS, endB, tb, List.getD_cons_zero, List.getD_cons_succ, List.map_cons, List.map_nil, List.replicate, List.length_cons, List.length_nil, List.cons_append, List.nil_append, List.append_nil, dI_int, dAdd_int, dAdd_str, dAdd_tup, dIB_int, dLt_int, dLt_str, dEq_int, dEq_str, dNe_int, dNe_str, lenD_tup, lenD_rl, lenD_str, dMulA_int, dSl_str, ixN3_0, ixN3_1, ixN3_2, List.set_cons_zero, List.set_cons_succ, rAbs_int, rMin_int, rMax_int, rMin_str, rMax_str, dIx_wr, lenD_wr, atI_0, atI_1, atI_2, dIx_tup, dIx_rl, dIx_str, Option.some.injEq, exists_eq_left', decide_true, decide_false, eq_self, ite_true, ite_false, if_true, if_false, true_and, and_true, Bool.false_eq_true, Bool.not_true, Bool.not_false, Nat.reduceAdd, Nat.reduceSub, tTuple, tTupleX, dIs_non, dIs_bl, DL.isNon, dIn_str1, isi_str, isi_tup, isi_tx, isi_int, isi_rl, isi_bl, isi_non])
open PR PQ K10 KG KH
/-! what is drawn from a tuple -/
def spOfT : DSp := fun ds M Q E => ∃ (h : Addr) (o : MO) (n : Int) (xs : List D), ds = [.ref h, .tup xs] ∧ xs ≠ [] ∧ xs.length ≤ 100000 ∧ M h = some o ∧ Hob o n ∧ n < 2 ^ 40 ∧ ∀ d ∈ xs, ∀ o', Hob o' (n + 1) → Q d (wr M h o')
theorem law_ofT (ds : List D) (M : Mem) (Q : QE) (E : EX) (H : spOfT ds M Q E) : wSs (tb [spTake] [] []) ir__law_of (endB Q) E (startD 2 ds) M := by
  obtain ⟨h, o, n, xs, rfl, hne, hl, hM, ho, hn, q⟩ := H
  have s24 : sizeLine = 2 ^ 24 := rfl
  have hp : 0 < xs.length := List.length_pos_iff.mpr hne
  unfold ir__law_of
  walk_at "dl"
  refine ⟨h, o, n, _, rfl, by omega, by omega, hM, ho, hn, fun r o' h0 h1 ho' => ?_⟩
  obtain ⟨j, rfl⟩ : ∃ j : Nat, r = (j : Int) := ⟨r.toNat, by omega⟩
  have hj : j < xs.length := by omega
  walk_at "dl"
  exact ⟨_, atI_nat hj, _, Sub.refl, q _ (List.getElem_mem hj) _ ho'⟩
/-- a kind that is drawn -/
theorem kind_drawn {g : Gr} {h : Addr} {o : MO} {n : Int} {M : Mem} {Q : QE} {E : EX} (ok : GOk g) (hM : M h = some o) (ho : Hob o n) (hn : n < 2 ^ 40) (q : ∀ k ∈ g.kinds, ∀ o', Hob o' (n + 1) → Q (.str k) (wr M h o')) : spOfT [.ref h, g.kD] M Q E := by
  refine ⟨h, o, n, g.kinds.map D.str, rfl, fun e => ok.1.k0 (List.map_eq_nil_iff.mp e), by rw [List.length_map]; have := ok.1.fewK; omega, hM, ho, hn, fun d hd o' ho' => ?_⟩
  obtain ⟨k, hk, rfl⟩ := List.mem_map.mp hd
  exact q k hk o' ho'
theorem isNm_mem {g : Gr} {w : Str} : decide (w ∈ g.names.map Prod.fst) = isNm g w := by
  unfold isNm
  rw [Bool.eq_iff_iff, decide_eq_true_eq]
  constructor
  · intro h
    cases e : g.names.lookup w with
    | some => rfl
    | none =>
      obtain ⟨p, hp, rfl⟩ := List.mem_map.mp h
      have := List.lookup_eq_none_iff.mp e p hp
      simp at this
  · intro h
    cases e : g.names.lookup w with
    | some k => exact List.mem_map.mpr ⟨_, lookup_in e, rfl⟩
    | none => rw [e] at h; cases h
/-- how many hands -/
theorem hands3 (ns : List Int) : ∃ m : Nat, (if (if ((ns.map D.int).length : Int) < 3 then ((ns.map D.int).length : Int) else 3) > 1 then (if ((ns.map D.int).length : Int) < 3 then ((ns.map D.int).length : Int) else 3) else 1) = (m : Int) ∧ m ≤ 3 := by
  refine ⟨(if (if ((ns.map D.int).length : Int) < 3 then ((ns.map D.int).length : Int) else 3) > 1 then (if ((ns.map D.int).length : Int) < 3 then ((ns.map D.int).length : Int) else 3) else 1).toNat, ?_, ?_⟩
  all_goals (split <;> split <;> omega)
end KT

/-! the small syntax of some defs (printed by gen2.py) -/
namespace K11
open PySem PySem.Spec PyProof.Rows L2 DL
/-! _law_behind -/
def ir__law_behind : ISs :=
  (.cons (.asg (.nm 2) (.lcF (.lc [("_law_name", 4), ("_law_told", 5)] (.tp (.cons (.nm 4) (.cons (.nm 5) .nil))) (.any (.sl 0)) .no (.sl 4))))
  (.cons (.asg (.nm 3) (.lcF (.lc [("_law_name", 4), ("_law_told", 5)] (.tp (.cons (.nm 4) (.cons (.nm 5) .nil))) (.any (.sl 0)) .no (.tup (.cons (.sl 4) (.cons (.cal 0 (.cons (.sl 5) (.cons (.sl 1) .nil)) .nil) .nil))))))
  (.cons (.ret (.ct .tuple (.fz (.bin .Add (.sl 3) (.lcF (.lc [("_law_name", 4), ("_law_told", 5)] (.tp (.cons (.nm 4) (.cons (.nm 5) .nil))) (.any (.sl 1)) (.yes (.cmp .NotIn (.sl 4) (.sl 2))) (.tup (.cons (.sl 4) (.cons (.sl 5) .nil))))))) .nil))
  .nil)))
-- slots: 0 _law_pairs 1 _law_later 2 _law_ahead 3 _law_got 4 _law_name 5 _law_told
-- calls: [('_law_put', 2, ())] ; methods: [] ; fields: [] ; constants: []
/-! _law_right -/
def ir__law_right : ISs :=
  (.cons (.asg (.nm 4) (.cal 3 (.cons (.sl 0) (.cons (.sl 1) (.cons (.sl 2) .nil))) .nil))
  (.cons (.iff (.orE (.cmp .NotEq (.cb .repr (.sl 4) .nil) (.cb .repr (.cal 2 (.cons (.sl 1) (.cons (.sl 2) .nil)) .nil) .nil)) (.one (.cmp .IsNot (.cal 1 (.cons (.sl 0) (.cons (.sl 4) .nil)) .nil) (.lit (.bl true))))) (.cons (.ret (.lit (.bl false)))
  .nil) .nil)
  (.cons (.ret (.tb .all (.lc [("_law_row", 5)] (.nm 5) (.any (.sl 3)) .no (.cmp .Eq (.cal 0 (.cons (.sl 5) (.cons (.sl 4) .nil)) .nil) (.cal 0 (.cons (.cal 0 (.cons (.sl 5) (.cons (.sl 1) .nil)) .nil) (.cons (.sl 2) .nil)) .nil)))))
  .nil)))
-- slots: 0 _law_base 1 _law_pairs 2 _law_later 3 _law_rows 4 _law_told 5 _law_row
-- calls: [('put_in', 2, ()), ('is_puts', 2, ()), ('_law_behind', 2, ()), ('put_behind', 3, ())] ; methods: [] ; fields: [] ; constants: []
/-! law -/
def lp_law_0 : IS :=
  .fo (.nm 10) (.any (.fz (.bin .Add (.sl 5) (.fz (.lst (.cons (.tupX .nil) .nil)))))) (.cons (.iff (.nt (.cal 3 (.cons (.sl 4) (.cons (.sl 8) (.cons (.sl 10) (.cons (.sl 6) .nil)))) .nil)) (.cons (.ret (.lit (.bl false)))
  .nil) .nil)
  .nil)
def lp_law_1 : IS :=
  .fo (.nm 8) (.any (.fz (.bin .Add (.sl 5) (.fz (.lst (.cons (.tupX .nil) .nil)))))) (.cons lp_law_0
  .nil)
def lp_law_2 : IS :=
  .fo (.nm 1) (.rg1 (.cb .max (.lit (.int 1)) (.cons (.cb .min (.lit (.int 3)) (.cons (.cb .len (.sl 0) .nil) .nil)) .nil))) (.cons (.asg (.nm 2) (.cal 9 (.cons (.sl 0) (.cons (.sl 1) .nil)) .nil))
  (.cons (.asg (.nm 3) (.cal 8 (.cons (.sl 2) .nil) .nil))
  (.cons (.asg (.nm 4) (.cal 7 (.cons (.sl 3) .nil) .nil))
  (.cons (.asg (.nm 5) (.lcF (.lc [("_law_turn", 11)] (.nm 11) (.rg1 (.lit (.int 3))) .no (.cal 6 (.cons (.sl 2) (.cons (.sl 3) (.cons (.lit (.int 9)) .nil))) .nil))))
  (.cons (.asg (.nm 6) (.lcF (.lc [("_law_name", 12), ("_law_kind", 13)] (.tp (.cons (.nm 12) (.cons (.nm 13) .nil))) (.any (.ix (.sl 3) (.lit (.int 2)))) .no (.tup (.cons (.sl 12) .nil)))))
  (.cons (.asg (.nm 6) (.fz (.bin .Add (.sl 6) (.lcF (.lc [("_law_turn", 11)] (.nm 11) (.rg1 (.lit (.int 6))) .no (.cal 4 (.cons (.sl 2) (.cons (.sl 3) (.cons (.cal 5 (.cons (.sl 2) (.cons (.ix (.sl 3) (.lit (.int 0))) .nil)) .nil) (.cons (.lit (.int 20)) .nil)))) .nil))))))
  (.cons (.asg (.nm 7) (.cb .repr (.tup (.cons (.sl 5) (.cons (.sl 6) .nil))) .nil))
  (.cons lp_law_1
  (.cons (.asg (.nm 9) (.cal 2 (.cons (.sl 4) (.cons (.cal 2 (.cons (.sl 4) (.cons (.ix (.sl 5) (.lit (.int 0))) (.cons (.ix (.sl 5) (.lit (.int 1))) .nil))) .nil) (.cons (.ix (.sl 5) (.lit (.int 2))) .nil))) .nil))
  (.cons (.iff (.cmp .NotEq (.cb .repr (.sl 9) .nil) (.cb .repr (.cal 2 (.cons (.sl 4) (.cons (.ix (.sl 5) (.lit (.int 0))) (.cons (.cal 2 (.cons (.sl 4) (.cons (.ix (.sl 5) (.lit (.int 1))) (.cons (.ix (.sl 5) (.lit (.int 2))) .nil))) .nil) .nil))) .nil) .nil)) (.cons (.ret (.lit (.bl false)))
  .nil) .nil)
  (.cons (.iff (.cmp .NotEq (.cb .repr (.cal 0 .nil (.cons (.ix (.sl 5) (.lit (.int 1))) (.cons (.ix (.sl 5) (.lit (.int 0))) (.cons (.sl 4) .nil)))) .nil) (.cb .repr (.cal 1 (.cons (.ix (.sl 5) (.lit (.int 0))) (.cons (.ix (.sl 5) (.lit (.int 1))) .nil)) .nil) .nil)) (.cons (.ret (.lit (.bl false)))
  .nil) .nil)
  (.cons (.iff (.cmp .NotEq (.cb .repr (.tup (.cons (.sl 5) (.cons (.sl 6) .nil))) .nil) (.sl 7)) (.cons (.ret (.lit (.bl false)))
  .nil) .nil)
  .nil))))))))))))
def ir_law : ISs :=
  (.cons lp_law_2
  (.cons (.ret (.lit (.bl true)))
  .nil))
-- slots: 0 _law_script 1 _law_k 2 _law_hand_here 3 _law_ground_here 4 _law_base 5 _law_some 6 _law_rows 7 _law_kept 8 _law_pairs 9 _law_ahead 10 _law_later 11 _law_turn 12 _law_name 13 _law_kind
-- calls: [('put_behind', 0, ('second', 'first', 'theory')), ('_law_behind', 2, ()), ('put_behind', 3, ()), ('_law_right', 4, ()), ('_law_body', 4, ()), ('_law_of', 2, ()), ('_law_puts', 3, ()), ('_law_theory', 1, ()), ('_law_ground', 1, ()), ('_law_hand', 2, ())] ; methods: [] ; fields: [] ; constants: []
end K11

namespace K11
open PySem PySem.Spec PyProof.Rows L2 DL
local macro_rules | `(tactic| walk_at "dl") => `(tactic| simp only [wSs, wS, DL.wE, DL.wT, DL.wL, wEs, wO, wC, wI, wG, wGs, dSeq, dAsg, dPar, dIf, dDrop, dSlot, dC, CD.d, dBin, boR, coR, dSub, dMod, dFdiv, dTest, dChain, bQ, dNext, dRet, dRetN, dgName, dgSub, dgTup, dgCons, dgNil, dLst, dTup, dTupX, dAug, dItX, dLz, dgTup2, dLenS, diZip, dCons, dNil, dIfE, dAndT, dOrT, dNotT, dAnd, dOr, dNot, dTruth, dTru_non, dTru_bl, dTru_int, dTru_str, dTru_tup, dTru_rl, dNeg, dSlice, dNoPart, dPart, dCall, dMt, dFnN, dMth, dFld, dSfl, dFz, dLcF, dNew, dNewD, dNewK, dLenK, dSliS, dSlS, dRevX, dgHead, dFrz, dForget, isTy, isIns, BF.rd, BT.rd, BM.rd, BM.ty, BF.rt, BT.rt, IEs.len, startD, getS, setS, wipeS, endB, tb, List.getD_cons_zero, List.getD_cons_succ, List.map_cons, List.map_nil, List.replicate, List.length_cons, List.length_nil, List.cons_append, List.nil_append, List.append_nil, dI_int, dAdd_int, dAdd_str, dAdd_tup, dIB_int, dLt_int, dLt_str, dEq_int, dEq_str, dNe_int, dNe_str, lenD_tup, lenD_rl, lenD_str, dMulA_int, dSl_str, ixN3_0, ixN3_1, ixN3_2, List.set_cons_zero, List.set_cons_succ, rAbs_int, rMin_int, rMax_int, rMin_str, rMax_str, dIx_wr, lenD_wr, atI_0, atI_1, atI_2, dIx_tup, dIx_rl, dIx_str, Option.some.injEq, exists_eq_left', decide_true, decide_false, eq_self, ite_true, ite_false, if_true, if_false, true_and, and_true, Bool.false_eq_true, Bool.not_true, Bool.not_false, Nat.reduceAdd, Nat.reduceSub, tTuple, tTupleX, dIs_non, dIs_bl, DL.isNon, dIn_str1, isi_str, isi_tup, isi_tx, isi_int, isi_rl, isi_bl, isi_non])
open PR PQ K10 KG KH KT
/-! behind one another: the law's own defs -/
structure PO (g : Gr) (m n : Nat) (P : Sg) : Prop where
  puts : g.Puts P
  few : P.length ≤ n
  short : ∀ p ∈ P, p.2.length ≤ m
theorem po_of {g : Gr} {m : Nat} {P : Sg} (h : PutsOk g m P) : PO g m 12 P := ⟨h.1, h.2.1, h.2.2⟩
theorem put_lenP {m : Nat} {P : Sg} (h1 : 1 ≤ m) (hp : ∀ p ∈ P, p.2.length ≤ m) : ∀ ws : List Str, (PR.putIn P ws).length ≤ ws.length * m
  | [] => Nat.zero_le _
  | w :: r => by
    have e : PR.putIn P (w :: r) = (P.lookup w).getD [w] ++ PR.putIn P r := by unfold PR.putIn; rw [List.flatMap_cons]
    rw [e, List.length_append, List.length_cons, Nat.succ_mul]
    have := put_lenP h1 hp r
    have h1 : ((P.lookup w).getD [w]).length ≤ m := by
      cases e : P.lookup w with
      | none => simpa using h1
      | some b => exact hp _ (lookup_in e)
    omega
theorem put_wordsP {g : Gr} {P : Sg} (ok : g.Ok) (hp : g.Puts P) {ws : List Str} (hw : ∀ w ∈ ws, wordB w = true) : ∀ w ∈ PR.putIn P ws, wordB w = true := by
  intro w h
  unfold PR.putIn at h
  obtain ⟨a, ha, h⟩ := List.mem_flatMap.mp h
  cases e : P.lookup a with
  | none =>
    rw [e] at h
    simp at h
    subst h
    exact hw _ ha
  | some b =>
    rw [e] at h
    obtain ⟨k, _, hb⟩ := hp.2 _ (lookup_in e)
    exact body_words ok hb w h
theorem po_bh {g : Gr} {m n m2 n2 : Nat} {P R : Sg} (h1 : 1 ≤ m2) (hm : 1 ≤ m) (hp : PO g m n P) (hr : PO g m2 n2 R) : PO g (m * m2) (n + n2) (bh P R) := by
  refine ⟨bh_puts hp.puts hr.puts, Nat.le_trans (bh_len P R) (Nat.add_le_add hp.few hr.few), fun p h => ?_⟩
  unfold bh at h
  rcases List.mem_append.mp h with h | h
  · obtain ⟨q, hq, rfl⟩ := List.mem_map.mp h
    exact Nat.le_trans (put_lenP h1 hr.short q.2) (Nat.mul_le_mul_right _ (hp.short q hq))
  · have := hr.short p (List.mem_filter.mp h).1
    exact Nat.le_trans this (Nat.le_mul_of_pos_left _ hm)
theorem po_nm {g : Gr} {m n : Nat} {P : Sg} (h : PO g m n P) : ∀ p ∈ P, isNm g p.1 = true := fun p hp => puts_name h.puts hp
theorem po_sh {g : Gr} {m n : Nat} {P : Sg} (ok : g.Ok) (h : PO g m n P) : Sh 3 (n * (2 * (m * 64 + 67) + 5) + 3) (.tx (P.map ptD)) := sh_puts (fun p hp => by
  obtain ⟨k, hk, hb⟩ := h.puts.2 p hp
  exact ⟨(ok.nw _ (lookup_in hk)).1, body_words ok hb, h.short p hp⟩) h.few
theorem sh_txtup {k n : Nat} {xs : List D} (h : Sh k n (.tx xs)) : Sh k n (.tup xs) := by
  refine ⟨?_, ?_, ?_, ?_⟩
  · have h1 := h.flat; unfold flatD at h1 ⊢; exact h1
  · have h1 := h.nod; unfold toPy at h1 ⊢; exact h1
  · have h1 := h.dep; unfold toPy at h1 ⊢; omega
  · have h1 := h.shw; unfold Shw toPy at h1 ⊢; exact h1
def spLB : DSp := fun ds M Q E => ∃ P R : Sg, ds = [.tx (P.map ptD), .tx (R.map ptD)] ∧ P.length ≤ 1000 ∧ R.length ≤ 1000 ∧ (∀ p ∈ P, (PR.putIn R p.2).length ≤ 100000) ∧ Q (.tup ((bh P R).map ptD)) M
theorem law_behind (ds : List D) (M : Mem) (Q : QE) (E : EX) (H : spLB ds M Q E) : wSs (tb [spPut] [] []) ir__law_behind (endB Q) E (startD 6 ds) M := by
  obtain ⟨P, R, rfl, hl, hl2, hp, q⟩ := H
  have s24 : sizeLine = 2 ^ 24 := rfl
  unfold ir__law_behind
  walk_at "dl"
  refine lcT P ptD (fun _ => true) (fun p => .str p.1) (fun R h => by
    unfold diAny
    walk_at "dl"
    exact h (fun _ => True) trivial) (by omega) (fun p hpm K N h1 _ => ?_) ?_
  · unfold ptD dYes
    walk_at "dl"
    exact h1 rfl
  rw [List.filter_eq_self.mpr fun _ _ => rfl]
  refine lcT P ptD (fun _ => true) (fun p => ptD (p.1, PR.putIn R p.2)) (fun R h => by
    unfold diAny
    walk_at "dl"
    exact h (fun _ => True) trivial) (by omega) (fun p hpm K N h1 _ => ?_) ?_
  · unfold ptD dYes
    walk_at "dl"
    exact ⟨p.2, R, rfl, hl2, hp p hpm, by omega, h1 rfl⟩
  rw [List.filter_eq_self.mpr fun _ _ => rfl]
  have en : (P.map fun p => D.str p.1) = (P.map Prod.fst).map D.str := by rw [List.map_map]; rfl
  rw [en]
  try walk_at "dl"
  refine lcT R ptD (fun q => !decide (q.1 ∈ P.map Prod.fst)) ptD (fun R h => by
    unfold diAny
    walk_at "dl"
    exact h (fun _ => True) trivial) (by omega) (fun p hpm K N h1 h2 => ?_) ?_
  · unfold ptD at h1 ⊢
    walk_at "dl"
    refine in_rl ?_
    walk_at "dl"
    cases e : decide (p.1 ∈ P.map Prod.fst) with
    | true =>
      rw [e] at h2
      walk_at "dl"
      exact h2 rfl
    | false =>
      rw [e] at h1
      walk_at "dl"
      exact ⟨by omega, h1 rfl⟩
  · have e1 : (P.map fun p => ptD (p.1, PR.putIn R p.2)) ++ (R.filter fun q => !decide (q.1 ∈ P.map Prod.fst)).map ptD = (bh P R).map ptD := by
      unfold bh
      rw [List.map_append, List.map_map]
      rfl
    rw [dAdd_rl, e1]
    have hb := bh_len P R
    refine ⟨by rw [List.length_map, List.length_map]; have := List.length_filter_le (fun q : Str × List Str => !decide (q.1 ∈ P.map Prod.fst)) R; omega, fun p3 hp3 => ⟨_, wr_same, ?_⟩⟩
    rw [mdel_wr hp3]
    exact ⟨_, Sub.refl, q⟩
def RowsOk (rs : List (List Str)) : Prop := ∀ r ∈ rs, r.length ≤ 20 ∧ ∀ w ∈ r, wordB w = true
def spRight (C : Addr) : DSp := fun ds M Q E => ∃ (t : Addr) (g : Gr) (P R : Sg) (rows : List (List Str)), ds = [.ref t, .tx (P.map ptD), .tx (R.map ptD), .rl (rows.map tS)] ∧ g.Ok ∧ ThAt C M t g [] ∧ PO g 9 12 P ∧ PO g 9 12 R ∧ RowsOk rows ∧ rows.length ≤ 1000 ∧ Q (.bl true) M
theorem law_right (C : Addr) (ds : List D) (M : Mem) (Q : QE) (E : EX) (H : spRight C ds M Q E) : wSs (tb [PR.spPutIn, spIsPuts C, spLB, spBehind C] [] []) ir__law_right (endB Q) E (startD 6 ds) M := by
  obtain ⟨t, g, P, R, rows, rfl, ok, th, hP, hR, hr, hrl, q⟩ := H
  have s24 : sizeLine = 2 ^ 24 := rfl
  have hB := po_bh (by decide) (by decide) hP hR
  have hp2 : ∀ p ∈ P, (PR.putIn R p.2).length ≤ 81 := fun p hp => by
    have h1 := put_lenP (by decide) hR.short p.2
    have h2 := hP.short p hp
    omega
  have pl := hP.few
  have rl := hR.few
  have shB : Sh 3 _ (.tx ((bh P R).map ptD)) := po_sh ok hB
  unfold ir__law_right
  walk_at "dl"
  refine ⟨t, g, [], P, R, rfl, th, hR.puts.1, by omega, by omega, fun p hp => by have := hp2 p hp; omega, ?_⟩
  rw [behind_eq (po_nm hP)]
  refine rRepr_sh (shB.le (by decide) (Nat.le_refl _)) (by omega) ?_
  refine ⟨P, R, rfl, by omega, by omega, fun p hp => by have := hp2 p hp; omega, ?_⟩
  refine rRepr_sh ((sh_txtup shB).le (by decide) (Nat.le_refl _)) (by omega) ?_
  rw [shD_tx]
  refine ne_str ?_
  walk_at "dl"
  refine ⟨t, g, [], bh P R, rfl, ok, th, hB.puts, by have := hB.few; omega, fun p hp => by have := hB.short p hp; omega, ?_⟩
  try walk_at "dl"
  refine allT rows tS (fun _ => true) (fun R h => by
    unfold diAny
    walk_at "dl"
    exact h (fun _ => True) trivial) (by omega) (fun r hrm K h => ?_) ?_
  · obtain ⟨h1, h2⟩ := hr r hrm
    have l1 := put_lenP (by decide) hB.short r
    have l2 := put_lenP (by decide) hP.short r
    have l3 := put_lenP (by decide) hR.short (PR.putIn P r)
    walk_at "dl"
    refine ⟨r, bh P R, rfl, hB.puts.1, by omega, r, P, rfl, hP.puts.1, by omega, PR.putIn P r, R, rfl, hR.puts.1, by omega, ?_⟩
    refine dEq_tS ?_
    rw [bh_put, decide_eq_true rfl]
    exact h
  · rw [List.all_eq_true.mpr fun _ _ => rfl]
    exact ⟨M, Sub.refl, q⟩
end K11

namespace K11
open PySem PySem.Spec PyProof.Rows L2 DL
local macro_rules | `(tactic| walk_at "dl") => `(tactic| simp only [wSs, wS, DL.wE, DL.wT, DL.wL, wEs, wO, wC, wI, wG, wGs, dSeq, dAsg, dPar, dIf, dDrop, dSlot, dC, CD.d, dBin, boR, coR, dSub, dMod, dFdiv, dTest, dChain, bQ, dNext, dRet, dRetN, dgName, dgSub, dgTup, dgCons, dgNil, dLst, dTup, dTupX, dAug, dItX, dLz, dgTup2, dLenS, diZip, dCons, dNil, dIfE, dAndT, dOrT, dNotT, dAnd, dOr, dNot, dTruth, dTru_non, dTru_bl, dTru_int, dTru_str, dTru_tup, dTru_rl, dNeg, dSlice, dNoPart, dPart, dCall, dMt, dFnN, dMth, dFld, dSfl, dFz, dLcF, dNew, dNewD, dNewK, dLenK, dSliS, dSlS, dRevX, dgHead, dFrz, dForget, isTy, isIns, BF.rd, BT.rd, BM.rd, BM.ty, BF.rt, BT.rt, IEs.len, startD, getS, setS, wipeS, endB, tb, List.getD_cons_zero, List.getD_cons_succ, List.map_cons, List.map_nil, List.replicate, List.length_cons, List.length_nil, List.cons_append, List.nil_append, List.append_nil, dI_int, dAdd_int, dAdd_str, dAdd_tup, dIB_int, dLt_int, dLt_str, dEq_int, dEq_str, dNe_int, dNe_str, lenD_tup, lenD_rl, lenD_str, dMulA_int, dSl_str, ixN3_0, ixN3_1, ixN3_2, List.set_cons_zero, List.set_cons_succ, rAbs_int, rMin_int, rMax_int, rMin_str, rMax_str, dIx_wr, lenD_wr, atI_0, atI_1, atI_2, dIx_tup, dIx_rl, dIx_str, Option.some.injEq, exists_eq_left', decide_true, decide_false, eq_self, ite_true, ite_false, if_true, if_false, true_and, and_true, Bool.false_eq_true, Bool.not_true, Bool.not_false, Nat.reduceAdd, Nat.reduceSub, tTuple, tTupleX, dIs_non, dIs_bl, DL.isNon, dIn_str1, isi_str, isi_tup, isi_tx, isi_int, isi_rl, isi_bl, isi_non])
open PR PQ K10 KG KH KT
/-! the law -/
def pD (P : Sg) : D := .tx (P.map ptD)
def spBKw (C : Addr) : DSp := fun ds M Q E => ∃ (t : Addr) (g : Gr) (kept : List (Key × D)) (P R : Sg), ds = [.tx (R.map ptD), .tx (P.map ptD), .ref t] ∧ ThAt C M t g kept ∧ (R.map Prod.fst).Nodup ∧ P.length ≤ 1000 ∧ R.length ≤ 1000 ∧ (∀ p ∈ P, (PR.putIn R p.2).length ≤ 100000) ∧ Q (.tx ((behind g P R).map ptD)) M
theorem b_kw {C : Addr} {a b c : D} {M : Mem} {Q : QE} {E : EX} (h : spBKw C [a, b, c] M Q E) : spBehind C [c, b, a] M Q E := by
  obtain ⟨t, g, kept, P, R, e, r⟩ := h
  injection e with e1 e
  injection e with e2 e
  injection e with e3 _
  subst e1 e2 e3
  exact ⟨t, g, kept, P, R, rfl, r⟩
def TL (C : Addr) : Tb := tb [spBKw C, spLB, spBehind C, spRight C, spBody 20, spOfT, spPuts, spMkTh C, spGround, spHand] [] []
theorem some_map (Ps : List Sg) : Ps.map pD ++ [D.tx []] = (Ps ++ [[]]).map pD := by rw [List.map_append]; rfl
theorem loop0 {C t : Addr} {M : Mem} {g : Gr} {Ps : List Sg} {P : Sg} {rs : List (List Str)} {Dn : DEnds} {E : EX} {x0 x1 x2 x3 x7 x9 x10 : Option D} (ok : g.Ok) (th : ThAt C M t g []) (hP : PO g 9 12 P) (hPs : ∀ P ∈ Ps, PO g 9 12 P) (hl : Ps.length ≤ 100) (hr : RowsOk rs) (hrl : rs.length ≤ 1000)
    (q : ∀ y10, Dn.nx [x0, x1, x2, x3, some (.ref t), some (.rl (Ps.map pD)), some (.rl (rs.map tS)), x7, some (pD P), x9, y10, none, none, none] M) :
    wS (TL C) lp_law_0 Dn E [x0, x1, x2, x3, some (.ref t), some (.rl (Ps.map pD)), some (.rl (rs.map tS)), x7, some (pD P), x9, x10, none, none, none] M := by
  have s24 : sizeLine = 2 ^ 24 := rfl
  unfold lp_law_0 TL
  walk_at "dl"
  refine forGo ?_
  unfold diAny
  try walk_at "dl"
  refine ⟨Nat.zero_le _, by decide, fun p1 hp1 => ⟨_, wr_same, ?_⟩⟩
  rw [mdel_wr hp1]
  rw [dAdd_rl]
  refine ⟨by rw [List.length_map]; simp; omega, fun p hp => ⟨_, wr_same, ?_⟩⟩
  rw [mdel_wr hp, some_map]
  try walk_at "dl"
  refine forK (Ps ++ [[]]) pD (fun r e' M' => M' = M ∧ ∃ y10, e' = [x0, x1, x2, x3, some (.ref t), some (.rl (Ps.map pD)), some (.rl (rs.map tS)), x7, some (pD P), x9, y10, none, none, none]) (fun _ _ _ _ => trivial) ⟨rfl, _, rfl⟩ ?_ ?_
  · rintro R r e' M' ⟨pre, hpre⟩ ⟨rfl, y10, rfl⟩
    have hR : PO g 9 12 R := by
      have : R ∈ Ps ++ [[]] := by rw [hpre]; simp
      rcases List.mem_append.mp this with h | h
      · exact hPs R h
      · rw [List.mem_singleton] at h
        subst h
        exact po_of puts_none
    walk_at "dl"
    refine ⟨t, g, P, R, rs, rfl, ok, th, hP, hR, hr, hrl, ?_⟩
    try walk_at "dl"
    first | exact ⟨rfl, _, rfl⟩ | exact ⟨_, rfl⟩
  · rintro e' M' ⟨rfl, y10, rfl⟩
    exact q _
theorem loop1 {C t : Addr} {M : Mem} {g : Gr} {Ps : List Sg} {rs : List (List Str)} {Dn : DEnds} {E : EX} {x0 x1 x2 x3 x7 x8 x9 x10 : Option D} (ok : g.Ok) (th : ThAt C M t g []) (hPs : ∀ P ∈ Ps, PO g 9 12 P) (hl : Ps.length ≤ 100) (hr : RowsOk rs) (hrl : rs.length ≤ 1000)
    (q : ∀ y8 y10, Dn.nx [x0, x1, x2, x3, some (.ref t), some (.rl (Ps.map pD)), some (.rl (rs.map tS)), x7, y8, x9, y10, none, none, none] M) :
    wS (TL C) lp_law_1 Dn E [x0, x1, x2, x3, some (.ref t), some (.rl (Ps.map pD)), some (.rl (rs.map tS)), x7, x8, x9, x10, none, none, none] M := by
  have s24 : sizeLine = 2 ^ 24 := rfl
  have L0 := fun {P Dn E x10} hP q => @loop0 C t M g Ps P rs Dn E x0 x1 x2 x3 x7 x9 x10 ok th hP hPs hl hr hrl q
  unfold lp_law_1
  generalize lp_law_0 = LP at L0 ⊢
  unfold TL at L0 ⊢
  walk_at "dl"
  refine forGo ?_
  unfold diAny
  try walk_at "dl"
  refine ⟨Nat.zero_le _, by decide, fun p1 hp1 => ⟨_, wr_same, ?_⟩⟩
  rw [mdel_wr hp1]
  rw [dAdd_rl]
  refine ⟨by rw [List.length_map]; simp; omega, fun p hp => ⟨_, wr_same, ?_⟩⟩
  rw [mdel_wr hp, some_map]
  try walk_at "dl"
  refine forK (Ps ++ [[]]) pD (fun r e' M' => M' = M ∧ ∃ y8 y10, e' = [x0, x1, x2, x3, some (.ref t), some (.rl (Ps.map pD)), some (.rl (rs.map tS)), x7, y8, x9, y10, none, none, none]) (fun _ _ _ _ => trivial) ⟨rfl, _, _, rfl⟩ ?_ ?_
  · rintro P r e' M' ⟨pre, hpre⟩ ⟨rfl, y8, y10, rfl⟩
    have hP : PO g 9 12 P := by
      have : P ∈ Ps ++ [[]] := by rw [hpre]; simp
      rcases List.mem_append.mp this with h | h
      · exact hPs P h
      · rw [List.mem_singleton] at h
        subst h
        exact po_of puts_none
    walk_at "dl"
    exact L0 hP fun y => ⟨rfl, _, _, rfl⟩
  · rintro e' M' ⟨rfl, y8, y10, rfl⟩
    exact q _ _

theorem outer {C : Addr} {ns : List Int} {k : Nat} {M : Mem} {Dn : DEnds} {E : EX} {x2 x3 x4 x5 x6 x7 x8 x9 x10 : Option D} (hk : k < 3) (hl : ns.length ≤ 100000)
    (q : ∀ M' y2 y3 y4 y5 y6 y7 y8 y9 y10, Dn.nx [some (.rl (ns.map D.int)), some (.int k), y2, y3, y4, y5, y6, y7, y8, y9, y10, none, none, none] M') :
    ∀ body, lp_law_2 = .fo (.nm 1) (.rg1 (.cb .max (.lit (.int 1)) (.cons (.cb .min (.lit (.int 3)) (.cons (.cb .len (.sl 0) .nil) .nil)) .nil))) body →
    wSs (TL C) body Dn E [some (.rl (ns.map D.int)), some (.int k), x2, x3, x4, x5, x6, x7, x8, x9, x10, none, none, none] M := by
  have s24 : sizeLine = 2 ^ 24 := rfl
  intro body hb
  unfold lp_law_2 at hb
  injection hb with _ _ hb
  subst hb
  have L0 := fun {M t g Ps rs Dn E x0 x1 x2 x3 x7 x8 x9 x10} ok th hPs hl hr hrl q => @loop1 C t M g Ps rs Dn E x0 x1 x2 x3 x7 x8 x9 x10 ok th hPs hl hr hrl q
  generalize lp_law_1 = LP at L0 ⊢
  unfold TL at L0 ⊢
  walk_at "dl"
  refine ⟨ns, k, rfl, by omega, by omega, fun h hh o ho => ?_⟩
  try walk_at "dl"
  refine ⟨h, o, 0, rfl, wr_same, ho, by omega, fun g gok o1 ho1 => ?_⟩
  rw [wr_wr]
  refine ⟨g, rfl, gok.1, fun t M2 ht th hsub => ?_⟩
  have hM2 : M2 h = some o1 := hsub h o1 wr_same
  have hL : ∃ xs, o1 = .lst xs := by obtain ⟨_, _, _, e, _⟩ := ho1; exact ⟨_, e⟩
  obtain ⟨xs1, e1⟩ := hL
  have thw : ∀ o', ThAt C (wr M2 h o') t g [] := fun o' => th.wr (by rw [hM2, e1])
  try walk_at "dl"
  refine lcGo ?_
  try unfold diRng1
  try walk_at "dl"
  refine ⟨by decide, ?_⟩
  rw [show Int.toNat 3 = 3 from rfl, rng0]
  refine lcK (List.range 3) (fun i : Nat => D.int (i : Int)) (fun r acc M3 => ∃ (o2 : MO) (Ps : List Sg), M3 = wr M2 h o2 ∧ Hob o2 (0 + 200 + 40000 * Ps.length) ∧ acc = Ps.map pD ∧ Ps.length + r.length = 3 ∧ ∀ P ∈ Ps, PutsOk g 9 P) (fun _ _ _ _ => trivial) ⟨o1, [], (wr_id hM2).symm, by simpa using ho1, rfl, by simp, fun r hr => nomatch hr⟩ ?_ ?_
  · rintro i r acc M3 _ ⟨o2, Ps, rfl, ho2, rfl, hl2, hb2⟩
    rw [List.length_cons] at hl2
    unfold dYes
    walk_at "dl"
    refine ⟨h, o2, _, g, 9, rfl, by omega, by omega, gok, wr_same, ho2, by omega, fun P hP o3 ho3 => ?_⟩
    rw [wr_wr]
    refine ⟨by rw [List.length_map]; omega, o3, Ps ++ [P], rfl, ho3.le (by rw [List.length_append, List.length_singleton]; push_cast; omega), by simp [pD], by rw [List.length_append, List.length_singleton]; omega, fun R hR => ?_⟩
    rcases List.mem_append.mp hR with hR | hR
    · exact hb2 R hR
    · rw [List.mem_singleton] at hR
      subst hR
      exact hP
  · rintro acc M3 ⟨o2, Ps, rfl, ho2, rfl, hl2, hPs⟩
    rw [List.length_nil, Nat.add_zero] at hl2
    try walk_at "dl"
    refine lcT g.names nmD (fun _ => true) (fun x => tS [x.1]) (fun R h => by
      unfold diAny gD Gr.nD
      walk_at "dl"
      exact h (fun _ => True) trivial) (by have := gok.2.2.2.2; omega) (fun x hx K N h1 _ => ?_) ?_
    · unfold nmD dYes
      walk_at "dl"
      exact ⟨by omega, h1 rfl⟩
    rw [List.filter_eq_self.mpr fun _ _ => rfl]
    have er : (g.names.map fun x => tS [x.1]) = (g.names.map fun x => [x.1]).map tS := by rw [List.map_map]; rfl
    rw [er]
    try walk_at "dl"
    refine lcGo ?_
    try unfold diRng1
    try walk_at "dl"
    refine ⟨by decide, ?_⟩
    first | rw [show Int.toNat 6 = 6 from rfl, rng0] | skip
    refine lcK (List.range 6) (fun i : Nat => D.int (i : Int)) (fun r acc M3 => ∃ (o3 : MO) (bs : List (List Str)), M3 = wr M2 h o3 ∧ Hob o3 (130000 + 100 * bs.length) ∧ acc = bs.map tS ∧ bs.length + r.length = 6 ∧ RowsOk bs) (fun _ _ _ _ => trivial) ⟨o2, [], rfl, ho2.le (by simp; omega), rfl, by simp, fun r hr => nomatch hr⟩ ?_ ?_
    · rintro i r acc M3 _ ⟨o3, bs, rfl, ho3, rfl, hl3, hb3⟩
      rw [List.length_cons] at hl3
      unfold dYes
      walk_at "dl"
      unfold gD
      try walk_at "dl"
      refine kind_drawn gok wr_same ho3 (by omega) fun kk hkk o4 ho4 => ?_
      rw [wr_wr]
      refine ⟨h, o4, _, g, kk, 20, rfl, by omega, by omega, by omega, gok, hkk, wr_same, ho4, by omega, fun b hb hbl o5 ho5 => ?_⟩
      rw [wr_wr]
      refine ⟨by rw [List.length_map]; omega, o5, bs ++ [b], rfl, ho5.le (by rw [List.length_append, List.length_singleton]; push_cast; omega), by simp, by rw [List.length_append, List.length_singleton]; omega, fun x hx => ?_⟩
      rcases List.mem_append.mp hx with hx | hx
      · exact hb3 x hx
      · rw [List.mem_singleton] at hx
        subst hx
        exact ⟨hbl, body_words gok.1 hb⟩
    · rintro acc M3 ⟨o3, bs, rfl, ho3, rfl, hl3, hb3⟩
      rw [List.length_nil, Nat.add_zero] at hl3
      have hn12 := gok.2.2.2.2
      rw [dAdd_rl, ← List.map_append]
      refine ⟨by rw [List.length_map, List.length_map, List.length_map]; omega, fun p3 hp3 => ⟨_, wr_same, ?_⟩⟩
      rw [mdel_wr hp3]
      generalize hrs : (g.names.map fun x => [x.1]) ++ bs = rs
      have hrl : rs.length ≤ 20 := by rw [← hrs, List.length_append, List.length_map]; omega
      have hrk : RowsOk rs := fun r hr => by
        rw [← hrs] at hr
        rcases List.mem_append.mp hr with hr | hr
        · obtain ⟨x, hx, rfl⟩ := List.mem_map.mp hr
          refine ⟨by simp, fun w hw => ?_⟩
          rw [List.mem_singleton] at hw
          subst hw
          exact (gok.1.nw x hx).1
        · exact hb3 r hr
      have th3 := thw o3
      match Ps, hl2, hPs with
      | [P, R, S], _, hPs =>
      have hP := po_of (hPs P (by simp))
      have hR := po_of (hPs R (by simp))
      have hS := po_of (hPs S (by simp))
      have hB := po_bh (by decide) (by decide) hP hR
      have hB2 := po_bh (by decide) (by decide) hR hS
      have hB3 := po_bh (by decide) (by decide) hB hS
      have hB4 := po_bh (by decide) (by decide) hP hB2
      have pl := hP.few
      have rl := hR.few
      have sl := hS.few
      have bl := hB.few
      have bl2 := hB2.few
      have shR : ∀ Q M, Q (.str (shD (.tup [.rl ([P, R, S].map pD), .rl (rs.map tS)]))) M → rRepr [.tup [.rl ([P, R, S].map pD), .rl (rs.map tS)]] M Q := fun Q M q => by
        refine rRepr_sh (n := 2 * (100000 + 2) + 3) ((sh_tup (k := 4) (n := 100000) fun x hx => ?_).le (by decide) (Nat.le_refl _)) (by omega) q
        rcases List.mem_cons.mp hx with rfl | hx
        · refine (sh_rl (k := 3) (n := 12 * (2 * (9 * 64 + 67) + 5) + 3) fun x hx => ?_).le (by decide) (by rw [List.length_map, List.length_cons, List.length_cons, List.length_cons, List.length_nil]; decide)
          obtain ⟨P', hP', rfl⟩ := List.mem_map.mp hx
          exact po_sh gok.1 (po_of (hPs P' hP'))
        · rw [List.mem_singleton] at hx
          subst hx
          refine (sh_rl (k := 1) (n := 20 * 64 + 3) fun x hx => ?_).le (by decide) (by rw [List.length_map]; omega)
          obtain ⟨r, hr, rfl⟩ := List.mem_map.mp hx
          exact sh_tS (hrk r hr).2 (hrk r hr).1
      walk_at "dl"
      refine ⟨by omega, shR _ _ ?_⟩
      refine L0 gok.1 th3 (fun P hP => po_of (hPs P hP)) (by simp) hrk (by omega) fun y8 y10 => ?_
      try walk_at "dl"
      have le1 : ∀ p ∈ P, (PR.putIn R p.2).length ≤ 100000 := fun p hp => by
        have h1 := put_lenP (by decide) hR.short p.2
        have h2 := hP.short p hp
        omega
      have le2 : ∀ p ∈ bh P R, (PR.putIn S p.2).length ≤ 100000 := fun p hp => by
        have h1 := put_lenP (by decide) hS.short p.2
        have h2 := hB.short p hp
        omega
      have le3 : ∀ p ∈ R, (PR.putIn S p.2).length ≤ 100000 := fun p hp => by
        have h1 := put_lenP (by decide) hS.short p.2
        have h2 := hR.short p hp
        omega
      have le4 : ∀ p ∈ P, (PR.putIn (bh R S) p.2).length ≤ 100000 := fun p hp => by
        have h1 := put_lenP (by decide) hB2.short p.2
        have h2 := hP.short p hp
        omega
      unfold pD
      try walk_at "dl"
      refine ⟨t, g, [], P, R, rfl, th3, hR.puts.1, by omega, by omega, le1, ?_⟩
      rw [behind_eq (po_nm hP)]
      refine ⟨t, g, [], bh P R, S, rfl, th3, hS.puts.1, by omega, by omega, le2, ?_⟩
      rw [behind_eq (po_nm hB)]
      try walk_at "dl"
      refine rRepr_sh ((po_sh gok.1 hB3).le (by decide) (Nat.le_refl _)) (by omega) ?_
      refine ⟨t, g, [], R, S, rfl, th3, hS.puts.1, by omega, by omega, le3, ?_⟩
      rw [behind_eq (po_nm hR)]
      refine ⟨t, g, [], P, bh R S, rfl, th3, hB2.puts.1, by omega, by omega, le4, ?_⟩
      rw [behind_eq (po_nm hP)]
      refine rRepr_sh ((po_sh gok.1 hB4).le (by decide) (Nat.le_refl _)) (by omega) ?_
      rw [bh_assoc]
      refine ne_str ?_
      try walk_at "dl"
      refine ⟨t, g, [], P, R, rfl, th3, hR.puts.1, by omega, by omega, le1, ?_⟩
      rw [behind_eq (po_nm hP)]
      refine rRepr_sh ((po_sh gok.1 hB).le (by decide) (Nat.le_refl _)) (by omega) ?_
      refine ⟨P, R, rfl, by omega, by omega, le1, ?_⟩
      refine rRepr_sh ((sh_txtup (po_sh gok.1 hB)).le (by decide) (Nat.le_refl _)) (by omega) ?_
      rw [shD_tx]
      refine ne_str ?_
      try walk_at "dl"
      refine ⟨by omega, shR _ _ (ne_str ?_)⟩
      try walk_at "dl"
      exact q _ _ _ _ _ _ _ _ _ _
def spLaw : DSp := fun ds M Q E => ∃ ns : List Int, ds = [.rl (ns.map D.int)] ∧ ns.length ≤ 100000 ∧ ∀ M', Q (.bl true) M'
theorem law_law (C : Addr) (ds : List D) (M : Mem) (Q : QE) (E : EX) (H : spLaw ds M Q E) : wSs (TL C) ir_law (endB Q) E (startD 14 ds) M := by
  obtain ⟨ns, rfl, hl, q⟩ := H
  have s24 : sizeLine = 2 ^ 24 := rfl
  unfold ir_law
  walk_at "dl"
  obtain ⟨body, hb⟩ : ∃ body, lp_law_2 = .fo (.nm 1) (.rg1 (.cb .max (.lit (.int 1)) (.cons (.cb .min (.lit (.int 3)) (.cons (.cb .len (.sl 0) .nil) .nil)) .nil))) body := ⟨_, rfl⟩
  have L2 := fun {k M Dn E x2 x3 x4 x5 x6 x7 x8 x9 x10} (hk : k < 3) q => @outer C ns k M Dn E x2 x3 x4 x5 x6 x7 x8 x9 x10 hk hl q body hb
  rw [hb]
  clear hb
  walk_at "dl"
  refine forGo ?_
  try unfold diRng1
  walk_at "dl"
  obtain ⟨m, hm, hm3⟩ := hands3 ns
  rw [hm]
  refine ⟨⟨by omega, by omega⟩, ?_⟩
  rw [Int.toNat_natCast, rng0]
  refine forK (List.range m) (fun i : Nat => D.int (i : Int)) (fun r e' M' => ∃ y1 y2 y3 y4 y5 y6 y7 y8 y9 y10, e' = [some (.rl (ns.map D.int)), y1, y2, y3, y4, y5, y6, y7, y8, y9, y10, none, none, none]) (fun _ _ _ _ => trivial) ⟨_, _, _, _, _, _, _, _, _, _, rfl⟩ ?_ ?_
  · rintro i r e' M' ⟨pre, hpre⟩ ⟨y1, y2, y3, y4, y5, y6, y7, y8, y9, y10, rfl⟩
    have him : i < m := List.mem_range.mp (by rw [hpre]; simp)
    walk_at "dl"
    exact L2 (by omega) fun M2 _ _ _ _ _ _ _ _ _ => ⟨_, _, _, _, _, _, _, _, _, _, rfl⟩
  · rintro e' M' ⟨y1, y2, y3, y4, y5, y6, y7, y8, y9, y10, rfl⟩
    walk_at "dl"
    exact ⟨M', fun _ _ e => e, q M'⟩
end K11

/-! the looks (printed by mkhead.py) -/
namespace K11
open PySem PySem.Spec PyProof.Rows L2 DL
def top (i : Nat) : Stmt := PySem.Challenge.pw_putinproofs_k11_put_behind.main.body.getD i (.Pass ⟨0, 0, 0, 0⟩)
def sub (s : Stmt) (j : Nat) : Stmt := match s with
  | .ClassDef _ _ _ b _ _ _ _ _ _ _ => b.getD j (.Pass ⟨0, 0, 0, 0⟩)
  | s => s
/-! is_word -/
def c_is_word : Cc := ⟨defScope (top 29), ["thing", "sign"], [], [], [], [("FIGURES", (.str "0123456789")), ("SIGNS", (.str "abcdefghijklmnopqrstuvwxyzABCDEFGHIJKLMNOPQRSTUVWXYZ0123456789+-*=<>&|~^")), ("HOLDS", (.str "holds")), ("MOST_SIGNS", (.int 6))], false⟩
theorem sc_is_word : scB c_is_word ["thing"] = true := by decide +kernel
theorem ck_is_word : chkSs PR.ir_is_word c_is_word (defBody (top 29)) = true := by decide +kernel
def d_is_word : He.DefD := ⟨("is_word", none), "is_word", "is_word", defArgs (top 29), defBody (top 29), defScope (top 29), [], []⟩
/-! is_kind -/
def c_is_kind : Cc := ⟨defScope (top 55), ["kinds", "thing"], [], [], [], [], false⟩
theorem sc_is_kind : scB c_is_kind ["kinds", "thing"] = true := by decide +kernel
theorem ck_is_kind : chkSs PR.ir_is_kind c_is_kind (defBody (top 55)) = true := by decide +kernel
def d_is_kind : He.DefD := ⟨("is_kind", none), "is_kind", "is_kind", defArgs (top 55), defBody (top 55), defScope (top 55), [], []⟩
/-! is_shape -/
def c_is_shape : Cc := ⟨defScope (top 56), ["kinds", "thing", "parts", "part"], [("is_kind", 2, []), ("is_word", 1, [])], [], [], [("MOST_PARTS", (.int 3))], false⟩
theorem sc_is_shape : scB c_is_shape ["kinds", "thing"] = true := by decide +kernel
theorem ck_is_shape : chkSs PR.ir_is_shape c_is_shape (defBody (top 56)) = true := by decide +kernel
def d_is_shape : He.DefD := ⟨("is_shape", none), "is_shape", "is_shape", defArgs (top 56), defBody (top 56), defScope (top 56), [], []⟩
/-! is_calling -/
def c_is_calling : Cc := ⟨defScope (top 57), ["kinds", "thing"], [("is_kind", 2, []), ("is_word", 1, [])], [], [], [], false⟩
theorem sc_is_calling : scB c_is_calling ["kinds", "thing"] = true := by decide +kernel
theorem ck_is_calling : chkSs PR.ir_is_calling c_is_calling (defBody (top 57)) = true := by decide +kernel
def d_is_calling : He.DefD := ⟨("is_calling", none), "is_calling", "is_calling", defArgs (top 57), defBody (top 57), defScope (top 57), [], []⟩
/-! are_unlike -/
def c_are_unlike : Cc := ⟨defScope (top 58), ["known", "some", "words", "word", "others"], [], [], [], [], false⟩
theorem sc_are_unlike : scB c_are_unlike ["known", "some"] = true := by decide +kernel
theorem ck_are_unlike : chkSs PR.ir_are_unlike c_are_unlike (defBody (top 58)) = true := by decide +kernel
def d_are_unlike : He.DefD := ⟨("are_unlike", none), "are_unlike", "are_unlike", defArgs (top 58), defBody (top 58), defScope (top 58), [], []⟩
/-! are_kinds -/
def c_are_kinds : Cc := ⟨defScope (top 54), ["thing", "kind"], [("is_word", 1, [])], [], [], [], false⟩
theorem sc_are_kinds : scB c_are_kinds ["thing"] = true := by decide +kernel
theorem ck_are_kinds : chkSs PR.ir_are_kinds c_are_kinds (defBody (top 54)) = true := by decide +kernel
def d_are_kinds : He.DefD := ⟨("are_kinds", none), "are_kinds", "are_kinds", defArgs (top 54), defBody (top 54), defScope (top 54), [], []⟩
/-! ground_fault -/
def c_ground_fault : Cc := ⟨defScope (top 59), ["kinds", "shapes", "names", "shape", "name"], [("are_unlike", 2, []), ("is_calling", 2, []), ("is_shape", 2, []), ("are_kinds", 1, [])], [], [], [], false⟩
theorem sc_ground_fault : scB c_ground_fault ["kinds", "shapes", "names"] = true := by decide +kernel
theorem ck_ground_fault : chkSs PR.ir_ground_fault c_ground_fault (defBody (top 59)) = true := by decide +kernel
def d_ground_fault : He.DefD := ⟨("ground_fault", none), "ground_fault", "ground_fault", defArgs (top 59), defBody (top 59), defScope (top 59), [], []⟩
/-! Theory.__init__ -/
def c_Theory___init__ : Cc := ⟨defScope (sub (top 60) 0), ["self", "kinds", "shapes", "names", "statements", "why", "label", "statement", "account", "word", "kind", "parts"], [("ground_fault", 3, [])], [], [(0, "kept"), (0, "made"), (0, "called"), (0, "names"), (0, "shapes"), (0, "kinds")], [], false⟩
theorem sc_Theory___init__ : scB c_Theory___init__ ["self", "kinds", "shapes", "names", "statements"] = true := by decide +kernel
theorem ck_Theory___init__ : chkSs PR.ir_Theory___init__ c_Theory___init__ (defBody (sub (top 60) 0)) = true := by decide +kernel
def d_Theory___init__ : He.DefD := ⟨("Theory", some "__init__"), "__init__", "Theory.__init__", defArgs (sub (top 60) 0), defBody (sub (top 60) 0), defScope (sub (top 60) 0), [], [("statements", .non)]⟩
/-! Theory.making -/
def c_Theory_making : Cc := ⟨defScope (sub (top 60) 2), ["self", "word"], [], [], [(0, "made"), (0, "called")], [], false⟩
theorem sc_Theory_making : scB c_Theory_making ["self", "word"] = true := by decide +kernel
theorem ck_Theory_making : chkSs PR.ir_Theory_making c_Theory_making (defBody (sub (top 60) 2)) = true := by decide +kernel
def d_Theory_making : He.DefD := ⟨("Theory", some "making"), "making", "Theory.making", defArgs (sub (top 60) 2), defBody (sub (top 60) 2), defScope (sub (top 60) 2), [], []⟩
/-! Theory.is_called -/
def c_Theory_is_called : Cc := ⟨defScope (sub (top 60) 1), ["self", "word"], [], [], [(0, "called")], [], false⟩
theorem sc_Theory_is_called : scB c_Theory_is_called ["self", "word"] = true := by decide +kernel
theorem ck_Theory_is_called : chkSs PR.ir_Theory_is_called c_Theory_is_called (defBody (sub (top 60) 1)) = true := by decide +kernel
def d_Theory_is_called : He.DefD := ⟨("Theory", some "is_called"), "is_called", "Theory.is_called", defArgs (sub (top 60) 1), defBody (sub (top 60) 1), defScope (sub (top 60) 1), [], []⟩
/-! kind_of -/
def c_kind_of : Cc := ⟨defScope (top 1), ["theory", "thing", "wanted", "found", "word", "made", "kind", "parts"], [], [(0, "making", 1, [])], [], [], false⟩
theorem sc_kind_of : scB c_kind_of ["theory", "thing"] = true := by decide +kernel
theorem ck_kind_of : chkSs PR.ir_kind_of c_kind_of (defBody (top 1)) = true := by decide +kernel
def d_kind_of : He.DefD := ⟨("kind_of", none), "kind_of", "kind_of", defArgs (top 1), defBody (top 1), defScope (top 1), [], []⟩
/-! put_in -/
def c_put_in : Cc := ⟨defScope (top 6), ["body", "puts", "bodies", "word", "part"], [], [], [], [], false⟩
theorem sc_put_in : scB c_put_in ["body", "puts"] = true := by decide +kernel
theorem ck_put_in : chkSs PR.ir_put_in c_put_in (defBody (top 6)) = true := by decide +kernel
def d_put_in : He.DefD := ⟨("put_in", none), "put_in", "put_in", defArgs (top 6), defBody (top 6), defScope (top 6), [], []⟩
/-! names_in -/
def c_names_in : Cc := ⟨defScope (top 2), ["theory", "bodies", "body", "word"], [], [(0, "is_called", 1, [])], [], [], false⟩
theorem sc_names_in : scB c_names_in ["theory", "bodies"] = true := by decide +kernel
theorem ck_names_in : chkSs PQ.ir_names_in c_names_in (defBody (top 2)) = true := by decide +kernel
def d_names_in : He.DefD := ⟨("names_in", none), "names_in", "names_in", defArgs (top 2), defBody (top 2), defScope (top 2), [], []⟩
/-! is_put -/
def c_is_put : Cc := ⟨defScope (top 4), ["theory", "thing", "kind"], [("kind_of", 2, [])], [], [(0, "names")], [], false⟩
theorem sc_is_put : scB c_is_put ["theory", "thing"] = true := by decide +kernel
theorem ck_is_put : chkSs PQ.ir_is_put c_is_put (defBody (top 4)) = true := by decide +kernel
def d_is_put : He.DefD := ⟨("is_put", none), "is_put", "is_put", defArgs (top 4), defBody (top 4), defScope (top 4), [], []⟩
/-! is_puts -/
def c_is_puts : Cc := ⟨defScope (top 5), ["theory", "thing", "put", "name", "body"], [("is_put", 2, [])], [], [], [], false⟩
theorem sc_is_puts : scB c_is_puts ["theory", "thing"] = true := by decide +kernel
theorem ck_is_puts : chkSs PQ.ir_is_puts c_is_puts (defBody (top 5)) = true := by decide +kernel
def d_is_puts : He.DefD := ⟨("is_puts", none), "is_puts", "is_puts", defArgs (top 5), defBody (top 5), defScope (top 5), [], []⟩
/-! put_behind -/
def c_put_behind : Cc := ⟨defScope (top 7), ["theory", "first", "second", "ahead", "made", "name", "body"], [("put_in", 2, []), ("names_in", 2, [])], [], [], [], false⟩
theorem sc_put_behind : scB c_put_behind ["theory", "first", "second"] = true := by decide +kernel
theorem ck_put_behind : chkSs PQ.ir_put_behind c_put_behind (defBody (top 7)) = true := by decide +kernel
def d_put_behind : He.DefD := ⟨("put_behind", none), "put_behind", "put_behind", defArgs (top 7), defBody (top 7), defScope (top 7), [], []⟩
/-! _law_hand -/
def c__law_hand : Cc := ⟨defScope (top 62), ["_law_script", "_law_k", "_law_cell", "_law_mixed"], [], [], [], [], false⟩
theorem sc__law_hand : scB c__law_hand ["_law_script", "_law_k"] = true := by decide +kernel
theorem ck__law_hand : chkSs K10.ir__law_hand c__law_hand (defBody (top 62)) = true := by decide +kernel
def d__law_hand : He.DefD := ⟨("_law_hand", none), "_law_hand", "_law_hand", defArgs (top 62), defBody (top 62), defScope (top 62), [], []⟩
/-! _law_take -/
def c__law_take : Cc := ⟨defScope (top 63), ["_law_hand_here", "_law_many", "_law_prime", "_law_drawn", "_law_digit"], [], [], [], [], false⟩
theorem sc__law_take : scB c__law_take ["_law_hand_here", "_law_many"] = true := by decide +kernel
theorem ck__law_take : chkSs K10.ir__law_take c__law_take (defBody (top 63)) = true := by decide +kernel
def d__law_take : He.DefD := ⟨("_law_take", none), "_law_take", "_law_take", defArgs (top 63), defBody (top 63), defScope (top 63), [], []⟩
/-! _law_of -/
def c__law_of : Cc := ⟨defScope (top 64), ["_law_hand_here", "_law_some"], [("_law_take", 2, [])], [], [], [], false⟩
theorem sc__law_of : scB c__law_of ["_law_hand_here", "_law_some"] = true := by decide +kernel
theorem ck__law_of : chkSs K10.ir__law_of c__law_of (defBody (top 64)) = true := by decide +kernel
def d__law_of : He.DefD := ⟨("_law_of", none), "_law_of", "_law_of", defArgs (top 64), defBody (top 64), defScope (top 64), [], []⟩
/-! _law_words -/
def c__law_words : Cc := ⟨defScope (top 65), ["_law_hand_here", "_law_many", "_law_signs", "_law_stem", "_law_k", "_law_at", "_law_words_here", "_law_sign", "_law_j"], [("_law_take", 2, []), ("_law_of", 2, [])], [], [], [], false⟩
theorem sc__law_words : scB c__law_words ["_law_hand_here", "_law_many"] = true := by decide +kernel
theorem ck__law_words : chkSs K10.ir__law_words c__law_words (defBody (top 65)) = true := by decide +kernel
def d__law_words : He.DefD := ⟨("_law_words", none), "_law_words", "_law_words", defArgs (top 65), defBody (top 65), defScope (top 65), [], []⟩
/-! _law_ground -/
def c__law_ground : Cc := ⟨defScope (top 66), ["_law_hand_here", "_law_great", "_law_words_here", "_law_k", "_law_extra", "_law_names", "_law_turned", "_law_many", "_law_more", "_law_kinds", "_law_shapes", "_law_parts", "_law_j"], [("_law_take", 2, []), ("_law_of", 2, []), ("_law_words", 2, [])], [], [], [], false⟩
theorem sc__law_ground : scB c__law_ground ["_law_hand_here"] = true := by decide +kernel
theorem ck__law_ground : chkSs K10.ir__law_ground c__law_ground (defBody (top 66)) = true := by decide +kernel
def d__law_ground : He.DefD := ⟨("_law_ground", none), "_law_ground", "_law_ground", defArgs (top 66), defBody (top 66), defScope (top 66), [], []⟩
/-! _law_body -/
def c__law_body : Cc := ⟨defScope (top 67), ["_law_hand_here", "_law_ground_here", "_law_kind", "_law_room", "_law_shapes", "_law_names", "_law_got", "_law_part", "_law_word", "_law_own", "_law_parts", "_law_row", "_law_name"], [("_law_body", 4, []), ("_law_of", 2, []), ("_law_take", 2, [])], [], [], [], false⟩
theorem sc__law_body : scB c__law_body ["_law_hand_here", "_law_ground_here", "_law_kind", "_law_room"] = true := by decide +kernel
theorem ck__law_body : chkSs K10.ir__law_body c__law_body (defBody (top 67)) = true := by decide +kernel
def d__law_body : He.DefD := ⟨("_law_body", none), "_law_body", "_law_body", defArgs (top 67), defBody (top 67), defScope (top 67), [], []⟩
/-! _law_theory -/
def c__law_theory : Cc := ⟨defScope (top 68), ["_law_ground_here"], [("Theory", 3, [])], [], [], [], false⟩
theorem sc__law_theory : scB c__law_theory ["_law_ground_here"] = true := by decide +kernel
theorem ck__law_theory : chkSs K10.ir__law_theory c__law_theory (defBody (top 68)) = true := by decide +kernel
def d__law_theory : He.DefD := ⟨("_law_theory", none), "_law_theory", "_law_theory", defArgs (top 68), defBody (top 68), defScope (top 68), [], []⟩
/-! _law_puts -/
def c__law_puts : Cc := ⟨defScope (top 69), ["_law_hand_here", "_law_ground_here", "_law_room", "_law_k", "_law_left", "_law_got", "_law_kinds", "_law_name", "_law_kind", "_law_early", "_law_told", "_law_late", "_law_more"], [("_law_take", 2, []), ("_law_body", 4, [])], [], [], [], false⟩
theorem sc__law_puts : scB c__law_puts ["_law_hand_here", "_law_ground_here", "_law_room"] = true := by decide +kernel
theorem ck__law_puts : chkSs K10.ir__law_puts c__law_puts (defBody (top 69)) = true := by decide +kernel
def d__law_puts : He.DefD := ⟨("_law_puts", none), "_law_puts", "_law_puts", defArgs (top 69), defBody (top 69), defScope (top 69), [], []⟩
/-! _law_put -/
def c__law_put : Cc := ⟨defScope (top 70), ["_law_row", "_law_pairs", "_law_got", "_law_word", "_law_some", "_law_name", "_law_told"], [], [], [], [], false⟩
theorem sc__law_put : scB c__law_put ["_law_row", "_law_pairs"] = true := by decide +kernel
theorem ck__law_put : chkSs K10.ir__law_put c__law_put (defBody (top 70)) = true := by decide +kernel
def d__law_put : He.DefD := ⟨("_law_put", none), "_law_put", "_law_put", defArgs (top 70), defBody (top 70), defScope (top 70), [], []⟩
/-! _law_behind -/
def c__law_behind : Cc := ⟨defScope (top 71), ["_law_pairs", "_law_later", "_law_ahead", "_law_got", "_law_name", "_law_told"], [("_law_put", 2, [])], [], [], [], false⟩
theorem sc__law_behind : scB c__law_behind ["_law_pairs", "_law_later"] = true := by decide +kernel
theorem ck__law_behind : chkSs K11.ir__law_behind c__law_behind (defBody (top 71)) = true := by decide +kernel
def d__law_behind : He.DefD := ⟨("_law_behind", none), "_law_behind", "_law_behind", defArgs (top 71), defBody (top 71), defScope (top 71), [], []⟩
/-! _law_right -/
def c__law_right : Cc := ⟨defScope (top 72), ["_law_base", "_law_pairs", "_law_later", "_law_rows", "_law_told", "_law_row"], [("put_in", 2, []), ("is_puts", 2, []), ("_law_behind", 2, []), ("put_behind", 3, [])], [], [], [], false⟩
theorem sc__law_right : scB c__law_right ["_law_base", "_law_pairs", "_law_later", "_law_rows"] = true := by decide +kernel
theorem ck__law_right : chkSs K11.ir__law_right c__law_right (defBody (top 72)) = true := by decide +kernel
def d__law_right : He.DefD := ⟨("_law_right", none), "_law_right", "_law_right", defArgs (top 72), defBody (top 72), defScope (top 72), [], []⟩
/-! law -/
def c_law : Cc := ⟨defScope (top 73), ["_law_script", "_law_k", "_law_hand_here", "_law_ground_here", "_law_base", "_law_some", "_law_rows", "_law_kept", "_law_pairs", "_law_ahead", "_law_later", "_law_turn", "_law_name", "_law_kind"], [("put_behind", 0, ["second", "first", "theory"]), ("_law_behind", 2, []), ("put_behind", 3, []), ("_law_right", 4, []), ("_law_body", 4, []), ("_law_of", 2, []), ("_law_puts", 3, []), ("_law_theory", 1, []), ("_law_ground", 1, []), ("_law_hand", 2, [])], [], [], [], false⟩
theorem sc_law : scB c_law ["_law_script"] = true := by decide +kernel
theorem ck_law : chkSs K11.ir_law c_law (defBody (top 73)) = true := by decide +kernel
def d_law : He.DefD := ⟨("law", none), "law", "law", defArgs (top 73), defBody (top 73), defScope (top 73), [], []⟩
end K11

namespace K11
open PySem PySem.Spec PyProof.Rows L2 DL
open PR PQ K10 KG KH KT
def fn : List He.DefD := [d_is_word, d_is_kind, d_is_shape, d_is_calling, d_are_unlike, d_are_kinds, d_ground_fault, d_Theory___init__, d_Theory_making, d_Theory_is_called, d_kind_of, d_put_in, d_names_in, d_is_put, d_is_puts, d_put_behind, d__law_hand, d__law_take, d__law_of, d__law_words, d__law_ground, d__law_body, d__law_theory, d__law_puts, d__law_put, d__law_behind, d__law_right, d_law]
def flds : List Str := ["kept", "made", "called", "names", "shapes", "kinds"]
structure Hd (K : PySem.W.Frag) (mg : Str → Option Value) : Prop where
  free : ∀ n ∈ freeNames, mg n = none
  has : ∀ d ∈ fn, ∃ fd, HasD K d fd
  glo : ∀ d ∈ fn, d.at_ = (d.name, none) → mg d.name = some (.ref (He.fAd K d.at_))
  cs_is_word : CsOk2 mg c_is_word.cs
  cs_is_shape : CsOk2 mg c_is_shape.cs
  cls : Cls K (He.ga K "Theory")
  noat : ∀ f ∈ flds, NoAttr K (He.ga K "Theory") f
  mkr_ : Mk K (He.ga K "Theory") (He.ma K (He.ga K "Theory") "__init__")
  keep : PySem.W.keepIn K (.ref (He.ga K "Theory")) = true
  glT : mg "Theory" = some (.ref (He.ga K "Theory"))
  meth_is_called : Meth K (He.ga K "Theory") "is_called" (He.ma K (He.ga K "Theory") "is_called")
  meth_making : Meth K (He.ga K "Theory") "making" (He.ma K (He.ga K "Theory") "making")
section
variable {P : Program} {w : World} {K : PySem.W.Frag} {mg : Str → Option Value} {base : Heap}
theorem G_is_word (B : Hd K mg) : GlobOk P w K mg base 1 "is_word" 1 [] (PR.spWord) := by
  obtain ⟨fd, h⟩ := B.has d_is_word (List.mem_of_getElem? (i := 0) rfl)
  exact glob_plain h rfl (B.glo d_is_word (List.mem_of_getElem? (i := 0) rfl) rfl) (mkG (k := 0) (c := c_is_word) (ir := PR.ir_is_word) (ps := ["thing"]) h rfl sc_is_word rfl ck_is_word (fun ds M Q E ⟨_, e, _⟩ => by rw [e]; rfl) (tab_of (gs := []) (ms := []) (cs := []) B.free B.cs_is_word trivial trivial trivial) (PR.is_word _)) (fun kV doc pm an cdv ct us ws l1 l2 => match us, l1, ws, l2 with | [_], _, [], _ => rfl)
theorem G_is_kind (B : Hd K mg) : GlobOk P w K mg base 1 "is_kind" 2 [] (PR.spKind) := by
  obtain ⟨fd, h⟩ := B.has d_is_kind (List.mem_of_getElem? (i := 1) rfl)
  exact glob_plain h rfl (B.glo d_is_kind (List.mem_of_getElem? (i := 1) rfl) rfl) (mkG (k := 0) (c := c_is_kind) (ir := PR.ir_is_kind) (ps := ["kinds", "thing"]) h rfl sc_is_kind rfl ck_is_kind (fun ds M Q E ⟨_, _, e, _⟩ => by rw [e]; rfl) (tab_of (gs := []) (ms := []) (cs := []) B.free trivial trivial trivial trivial) (PR.is_kind _)) (fun kV doc pm an cdv ct us ws l1 l2 => match us, l1, ws, l2 with | [_, _], _, [], _ => rfl)
theorem G_is_shape (B : Hd K mg) : GlobOk P w K mg base 2 "is_shape" 2 [] (PR.spShape) := by
  obtain ⟨fd, h⟩ := B.has d_is_shape (List.mem_of_getElem? (i := 2) rfl)
  exact glob_plain h rfl (B.glo d_is_shape (List.mem_of_getElem? (i := 2) rfl) rfl) (mkG (k := 1) (c := c_is_shape) (ir := PR.ir_is_shape) (ps := ["kinds", "thing"]) h rfl sc_is_shape rfl ck_is_shape (fun ds M Q E ⟨_, _, e, _⟩ => by rw [e]; rfl) (tab_of (gs := [PR.spKind, PR.spWord]) (ms := []) (cs := []) B.free B.cs_is_shape ⟨by decide +kernel, (G_is_kind B).mono (by decide), by decide +kernel, (G_is_word B).mono (by decide), trivial⟩ trivial trivial) (PR.is_shape)) (fun kV doc pm an cdv ct us ws l1 l2 => match us, l1, ws, l2 with | [_, _], _, [], _ => rfl)
theorem G_is_calling (B : Hd K mg) : GlobOk P w K mg base 2 "is_calling" 2 [] (PR.spCalling) := by
  obtain ⟨fd, h⟩ := B.has d_is_calling (List.mem_of_getElem? (i := 3) rfl)
  exact glob_plain h rfl (B.glo d_is_calling (List.mem_of_getElem? (i := 3) rfl) rfl) (mkG (k := 1) (c := c_is_calling) (ir := PR.ir_is_calling) (ps := ["kinds", "thing"]) h rfl sc_is_calling rfl ck_is_calling (fun ds M Q E ⟨_, _, e, _⟩ => by rw [e]; rfl) (tab_of (gs := [PR.spKind, PR.spWord]) (ms := []) (cs := []) B.free trivial ⟨by decide +kernel, (G_is_kind B).mono (by decide), by decide +kernel, (G_is_word B).mono (by decide), trivial⟩ trivial trivial) (PR.is_calling)) (fun kV doc pm an cdv ct us ws l1 l2 => match us, l1, ws, l2 with | [_, _], _, [], _ => rfl)
theorem G_are_unlike (B : Hd K mg) : GlobOk P w K mg base 1 "are_unlike" 2 [] (PR.spUnlike) := by
  obtain ⟨fd, h⟩ := B.has d_are_unlike (List.mem_of_getElem? (i := 4) rfl)
  exact glob_plain h rfl (B.glo d_are_unlike (List.mem_of_getElem? (i := 4) rfl) rfl) (mkG (k := 0) (c := c_are_unlike) (ir := PR.ir_are_unlike) (ps := ["known", "some"]) h rfl sc_are_unlike rfl ck_are_unlike (fun ds M Q E ⟨_, _, _, e, _⟩ => by rw [e]; rfl) (tab_of (gs := []) (ms := []) (cs := []) B.free trivial trivial trivial trivial) (PR.are_unlike _)) (fun kV doc pm an cdv ct us ws l1 l2 => match us, l1, ws, l2 with | [_, _], _, [], _ => rfl)
theorem G_are_kinds (B : Hd K mg) : GlobOk P w K mg base 2 "are_kinds" 1 [] (PR.spKinds) := by
  obtain ⟨fd, h⟩ := B.has d_are_kinds (List.mem_of_getElem? (i := 5) rfl)
  exact glob_plain h rfl (B.glo d_are_kinds (List.mem_of_getElem? (i := 5) rfl) rfl) (mkG (k := 1) (c := c_are_kinds) (ir := PR.ir_are_kinds) (ps := ["thing"]) h rfl sc_are_kinds rfl ck_are_kinds (fun ds M Q E ⟨_, e, _⟩ => by rw [e]; rfl) (tab_of (gs := [PR.spWord]) (ms := []) (cs := []) B.free trivial ⟨by decide +kernel, (G_is_word B).mono (by decide), trivial⟩ trivial trivial) (PR.are_kinds)) (fun kV doc pm an cdv ct us ws l1 l2 => match us, l1, ws, l2 with | [_], _, [], _ => rfl)
theorem G_ground_fault (B : Hd K mg) : GlobOk P w K mg base 3 "ground_fault" 3 [] (PR.spFault) := by
  obtain ⟨fd, h⟩ := B.has d_ground_fault (List.mem_of_getElem? (i := 6) rfl)
  exact glob_plain h rfl (B.glo d_ground_fault (List.mem_of_getElem? (i := 6) rfl) rfl) (mkG (k := 2) (c := c_ground_fault) (ir := PR.ir_ground_fault) (ps := ["kinds", "shapes", "names"]) h rfl sc_ground_fault rfl ck_ground_fault (fun ds M Q E ⟨_, e, _⟩ => by rw [e]; rfl) (tab_of (gs := [PR.spUnlike, PR.spCalling, PR.spShape, PR.spKinds]) (ms := []) (cs := []) B.free trivial ⟨by decide +kernel, (G_are_unlike B).mono (by decide), by decide +kernel, (G_is_calling B).mono (by decide), by decide +kernel, (G_is_shape B).mono (by decide), by decide +kernel, (G_are_kinds B).mono (by decide), trivial⟩ trivial trivial) (PR.ground_fault)) (fun kV doc pm an cdv ct us ws l1 l2 => match us, l1, ws, l2 with | [_, _, _], _, [], _ => rfl)
theorem G_Theory___init__ (B : Hd K mg) : GlobOk P w K mg base 5 "Theory" 3 [] (K10.spTheory (He.ga K "Theory")) := by
  obtain ⟨fd, h⟩ := B.has d_Theory___init__ (List.mem_of_getElem? (i := 7) rfl)
  have F := mkG (P := P) (w := w) (mg := mg) (base := base) (k := 3) (c := c_Theory___init__) (ir := PR.ir_Theory___init__) (ps := ["self", "kinds", "shapes", "names", "statements"]) h rfl sc_Theory___init__ rfl ck_Theory___init__ (fun ds M Q E ⟨_, _, e, _⟩ => by rw [e]; rfl) (tab_of (gs := [PR.spFault]) (ms := []) (cs := [(He.ga K "Theory")]) B.free trivial ⟨by decide +kernel, (G_ground_fault B).mono (by decide), trivial⟩ trivial ⟨⟨B.cls, B.noat _ (by decide)⟩, ⟨B.cls, B.noat _ (by decide)⟩, ⟨B.cls, B.noat _ (by decide)⟩, ⟨B.cls, B.noat _ (by decide)⟩, ⟨B.cls, B.noat _ (by decide)⟩, ⟨B.cls, B.noat _ (by decide)⟩, trivial⟩) (PR.theory_init (He.ga K "Theory"))
  refine ⟨_, B.glT, B.keep, ?_⟩
  refine callOk_mk B.mkr_ F (kbd_kwo (kws := [("statements", .non)]) h 4 [] [0, 1, 2, 3, 4] [("statements", .non)] [.non] (by simp) (by simp) (fun H => by exact isL_cons.mpr ⟨_, _, rfl, ii_non, isL_nil.mpr rfl⟩) ?_) ?_
  · intro D doc pm an cdv ct us mv ws l1 l2 l3
    match us, l1, mv, l2, ws, l3 with
    | [_, _, _, _], _, [_], _, [], _ => exact ⟨_, _, _, _, _, _, rfl, rfl, rfl⟩
  · intro ds cs M Q E l1 l2 q x hx
    have := K10.theory_make (He.ga K "Theory") l1 l2 q x hx
    match ds, l1, cs, l2 with
    | [_, _, _], _, [], _ => exact this
theorem G_Theory_making (B : Hd K mg) : MethOk P w K mg base 1 (He.ga K "Theory") "making" 1 [] (PR.spMaking (He.ga K "Theory")) := by
  obtain ⟨fd, h⟩ := B.has d_Theory_making (List.mem_of_getElem? (i := 8) rfl)
  have F := mkG (P := P) (w := w) (mg := mg) (base := base) (k := 0) (c := c_Theory_making) (ir := PR.ir_Theory_making) (ps := ["self", "word"]) h rfl sc_Theory_making rfl ck_Theory_making (fun ds M Q E ⟨_, _, _, _, e, _⟩ => by rw [e]; rfl) (tab_of (gs := []) (ms := []) (cs := [(He.ga K "Theory")]) B.free trivial trivial trivial ⟨⟨B.cls, B.noat _ (by decide)⟩, ⟨B.cls, B.noat _ (by decide)⟩, trivial⟩) (PR.making (He.ga K "Theory"))
  refine ⟨_, B.cls, B.meth_making, callOk_fn F (kbd_plain h 2 [] (List.range 2) fun kV doc pm an cdv ct us ws l1 l2 => ?_) fun ds cs M Q E l1 l2 q => ?_⟩
  · match us, l1, ws, l2 with
    | [_, _], _, [], _ => rfl
  · have : cs = [] := List.length_eq_zero_iff.mp l2
    subst this
    unfold gI
    rw [List.append_nil] at q ⊢
    have l1' : ds.length = 2 := l1
    rw [← l1', range_all]
    exact q
theorem G_Theory_is_called (B : Hd K mg) : MethOk P w K mg base 1 (He.ga K "Theory") "is_called" 1 [] (PR.spIsCalled (He.ga K "Theory")) := by
  obtain ⟨fd, h⟩ := B.has d_Theory_is_called (List.mem_of_getElem? (i := 9) rfl)
  have F := mkG (P := P) (w := w) (mg := mg) (base := base) (k := 0) (c := c_Theory_is_called) (ir := PR.ir_Theory_is_called) (ps := ["self", "word"]) h rfl sc_Theory_is_called rfl ck_Theory_is_called (fun ds M Q E ⟨_, _, _, _, e, _⟩ => by rw [e]; rfl) (tab_of (gs := []) (ms := []) (cs := [(He.ga K "Theory")]) B.free trivial trivial trivial ⟨⟨B.cls, B.noat _ (by decide)⟩, trivial⟩) (PR.is_called (He.ga K "Theory"))
  refine ⟨_, B.cls, B.meth_is_called, callOk_fn F (kbd_plain h 2 [] (List.range 2) fun kV doc pm an cdv ct us ws l1 l2 => ?_) fun ds cs M Q E l1 l2 q => ?_⟩
  · match us, l1, ws, l2 with
    | [_, _], _, [], _ => rfl
  · have : cs = [] := List.length_eq_zero_iff.mp l2
    subst this
    unfold gI
    rw [List.append_nil] at q ⊢
    have l1' : ds.length = 2 := l1
    rw [← l1', range_all]
    exact q
theorem G_kind_of (B : Hd K mg) : GlobOk P w K mg base 2 "kind_of" 2 [] (PR.spKindOf (He.ga K "Theory")) := by
  obtain ⟨fd, h⟩ := B.has d_kind_of (List.mem_of_getElem? (i := 10) rfl)
  exact glob_plain h rfl (B.glo d_kind_of (List.mem_of_getElem? (i := 10) rfl) rfl) (mkG (k := 1) (c := c_kind_of) (ir := PR.ir_kind_of) (ps := ["theory", "thing"]) h rfl sc_kind_of rfl ck_kind_of (fun ds M Q E ⟨_, _, _, _, e, _⟩ => by rw [e]; rfl) (tab_of (gs := []) (ms := [PR.spMaking (He.ga K "Theory")]) (cs := [(He.ga K "Theory")]) B.free trivial trivial ⟨(G_Theory_making B).mono (by decide), trivial⟩ trivial) (PR.kind_of (He.ga K "Theory"))) (fun kV doc pm an cdv ct us ws l1 l2 => match us, l1, ws, l2 with | [_, _], _, [], _ => rfl)
theorem G_put_in (B : Hd K mg) : GlobOk P w K mg base 1 "put_in" 2 [] (PR.spPutIn) := by
  obtain ⟨fd, h⟩ := B.has d_put_in (List.mem_of_getElem? (i := 11) rfl)
  exact glob_plain h rfl (B.glo d_put_in (List.mem_of_getElem? (i := 11) rfl) rfl) (mkG (k := 0) (c := c_put_in) (ir := PR.ir_put_in) (ps := ["body", "puts"]) h rfl sc_put_in rfl ck_put_in (fun ds M Q E ⟨_, _, e, _⟩ => by rw [e]; rfl) (tab_of (gs := []) (ms := []) (cs := []) B.free trivial trivial trivial trivial) (PR.put_in _)) (fun kV doc pm an cdv ct us ws l1 l2 => match us, l1, ws, l2 with | [_, _], _, [], _ => rfl)
theorem G_names_in (B : Hd K mg) : GlobOk P w K mg base 2 "names_in" 2 [] (PR.spNames (He.ga K "Theory")) := by
  obtain ⟨fd, h⟩ := B.has d_names_in (List.mem_of_getElem? (i := 12) rfl)
  exact glob_plain h rfl (B.glo d_names_in (List.mem_of_getElem? (i := 12) rfl) rfl) (mkG (k := 1) (c := c_names_in) (ir := PQ.ir_names_in) (ps := ["theory", "bodies"]) h rfl sc_names_in rfl ck_names_in (fun ds M Q E ⟨_, _, _, _, e, _⟩ => by rw [e]; rfl) (tab_of (gs := []) (ms := [PR.spIsCalled (He.ga K "Theory")]) (cs := [(He.ga K "Theory")]) B.free trivial trivial ⟨(G_Theory_is_called B).mono (by decide), trivial⟩ trivial) (PR.names_in_law (He.ga K "Theory"))) (fun kV doc pm an cdv ct us ws l1 l2 => match us, l1, ws, l2 with | [_, _], _, [], _ => rfl)
theorem G_is_put (B : Hd K mg) : GlobOk P w K mg base 3 "is_put" 2 [] (PR.spIsPut (He.ga K "Theory")) := by
  obtain ⟨fd, h⟩ := B.has d_is_put (List.mem_of_getElem? (i := 13) rfl)
  exact glob_plain h rfl (B.glo d_is_put (List.mem_of_getElem? (i := 13) rfl) rfl) (mkG (k := 2) (c := c_is_put) (ir := PQ.ir_is_put) (ps := ["theory", "thing"]) h rfl sc_is_put rfl ck_is_put (fun ds M Q E ⟨_, _, _, _, e, _⟩ => by rw [e]; rfl) (tab_of (gs := [PR.spKindOf (He.ga K "Theory")]) (ms := []) (cs := [(He.ga K "Theory")]) B.free trivial ⟨by decide +kernel, (G_kind_of B).mono (by decide), trivial⟩ trivial ⟨⟨B.cls, B.noat _ (by decide)⟩, trivial⟩) (PR.is_put_law (He.ga K "Theory"))) (fun kV doc pm an cdv ct us ws l1 l2 => match us, l1, ws, l2 with | [_, _], _, [], _ => rfl)
theorem G_is_puts (B : Hd K mg) : GlobOk P w K mg base 4 "is_puts" 2 [] (PR.spIsPuts (He.ga K "Theory")) := by
  obtain ⟨fd, h⟩ := B.has d_is_puts (List.mem_of_getElem? (i := 14) rfl)
  exact glob_plain h rfl (B.glo d_is_puts (List.mem_of_getElem? (i := 14) rfl) rfl) (mkG (k := 3) (c := c_is_puts) (ir := PQ.ir_is_puts) (ps := ["theory", "thing"]) h rfl sc_is_puts rfl ck_is_puts (fun ds M Q E ⟨_, _, _, _, e, _⟩ => by rw [e]; rfl) (tab_of (gs := [PR.spIsPut (He.ga K "Theory")]) (ms := []) (cs := []) B.free trivial ⟨by decide +kernel, (G_is_put B).mono (by decide), trivial⟩ trivial trivial) (PR.is_puts_law (He.ga K "Theory"))) (fun kV doc pm an cdv ct us ws l1 l2 => match us, l1, ws, l2 with | [_, _], _, [], _ => rfl)
theorem G_put_behind (B : Hd K mg) : GlobOk P w K mg base 3 "put_behind" 3 [] (PR.spBehind (He.ga K "Theory")) := by
  obtain ⟨fd, h⟩ := B.has d_put_behind (List.mem_of_getElem? (i := 15) rfl)
  exact glob_plain h rfl (B.glo d_put_behind (List.mem_of_getElem? (i := 15) rfl) rfl) (mkG (k := 2) (c := c_put_behind) (ir := PQ.ir_put_behind) (ps := ["theory", "first", "second"]) h rfl sc_put_behind rfl ck_put_behind (fun ds M Q E ⟨_, _, _, _, _, e, _⟩ => by rw [e]; rfl) (tab_of (gs := [PR.spPutIn, PR.spNames (He.ga K "Theory")]) (ms := []) (cs := []) B.free trivial ⟨by decide +kernel, (G_put_in B).mono (by decide), by decide +kernel, (G_names_in B).mono (by decide), trivial⟩ trivial trivial) (PR.put_behind_law (He.ga K "Theory"))) (fun kV doc pm an cdv ct us ws l1 l2 => match us, l1, ws, l2 with | [_, _, _], _, [], _ => rfl)
theorem G__law_hand (B : Hd K mg) : GlobOk P w K mg base 1 "_law_hand" 2 [] (K10.spHand) := by
  obtain ⟨fd, h⟩ := B.has d__law_hand (List.mem_of_getElem? (i := 16) rfl)
  exact glob_plain h rfl (B.glo d__law_hand (List.mem_of_getElem? (i := 16) rfl) rfl) (mkG (k := 0) (c := c__law_hand) (ir := K10.ir__law_hand) (ps := ["_law_script", "_law_k"]) h rfl sc__law_hand rfl ck__law_hand (fun ds M Q E ⟨_, _, e, _⟩ => by rw [e]; rfl) (tab_of (gs := []) (ms := []) (cs := []) B.free trivial trivial trivial trivial) (K10.law_hand _)) (fun kV doc pm an cdv ct us ws l1 l2 => match us, l1, ws, l2 with | [_, _], _, [], _ => rfl)
theorem G__law_take (B : Hd K mg) : GlobOk P w K mg base 1 "_law_take" 2 [] (K10.spTake) := by
  obtain ⟨fd, h⟩ := B.has d__law_take (List.mem_of_getElem? (i := 17) rfl)
  exact glob_plain h rfl (B.glo d__law_take (List.mem_of_getElem? (i := 17) rfl) rfl) (mkG (k := 0) (c := c__law_take) (ir := K10.ir__law_take) (ps := ["_law_hand_here", "_law_many"]) h rfl sc__law_take rfl ck__law_take (fun ds M Q E ⟨_, _, _, _, e, _⟩ => by rw [e]; rfl) (tab_of (gs := []) (ms := []) (cs := []) B.free trivial trivial trivial trivial) (K10.law_take _)) (fun kV doc pm an cdv ct us ws l1 l2 => match us, l1, ws, l2 with | [_, _], _, [], _ => rfl)
theorem G__law_of (B : Hd K mg) : GlobOk P w K mg base 2 "_law_of" 2 [] (K10.spOf) := by
  obtain ⟨fd, h⟩ := B.has d__law_of (List.mem_of_getElem? (i := 18) rfl)
  exact glob_plain h rfl (B.glo d__law_of (List.mem_of_getElem? (i := 18) rfl) rfl) (mkG (k := 1) (c := c__law_of) (ir := K10.ir__law_of) (ps := ["_law_hand_here", "_law_some"]) h rfl sc__law_of rfl ck__law_of (fun ds M Q E ⟨_, _, _, _, _, e, _⟩ => by rw [e]; rfl) (tab_of (gs := [K10.spTake]) (ms := []) (cs := []) B.free trivial ⟨by decide +kernel, (G__law_take B).mono (by decide), trivial⟩ trivial trivial) (K10.law_of)) (fun kV doc pm an cdv ct us ws l1 l2 => match us, l1, ws, l2 with | [_, _], _, [], _ => rfl)
theorem G__law_words (B : Hd K mg) : GlobOk P w K mg base 3 "_law_words" 2 [] (K10.spWords) := by
  obtain ⟨fd, h⟩ := B.has d__law_words (List.mem_of_getElem? (i := 19) rfl)
  exact glob_plain h rfl (B.glo d__law_words (List.mem_of_getElem? (i := 19) rfl) rfl) (mkG (k := 2) (c := c__law_words) (ir := K10.ir__law_words) (ps := ["_law_hand_here", "_law_many"]) h rfl sc__law_words rfl ck__law_words (fun ds M Q E ⟨_, _, _, e, _⟩ => by rw [e]; rfl) (tab_of (gs := [K10.spTake, K10.spOf]) (ms := []) (cs := []) B.free trivial ⟨by decide +kernel, (G__law_take B).mono (by decide), by decide +kernel, (G__law_of B).mono (by decide), trivial⟩ trivial trivial) (K10.law_words)) (fun kV doc pm an cdv ct us ws l1 l2 => match us, l1, ws, l2 with | [_, _], _, [], _ => rfl)
theorem G__law_ground (B : Hd K mg) : GlobOk P w K mg base 4 "_law_ground" 1 [] (K10.spGround) := by
  obtain ⟨fd, h⟩ := B.has d__law_ground (List.mem_of_getElem? (i := 20) rfl)
  exact glob_plain h rfl (B.glo d__law_ground (List.mem_of_getElem? (i := 20) rfl) rfl) (mkG (k := 3) (c := c__law_ground) (ir := K10.ir__law_ground) (ps := ["_law_hand_here"]) h rfl sc__law_ground rfl ck__law_ground (fun ds M Q E ⟨_, _, _, e, _⟩ => by rw [e]; rfl) (tab_of (gs := [K10.spTake, K10.spOf, K10.spWords]) (ms := []) (cs := []) B.free trivial ⟨by decide +kernel, (G__law_take B).mono (by decide), by decide +kernel, (G__law_of B).mono (by decide), by decide +kernel, (G__law_words B).mono (by decide), trivial⟩ trivial trivial) (K10.law_ground)) (fun kV doc pm an cdv ct us ws l1 l2 => match us, l1, ws, l2 with | [_], _, [], _ => rfl)
theorem G__law_body0 (B : Hd K mg) : GlobOk P w K mg base 2 "_law_body" 4 [] (K10.spBody 0) := by
  obtain ⟨fd, h⟩ := B.has d__law_body (List.mem_of_getElem? (i := 21) rfl)
  exact ⟨_, B.glo d__law_body (List.mem_of_getElem? (i := 21) rfl) rfl, h.kp, fun g _ _ _ _ _ _ pins σ H s e M us ws vs zs ds cs Q _ _ _ _ _ _ _ q => absurd q (by rintro ⟨_, _, _, _, _, room, _, h1, h2, _⟩; omega)⟩
theorem G__law_bodyr : ∀ (r : Nat) (B : Hd K mg), GlobOk P w K mg base (r + 2) "_law_body" 4 [] (K10.spBody r)
  | 0, B => (G__law_body0 B).mono (by omega)
  | r + 1, B => by
    obtain ⟨fd, h⟩ := B.has d__law_body (List.mem_of_getElem? (i := 21) rfl)
    have hm := B.glo d__law_body (List.mem_of_getElem? (i := 21) rfl) rfl
    have F := mkG (P := P) (w := w) (mg := mg) (base := base) (k := r + 2) (c := c__law_body) (ir := K10.ir__law_body) (ps := ["_law_hand_here", "_law_ground_here", "_law_kind", "_law_room"]) (sp := (K10.spBody (r + 1))) h rfl sc__law_body rfl ck__law_body (fun ds M Q E ⟨_, _, _, _, _, _, e, _⟩ => by rw [e]; rfl) (tab_of (gs := [K10.spBody r, K10.spOf, K10.spTake]) (ms := []) (cs := []) B.free trivial ⟨by decide +kernel, G__law_bodyr r B, by decide +kernel, (G__law_of B).mono (by omega), by decide +kernel, (G__law_take B).mono (by omega), trivial⟩ trivial trivial) (K10.law_body r)
    have e : r + 1 + 2 = r + 2 + 1 := by omega
    rw [e]
    exact glob_plain h rfl hm F (fun kV doc pm an cdv ct us ws l1 l2 => match us, l1, ws, l2 with | [_, _, _, _], _, [], _ => rfl)
theorem G__law_body (B : Hd K mg) : GlobOk P w K mg base 22 "_law_body" 4 [] (K10.spBody 20) := (G__law_bodyr 20 B).mono (by decide)
theorem G__law_theory (B : Hd K mg) : GlobOk P w K mg base 6 "_law_theory" 1 [] (K10.spMkTh (He.ga K "Theory")) := by
  obtain ⟨fd, h⟩ := B.has d__law_theory (List.mem_of_getElem? (i := 22) rfl)
  exact glob_plain h rfl (B.glo d__law_theory (List.mem_of_getElem? (i := 22) rfl) rfl) (mkG (k := 5) (c := c__law_theory) (ir := K10.ir__law_theory) (ps := ["_law_ground_here"]) h rfl sc__law_theory rfl ck__law_theory (fun ds M Q E ⟨_, e, _⟩ => by rw [e]; rfl) (tab_of (gs := [K10.spTheory (He.ga K "Theory")]) (ms := []) (cs := []) B.free trivial ⟨by decide +kernel, (G_Theory___init__ B).mono (by decide), trivial⟩ trivial trivial) (K10.law_theory (He.ga K "Theory"))) (fun kV doc pm an cdv ct us ws l1 l2 => match us, l1, ws, l2 with | [_], _, [], _ => rfl)
theorem G__law_puts (B : Hd K mg) : GlobOk P w K mg base 23 "_law_puts" 3 [] (K10.spPuts) := by
  obtain ⟨fd, h⟩ := B.has d__law_puts (List.mem_of_getElem? (i := 23) rfl)
  exact glob_plain h rfl (B.glo d__law_puts (List.mem_of_getElem? (i := 23) rfl) rfl) (mkG (k := 22) (c := c__law_puts) (ir := K10.ir__law_puts) (ps := ["_law_hand_here", "_law_ground_here", "_law_room"]) h rfl sc__law_puts rfl ck__law_puts (fun ds M Q E ⟨_, _, _, _, _, e, _⟩ => by rw [e]; rfl) (tab_of (gs := [K10.spTake, K10.spBody 20]) (ms := []) (cs := []) B.free trivial ⟨by decide +kernel, (G__law_take B).mono (by decide), by decide +kernel, (G__law_body B).mono (by decide), trivial⟩ trivial trivial) (K10.law_puts)) (fun kV doc pm an cdv ct us ws l1 l2 => match us, l1, ws, l2 with | [_, _, _], _, [], _ => rfl)
theorem G__law_put (B : Hd K mg) : GlobOk P w K mg base 1 "_law_put" 2 [] (K10.spPut) := by
  obtain ⟨fd, h⟩ := B.has d__law_put (List.mem_of_getElem? (i := 24) rfl)
  exact glob_plain h rfl (B.glo d__law_put (List.mem_of_getElem? (i := 24) rfl) rfl) (mkG (k := 0) (c := c__law_put) (ir := K10.ir__law_put) (ps := ["_law_row", "_law_pairs"]) h rfl sc__law_put rfl ck__law_put (fun ds M Q E ⟨_, _, e, _⟩ => by rw [e]; rfl) (tab_of (gs := []) (ms := []) (cs := []) B.free trivial trivial trivial trivial) (K10.law_put _)) (fun kV doc pm an cdv ct us ws l1 l2 => match us, l1, ws, l2 with | [_, _], _, [], _ => rfl)
theorem G__law_of_t (B : Hd K mg) : GlobOk P w K mg base 2 "_law_of" 2 [] (KT.spOfT) := by
  obtain ⟨fd, h⟩ := B.has d__law_of (List.mem_of_getElem? (i := 18) rfl)
  exact glob_plain h rfl (B.glo d__law_of (List.mem_of_getElem? (i := 18) rfl) rfl) (mkG (k := 1) (c := c__law_of) (ir := K10.ir__law_of) (ps := ["_law_hand_here", "_law_some"]) h rfl sc__law_of rfl ck__law_of (fun ds M Q E ⟨_, _, _, _, e, _⟩ => by rw [e]; rfl) (tab_of (gs := [K10.spTake]) (ms := []) (cs := []) B.free trivial ⟨by decide +kernel, (G__law_take B).mono (by decide), trivial⟩ trivial trivial) (KT.law_ofT)) (fun kV doc pm an cdv ct us ws l1 l2 => match us, l1, ws, l2 with | [_, _], _, [], _ => rfl)
theorem G__law_behind (B : Hd K mg) : GlobOk P w K mg base 2 "_law_behind" 2 [] (K11.spLB) := by
  obtain ⟨fd, h⟩ := B.has d__law_behind (List.mem_of_getElem? (i := 25) rfl)
  exact glob_plain h rfl (B.glo d__law_behind (List.mem_of_getElem? (i := 25) rfl) rfl) (mkG (k := 1) (c := c__law_behind) (ir := K11.ir__law_behind) (ps := ["_law_pairs", "_law_later"]) h rfl sc__law_behind rfl ck__law_behind (fun ds M Q E ⟨_, _, e, _⟩ => by rw [e]; rfl) (tab_of (gs := [K10.spPut]) (ms := []) (cs := []) B.free trivial ⟨by decide +kernel, (G__law_put B).mono (by decide), trivial⟩ trivial trivial) (K11.law_behind)) (fun kV doc pm an cdv ct us ws l1 l2 => match us, l1, ws, l2 with | [_, _], _, [], _ => rfl)
theorem G__law_right (B : Hd K mg) : GlobOk P w K mg base 5 "_law_right" 4 [] (K11.spRight (He.ga K "Theory")) := by
  obtain ⟨fd, h⟩ := B.has d__law_right (List.mem_of_getElem? (i := 26) rfl)
  exact glob_plain h rfl (B.glo d__law_right (List.mem_of_getElem? (i := 26) rfl) rfl) (mkG (k := 4) (c := c__law_right) (ir := K11.ir__law_right) (ps := ["_law_base", "_law_pairs", "_law_later", "_law_rows"]) h rfl sc__law_right rfl ck__law_right (fun ds M Q E ⟨_, _, _, _, _, e, _⟩ => by rw [e]; rfl) (tab_of (gs := [PR.spPutIn, PR.spIsPuts (He.ga K "Theory"), K11.spLB, PR.spBehind (He.ga K "Theory")]) (ms := []) (cs := []) B.free trivial ⟨by decide +kernel, (G_put_in B).mono (by decide), by decide +kernel, (G_is_puts B).mono (by decide), by decide +kernel, (G__law_behind B).mono (by decide), by decide +kernel, (G_put_behind B).mono (by decide), trivial⟩ trivial trivial) (K11.law_right (He.ga K "Theory"))) (fun kV doc pm an cdv ct us ws l1 l2 => match us, l1, ws, l2 with | [_, _, _, _], _, [], _ => rfl)
theorem G_put_behind_kw (B : Hd K mg) : GlobOk P w K mg base 3 "put_behind" 0 ["second", "first", "theory"] (K11.spBKw (He.ga K "Theory")) := by
  obtain ⟨fd, h⟩ := B.has d_put_behind (List.mem_of_getElem? (i := 15) rfl)
  have F := mkG (P := P) (w := w) (mg := mg) (base := base) (sp := PR.spBehind (He.ga K "Theory")) (k := 2) (c := c_put_behind) (ir := PQ.ir_put_behind) (ps := ["theory", "first", "second"]) h rfl sc_put_behind rfl ck_put_behind (fun ds M Q E ⟨_, _, _, _, _, e, _⟩ => by rw [e]; rfl) (tab_of (gs := [PR.spPutIn, PR.spNames (He.ga K "Theory")]) (ms := []) (cs := []) B.free trivial ⟨by decide +kernel, (G_put_in B).mono (by decide), by decide +kernel, (G_names_in B).mono (by decide), trivial⟩ trivial trivial) (PR.put_behind_law (He.ga K "Theory"))
  refine glob_of h (B.glo d_put_behind (List.mem_of_getElem? (i := 15) rfl) rfl) F (kbd_plain h 0 ["second", "first", "theory"] [2, 1, 0] fun kV doc pm an cdv ct us ws l1 l2 => ?_) fun ds cs M Q E l1 l2 q => ?_
  · match us, l1, ws, l2 with
    | [], _, [_, _, _], _ => rfl
  · have : ds = [] := List.length_eq_zero_iff.mp l1
    subst this
    match cs, l2 with
    | [a0, a1, a2], _ =>
      rw [List.nil_append] at q
      exact K11.b_kw q
theorem F_law (B : Hd K mg) {fd : FuncData} (h : HasD K d_law fd) : FnG P w K mg base 24 (He.fAd K d_law.at_) fd ["_law_script"] (spLaw) := mkG (k := 23) (c := c_law) (ir := K11.ir_law) (ps := ["_law_script"]) h rfl sc_law rfl ck_law (fun ds M Q E ⟨_, e, _⟩ => by rw [e]; rfl) (tab_of (gs := [K11.spBKw (He.ga K "Theory"), K11.spLB, PR.spBehind (He.ga K "Theory"), K11.spRight (He.ga K "Theory"), K10.spBody 20, KT.spOfT, K10.spPuts, K10.spMkTh (He.ga K "Theory"), K10.spGround, K10.spHand]) (ms := []) (cs := []) B.free trivial ⟨by decide +kernel, (G_put_behind_kw B).mono (by decide), by decide +kernel, (G__law_behind B).mono (by decide), by decide +kernel, (G_put_behind B).mono (by decide), by decide +kernel, (G__law_right B).mono (by decide), by decide +kernel, (G__law_body B).mono (by decide), by decide +kernel, (G__law_of_t B).mono (by decide), by decide +kernel, (G__law_puts B).mono (by decide), by decide +kernel, (G__law_theory B).mono (by decide), by decide +kernel, (G__law_ground B).mono (by decide), by decide +kernel, (G__law_hand B).mono (by decide), trivial⟩ trivial trivial) (law_law (He.ga K "Theory"))
end
end K11

namespace K11
open PySem PySem.Spec PyProof.Rows L2 DL
open PR PQ K10 KG KH KT
abbrev C0 (K : PySem.W.Frag) : Addr := He.ga K "Theory"
def fa : List He.Fa := [.glo "Theory", .cls "Theory", .mkr "Theory", .keep "Theory", .meth "Theory" "is_called", .meth "Theory" "making", .str "FIGURES" "0123456789", .str "SIGNS" "abcdefghijklmnopqrstuvwxyzABCDEFGHIJKLMNOPQRSTUVWXYZ0123456789+-*=<>&|~^", .str "HOLDS" "holds", .int "MOST_SIGNS" 6, .int "MOST_PARTS" 3] ++ (flds.map fun f => He.Fa.noat "Theory" f) ++ ((fn.filter fun d => d.at_.2.isNone).map fun d => He.Fa.glo d.name) ++ freeNames.map He.Fa.free
abbrev R : PySem.W.OpenRow := PySem.W.OpenLaw.row PySem.Challenge.rw_putinproofs_k11_put_behind
abbrev hk : PySem.W.Hook := He.hookD 4 fa fn
def ob (s : PySem.W.SharedT) : He.AlD := He.obsDG 4 fa fn (HandSHeadRun.getT s)
theorem ob_eq (s : PySem.W.SharedT) : ob s = hk.obs s.abs := He.obsDG_eq (HandSHeadRun.getT_eq s)
theorem hd_of {K : PySem.W.Frag} {h : Heap} {mg : Str → Option Value} (X : K.In h) (G : h.Ns mainGlobals mg) (c : He.SaysD fa fn K) : Hd K mg := by
  have fm : ∀ i (a : He.Fa), fa[i]? = some a → a.ok K = true := fun i a e => c.facts (List.mem_of_getElem? e)
  obtain ⟨t0, e0⟩ := He.str_ok X G (fm 6 _ rfl)
  obtain ⟨t1, e1⟩ := He.str_ok X G (fm 7 _ rfl)
  obtain ⟨t2, e2⟩ := He.str_ok X G (fm 8 _ rfl)
  obtain ⟨t3, e3⟩ := He.int_ok X G (fm 9 _ rfl)
  obtain ⟨t4, e4⟩ := He.int_ok X G (fm 10 _ rfl)
  refine ⟨free_of X G c fun n hn => List.mem_append_right _ (List.mem_map_of_mem hn), fun d hd => has_of (h := h) c hd, fun d hd hat => ?_, ?_, ?_, He.cls_ok (fm 1 _ rfl), fun f hf => He.noat_ok (c.facts ?_), He.mkr_ok (fm 2 _ rfl), He.keep_ok (fm 3 _ rfl), He.glo_ok X G (fm 0 _ rfl), He.meth_ok (fm 4 _ rfl), He.meth_ok (fm 5 _ rfl)⟩
  · have : He.Fa.glo d.name ∈ fa := List.mem_append_left _ (List.mem_append_right _ (List.mem_map.mpr ⟨d, List.mem_filter.mpr ⟨hd, by rw [hat]; rfl⟩, rfl⟩))
    have e := He.glo_ok X G (c.facts this)
    rw [hat]
    exact e
  · exact ⟨by decide +kernel, ⟨_, e0, ⟨_, rfl⟩⟩, by decide +kernel, ⟨_, e1, ⟨_, rfl⟩⟩, by decide +kernel, ⟨_, e2, ⟨_, rfl⟩⟩, by decide +kernel, ⟨_, e3, ⟨_, rfl⟩⟩, trivial⟩
  · exact ⟨by decide +kernel, ⟨_, e4, ⟨_, rfl⟩⟩, trivial⟩
  · exact List.mem_append_left _ (List.mem_append_left _ (List.mem_append_right _ (List.mem_map_of_mem hf)))
end K11

namespace K11
open PySem PySem.Spec PyProof.Rows L2 DL
open PR PQ K10 KG KH KT
def lo0 : List Str := ["kind_of", "names_in", "is_put", "is_puts", "put_in", "put_behind", "NotSuch", "Lost", "BadGround", "BadLabel", "BadStatement", "NoAccount", "NoLabel", "own_names", "may_hold", "is_pair", "is_statement", "in_order", "apart_wanted", "SIGNS", "FIGURES", "MOST_SIGNS", "HOLDS", "MARK", "is_word", "plain_row", "shape_of", "used_by", "many_taken", "on_shape"]
def lo1 : List Str := ["on_label", "step_on", "first_fault", "runs", "first_ends", "longest_told", "pieces_of", "shortened", "step_text", "ground_rows", "statement_row", "statement_rows", "show_theory", "MOST_PARTS", "are_kinds", "is_kind", "is_shape", "is_calling", "are_unlike", "ground_fault", "Theory", "_law_hand", "_law_take", "_law_of", "_law_words", "_law_ground", "_law_body", "_law_theory", "_law_puts", "_law_put"]
def lo2 : List Str := ["_law_behind", "_law_right"]
def lo : List Str := lo0 ++ lo1 ++ lo2
theorem run (w : World) : HandSHeadRun.RunEq R (PySem.W.view R.prog [73]) hk ob 12000 lo w := by
  intro os
  kernel_rfl
end K11

namespace K11
open PySem PySem.Spec PyProof.Rows L2 DL
open PR PQ K10 KG KH KT
theorem facts {P : Program} {w : World} {K : PySem.W.Frag} {h : Heap} {mg : Str → Option Value} {f : Addr} (X : K.In h) (G : h.Ns mainGlobals mg) (hfa : mg ("law" : Str) = some (.ref f)) (c : He.SaysD fa fn K) :
    ∃ fd : FuncData, (∀ (s : Shared) (v : Value), BindsTo s fd ⟨[v], []⟩ [("_law_script", v)]) ∧ ∀ base : Heap, K.In base → base.Ns mainGlobals mg → FnG P w K mg base 24 f fd ["_law_script"] spLaw := by
  have B := hd_of X G c
  have hm : d_law ∈ fn := List.mem_of_getElem? (i := 27) rfl
  obtain ⟨fd, hd⟩ := B.has d_law hm
  have eg : mg ("law" : Str) = some (.ref (He.fAd K d_law.at_)) := B.glo d_law hm rfl
  have efa : f = He.fAd K d_law.at_ := Value.ref.inj (Option.some.inj (hfa.symm.trans eg))
  rw [efa]
  exact ⟨fd, fun s v => FunD.bindsA (ps := ["_law_script"]) hd (fun kV doc pm an cdv ct us hl => match us, hl with | [_], _ => rfl) s [v] rfl, fun base _ _ => F_law B hd⟩
end K11

open PySem PySem.W PySem.Calls PyProof.Rows
theorem PySem.Challenge.cw_putinproofs_k11_put_behind_holds : PySem.Challenge.rw_putinproofs_k11_put_behind.Holds := by
  w_on; o_law
  refine HandSHeadRun.head_any (r := OpenLaw.row PySem.Challenge.rw_putinproofs_k11_put_behind) (q := view (OpenLaw.row PySem.Challenge.rw_putinproofs_k11_put_behind).prog [73]) (H := K11.hk) (ob := K11.ob) (M := 12000) (loose := K11.lo) (d := HandSHeadRun.topDef (OpenLaw.row PySem.Challenge.rw_putinproofs_k11_put_behind).prog 73) (kwd := []) K11.ob_eq
    (by kernel_rfl) (fun s => by kernel_rfl) K11.run (by kernel_rfl) (by kernel_rfl) (by kernel_rfl) (by rfl) (by first | assumption | decide +kernel) (by decide +kernel) ⟨rfl, rfl, rfl, rfl, rfl, by decide +kernel⟩ ?hw ?hc
  case hw => w_witness2
  case hc =>
    refine DL.walkG (l := PySem.Challenge.rw_putinproofs_k11_put_behind) (n := 63) (k := 24) (x := "_law_script") rfl (by decide) (by kernel_rfl) ⟨rfl, by decide, by decide⟩ ?F
    intro w mg fa h Y G hmg0
    obtain ⟨K, KX, c⟩ := Y
    have hmg : mg ("law" : PySem.Str) = some (.ref fa) := by
      have e : (HandSHeadRun.topDef (OpenLaw.row PySem.Challenge.rw_putinproofs_k11_put_behind).prog 73).name = ("law" : PySem.Str) := by kernel_rfl
      rw [← e]
      exact hmg0
    obtain ⟨fd, hb, hF⟩ := K11.facts (P := (PySem.Challenge.rw_putinproofs_k11_put_behind).prog) (w := w) KX G hmg c
    exact ⟨K, fd, K11.spLaw, KX, hb, fun ns hl => ⟨ns, rfl, Nat.le_trans hl (by decide), fun _ => rfl⟩, hF⟩

