import PyProof.Rows.All
import Wide.All
import OpenK.AllK
import Wide.FinOn
import HandS.ForMost
import HandS.Exc
import HandS.IsInst
import HandS.HeadEnd
import HandS.HeadHook2
import HandS.HeadHook4
import HandS.Head2
import PySem.Challenge.RW_putinproofs_k75_tables_alike
import PyProof.AutoSeq1
import PyProof.ListOps
import KE.DataEq
import HandS.Wide
import HandS.TupAny
import HandS.TupLe
import PyProof.ReprRoads
import HandS.Flow
import HandS.Zip0
import HandS.Conv
import PyProof.Rows.ListStrD
import HandS.Style
import HandS.CallRecv
import KE.KRevSl
import HandS.SetKeys
import PyProof.Rows.SetObj
import KE.KDictPairs
import HandS.DictComp
import PyProof.CollectIter
import HandS.Zip
import HandS.ListItems
import HandS.SetBool
import HandS.Iter
import KE.KDictZip
import KE.GoesMore
import KE.GoesEnum
import KE.KDictCopyH
import KE.SortData
import HandS.DictTup
import HandS.TupMul
import HandS.Strs
import HandS.SetFor
import OpenK.KOps
import HandS.More
import PyProof.InstNe
import KE.Datum
import PyProof.StrLawsRepr
import HandS.Codes
import HandS.Defaults
import HandS.MakeKwOnly
set_option Elab.async false
set_option linter.all false
set_option maxRecDepth 100000
set_option maxHeartbeats 4000000
namespace DL
open PySem PySem.Spec PyProof.Rows L2
def insNm (c : String) : Bool := c == "str" || (c == "int" || (c == "bool" || (c == "tuple" || (c == "list" || c == "dict"))))
def kitD (T c : String) : Option Bool := if T = "#ins" then (if insNm c = true then some false else none) else kitB T c
structure InsT (K : PySem.W.Frag) (C : Addr) : Prop where
  cl : Cls K C
  at_ : PySem.W.findIn K (.ref C) "__class__" = some (some (.builtin "object.__class__"))
  get : PySem.W.specialIn K (.builtin "object.__class__") "__get__" = some (some (.builtin "getset_descriptor.__get__"))
  takes : PySem.W.takesIn K (.builtin "object.__class__") = some true
theorem only_no {n : String} (h : n ≠ "object") : ∀ {l : List Value}, PySem.W.onlyObject l = true → l.contains (.type n) = false
  | [], e => by cases e
  | .ref c :: r, e => by
    have e' : PySem.W.onlyObject r = true := e
    rw [List.contains_cons, only_no h e', Bool.or_false]
    exact beq_eq_false_iff_ne.mpr fun z => nomatch z
  | .type m :: r, e => by
    cases r with
    | cons x r => cases e
    | nil =>
      have : m = "object" := beq_iff_eq.mp (show (m == "object") = true from e)
      subst this
      simp only [List.contains_cons, List.contains_nil, Bool.or_false]
      exact beq_eq_false_iff_ne.mpr fun z => h (by injection z)
theorem only_ne {l : List Value} (h : PySem.W.onlyObject l = true) : l.isEmpty = false := by
  cases l with
  | nil => cases h
  | cons => rfl
theorem InsT.mro {K : PySem.W.Frag} {C : Addr} (h : InsT K C) : PySem.W.mroIn K C (.type "object") = some true ∧ ∀ n : String, n ≠ "object" → PySem.W.mroIn K C (.type n) = some false := by
  obtain ⟨cd, hc, ho⟩ := PySem.W.any_some h.cl.po
  have f : ∀ b, PySem.W.mroIn K C b = some (cd.mro.contains b) := fun b => by
    unfold PySem.W.mroIn
    rw [hc, Option.bind_some, only_ne ho, if_neg (by decide)]
  exact ⟨by rw [f, PySem.W.only_has ho], fun n hn => by rw [f, only_no hn ho]⟩
theorem InsT.kit {K : PySem.W.Frag} {C : Addr} (h : InsT K C) {c : String} (hc : insNm c = true) : PySem.W.kitOne K (.ref C) (.type c) = some false := by
  have ho : c ≠ "object" := fun z => by subst z; exact absurd hc (by decide)
  have hm : PySem.W.kitMeta c = true := by
    unfold insNm at hc
    simp only [Bool.or_eq_true, beq_iff_eq] at hc
    rcases hc with rfl | rfl | rfl | rfl | rfl | rfl <;> decide +kernel
  unfold PySem.W.kitOne PySem.W.kitCls PySem.W.subIn
  have ne : ((.ref C : Value) == .type c) = false := beq_eq_false_iff_ne.mpr fun z => nomatch z
  rw [ne, if_neg (by decide)]
  simp only [hm, if_true]
  exact h.mro.2 c ho
theorem InsT.ty {K : PySem.W.Frag} {C : Addr} (h : InsT K C) {H : Hp} {a dx : Addr} {fs : List (Str × V)} (e : H a = some (.ins C dx fs)) : TyX K H (.ref a) (.ref C) := .base (.ins e h.cl h.at_ h.get h.takes h.mro.1)
end DL

namespace DL
open PySem PySem.Spec PyProof.Rows L2
def freeNames : List Str := ["abs", "len", "min", "max", "all", "any", "sum", "sorted", "repr", "isinstance", "int", "tuple", "list", "range", "enumerate", "str", "bool", "dict", "set", "zip"]
abbrev LkX := PySem.W.Frag → Bool
def insB (x : Str) : LkX := fun K => He.eqO (PySem.W.findIn K (.ref (He.ga K x)) "__class__") (some (some (.builtin "object.__class__"))) && (He.eqO (PySem.W.specialIn K (.builtin "object.__class__") "__get__") (some (some (.builtin "getset_descriptor.__get__"))) && decide (PySem.W.takesIn K (.builtin "object.__class__") = some true))
theorem insB_ok {K : PySem.W.Frag} {x : Str} (h : insB x K = true) (c : Cls K (He.ga K x)) : InsT K (He.ga K x) := by
  unfold insB at h
  rw [Bool.and_eq_true, Bool.and_eq_true] at h
  exact ⟨c, He.eqO_ok h.1, He.eqO_ok h.2.1, of_decide_eq_true h.2.2⟩
structure OwnX (K : PySem.W.Frag) (C : Addr) : Prop where
  ne : PySem.W.findIn K (.ref C) "__ne__" = some (some (.builtin "object.__ne__"))
  ty : PySem.W.typeIn K (.ref C) = some (.type "type")
def ownB (x : Str) : LkX := fun K => He.eqO (PySem.W.findIn K (.ref (He.ga K x)) "__ne__") (some (some (.builtin "object.__ne__"))) && decide (PySem.W.typeIn K (.ref (He.ga K x)) = some (.type "type"))
theorem ownB_ok {K : PySem.W.Frag} {x : Str} (h : ownB x K = true) : OwnX K (He.ga K x) := by
  unfold ownB at h
  rw [Bool.and_eq_true] at h
  exact ⟨He.eqO_ok h.1, of_decide_eq_true h.2⟩
def obsX (fa : List He.Fa) (fn : List He.DefD) (ex : LkX) (K : PySem.W.Frag) : He.AlD := ((He.obsD fa fn K).1 && ex K, (He.obsD fa fn K).2)
def SaysX (fa : List He.Fa) (fn : List He.DefD) (ex : LkX) (K : PySem.W.Frag) : Prop := He.SaysD fa fn K ∧ ex K = true
theorem saysX {fa : List He.Fa} {fn : List He.DefD} {ex : LkX} {K : PySem.W.Frag} (h : obsX fa fn ex K = He.valD fn) : SaysX fa fn ex K := by
  have h1 : ((He.obsD fa fn K).1 && ex K) = true := congrArg (fun z : He.AlD => z.1) h
  have h2 : (He.obsD fa fn K).2 = fn.map He.DefD.val := congrArg (fun z : He.AlD => z.2) h
  rw [Bool.and_eq_true] at h1
  exact ⟨Prod.ext h1.1 h2, h1.2⟩
def obsXG (n : Nat) (fa : List He.Fa) (fn : List He.DefD) (ex : LkX) (g : Addr → Option Obj) : He.AlD := obsX fa fn ex (He.frG g (He.asD g n))
def hookX (n : Nat) (fa : List He.Fa) (fn : List He.DefD) (ex : LkX) : PySem.W.Hook := ⟨He.AlD, fun s => obsXG n fa fn ex s.heap.get?, fun _ => He.valD fn, fun _ h => ∃ K : PySem.W.Frag, K.In h ∧ SaysX fa fn ex K, fun _ _ e => ⟨_, He.frG_in, saysX e⟩, fun _ _ _ ⟨K, hK, c⟩ k => ⟨K, PySem.W.Frag.In.keeps hK k, c⟩⟩
theorem obsXG_eq {n : Nat} {fa : List He.Fa} {fn : List He.DefD} {ex : LkX} {g : Addr → Option Obj} {s : Shared} (h : ∀ a, g a = s.heap.get? a) : obsXG n fa fn ex g = (hookX n fa fn ex).obs s := by
  have e : g = s.heap.get? := funext h
  subst e
  rfl
end DL

namespace K75
open PySem PySem.Spec PyProof.Rows L2 DL
def top (i : Nat) : Stmt := PySem.Challenge.pw_putinproofs_k75_tables_alike.main.body.getD i (.Pass ⟨0, 0, 0, 0⟩)
def sub (s : Stmt) (j : Nat) : Stmt := match s with
  | .ClassDef _ _ _ b _ _ _ _ _ _ _ => b.getD j (.Pass ⟨0, 0, 0, 0⟩)
  | s => s
def d_Tables___init__ : He.DefD := ⟨("Tables", some "__init__"), "__init__", "Tables.__init__", defArgs (sub (top 1) 0), defBody (sub (top 1) 0), defScope (sub (top 1) 0), [], []⟩
def d_Tables___eq__ : He.DefD := ⟨("Tables", some "__eq__"), "__eq__", "Tables.__eq__", defArgs (sub (top 1) 1), defBody (sub (top 1) 1), defScope (sub (top 1) 1), [], []⟩
def d__law_pot : He.DefD := ⟨("_law_pot", none), "_law_pot", "_law_pot", defArgs (top 3), defBody (top 3), defScope (top 3), [], []⟩
def d__law_take : He.DefD := ⟨("_law_take", none), "_law_take", "_law_take", defArgs (top 4), defBody (top 4), defScope (top 4), [], []⟩
def d__law_of : He.DefD := ⟨("_law_of", none), "_law_of", "_law_of", defArgs (top 5), defBody (top 5), defScope (top 5), [], []⟩
def d__law_part : He.DefD := ⟨("_law_part", none), "_law_part", "_law_part", defArgs (top 6), defBody (top 6), defScope (top 6), [], []⟩
def d_law : He.DefD := ⟨("law", none), "law", "law", defArgs (top 7), defBody (top 7), defScope (top 7), [], []⟩
def fn : List He.DefD := [d_Tables___init__, d_Tables___eq__, d__law_pot, d__law_take, d__law_of, d__law_part, d_law]
def flds0 : List Str := ["held", "tables", "sizes"]
def ex : LkX := fun K => (insB "Tables" K && ownB "Tables" K)
def fa : List He.Fa := [.glo "Tables", .cls "Tables", .mkr "Tables", .keep "Tables", .meth "Tables" "__eq__"] ++ (flds0.map fun f => He.Fa.noat "Tables" f) ++ ((fn.filter fun d => d.at_.2.isNone).map fun d => He.Fa.glo d.name) ++ freeNames.map He.Fa.free
abbrev R : PySem.W.OpenRow := PySem.W.OpenLaw.row PySem.Challenge.rw_putinproofs_k75_tables_alike
abbrev hk : PySem.W.Hook := DL.hookX 4 fa fn ex
def ob (s : PySem.W.SharedT) : He.AlD := DL.obsXG 4 fa fn ex (HandSHeadRun.getT s)
theorem ob_eq (s : PySem.W.SharedT) : ob s = hk.obs s.abs := DL.obsXG_eq (HandSHeadRun.getT_eq s)
def lo0 : List Str := ["Tables", "_law_pot", "_law_take", "_law_of", "_law_part"]
def lo : List Str := lo0
theorem run (w : World) : HandSHeadRun.RunEq R (PySem.W.view R.prog [7]) hk ob 12000 lo w := by
  intro os
  kernel_rfl
end K75

namespace DL
open PySem PySem.Spec PyProof.Rows L2

inductive D where
  | non | bl (b : Bool) | int (i : Int) | str (s : Str) | tup (xs : List D) | rl (xs : List D) | tx (xs : List D) | rk (ks : List Key) (xs : List D) | ref (a : Addr) | ty (n : String)
instance : Inhabited D := ⟨.non⟩

def RdL (K : PySem.W.Frag) (H : Hp) (a : Addr) (xs : List V) : Prop :=
  (∃ o, H a = some (.frz o (.lst xs))) ∨
    ∃ (o : Obj) (its : Array Value) (n : Nat), K.lookup a = some o ∧ o.cls = .type "list" ∧ o.dict = none ∧ o.data = .seq its n ∧ its.size ≤ sizeLine ∧ Vals xs its.toList
theorem RdL.sq {K : PySem.W.Frag} {H : Hp} {a : Addr} {xs : List V} (h : RdL K H a xs) : SqL K H a xs := by
  rcases h with h | h
  · exact .inl (.inr h)
  · exact .inr h

def TxA (H : Hp) (a : Addr) (xs : List V) : Prop := ∃ o : Obj, H a = some (.frz o (.tup xs)) ∧ o.dict = none
def RdK (H : Hp) (a : Addr) (ws : List (Key × V)) : Prop := ∃ o, H a = some (.frz o (.dK ws))
mutual
def Is (K : PySem.W.Frag) (H : Hp) : D → V → Prop
  | .non, v => v = .non
  | .bl b, v => v = .bl b
  | .int i, v => v = .int i
  | .str s, v => v = .str s
  | .tup ds, v => ∃ a vs, v = .ref a ∧ H a = some (.tup vs) ∧ IsL K H ds vs
  | .rl ds, v => ∃ a vs, v = .ref a ∧ RdL K H a vs ∧ IsL K H ds vs
  | .tx ds, v => ∃ a vs, v = .ref a ∧ TxA H a vs ∧ IsL K H ds vs
  | .rk ks ds, v => ∃ a ws, v = .ref a ∧ RdK H a ws ∧ ws.map (·.1) = ks ∧ IsL K H ds (ws.map (·.2))
  | .ref a, v => v = .ref a
  | .ty n, v => v = .ty n
def IsL (K : PySem.W.Frag) (H : Hp) : List D → List V → Prop
  | [], vs => vs = []
  | d :: ds, vs => ∃ v r, vs = v :: r ∧ Is K H d v ∧ IsL K H ds r
end

inductive MO where
  | lst (xs : List D)
  | dK (kvs : List (Key × D))
  | dT (kvs : List (List Key × D))
  | ins (C : Addr) (fs : List (Str × D))
  | lk (o : Obj) (ws : List (Key × V)) (kvs : List (Key × D))
abbrev Mem := Addr → Option MO
def wr (M : Mem) (a : Addr) (o : MO) : Mem := fun b => if b = a then some o else M b
def mdel (M : Mem) (a : Addr) : Mem := fun b => if b = a then none else M b
theorem wr_same {M : Mem} {a : Addr} {o : MO} : wr M a o a = some o := by unfold wr; rw [if_pos rfl]
theorem wr_ne {M : Mem} {a b : Addr} {o : MO} (h : b ≠ a) : wr M a o b = M b := by unfold wr; rw [if_neg h]

def MOk (K : PySem.W.Frag) (H : Hp) (a : Addr) : MO → Prop
  | .lst ds => ∃ vs, H a = some (.lst vs) ∧ IsL K H ds vs
  | .dK kvs => ∃ ws : List (Key × V), H a = some (.dK ws) ∧ ws.map (·.1) = kvs.map (·.1) ∧ IsL K H (kvs.map (·.2)) (ws.map (·.2))
  | .dT kvs => ∃ ws : List (List Key × V), H a = some (.dT ws) ∧ ws.map (·.1) = kvs.map (·.1) ∧ IsL K H (kvs.map (·.2)) (ws.map (·.2))
  | .ins C fs => ∃ (dx : Addr) (ws : List (Str × V)), H a = some (.ins C dx ws) ∧ ws.map (·.1) = fs.map (·.1) ∧ IsL K H (fs.map (·.2)) (ws.map (·.2)) ∧ InsT K C
  | .lk o ws kvs => H a = some (.frz o (.frz o (.dK ws))) ∧ ws.map (·.1) = kvs.map (·.1) ∧ IsL K H (kvs.map (·.2)) (ws.map (·.2))
def MRel (K : PySem.W.Frag) (M : Mem) (H : Hp) : Prop := ∀ a o, M a = some o → MOk K H a o
structure Fr (M : Mem) (H : Hp) (M' : Mem) (H' : Hp) : Prop where
  keep : ∀ b o, H b = some o → M b = none → H' b = some o ∧ M' b = none
  there : ∀ b, H' b = none → H b = none
theorem Fr.refl {M : Mem} {H : Hp} : Fr M H M H := ⟨fun _ _ h n => ⟨h, n⟩, fun _ h => h⟩
theorem Fr.trans {M M1 M2 : Mem} {H H1 H2 : Hp} (a : Fr M H M1 H1) (b : Fr M1 H1 M2 H2) : Fr M H M2 H2 := ⟨fun c o h n =>
  let ⟨h1, n1⟩ := a.keep c o h n
  b.keep c o h1 n1, fun c h => a.there c (b.there c h)⟩
theorem upd_none {H : Hp} {a b : Addr} {o : HO} (h : upd H a o b = none) : H b = none := by
  by_cases e : b = a
  · subst e; rw [upd_same] at h; cases h
  · rw [upd_ne e] at h; exact h

section
variable {K : PySem.W.Frag} {M M' : Mem} {H H' : Hp}
theorem MRel.tup (r : MRel K M H) {a : Addr} {xs : List V} (h : H a = some (.tup xs)) : M a = none := by
  cases e : M a with
  | none => rfl
  | some o =>
    have q := r a o e
    cases o with
    | lst _ => obtain ⟨_, z, _⟩ := q; rw [h] at z; cases z
    | dK _ => obtain ⟨_, z, _⟩ := q; rw [h] at z; cases z
    | dT _ => obtain ⟨_, z, _⟩ := q; rw [h] at z; cases z
    | ins _ _ => obtain ⟨_, _, z, _⟩ := q; rw [h] at z; cases z
    | lk _ _ _ => obtain ⟨z, _⟩ := q; rw [h] at z; cases z
theorem MRel.frz (r : MRel K M H) {a : Addr} {o : Obj} {u : HO} (h : H a = some (.frz o u)) (nu : ∀ o' u', u ≠ .frz o' u') : M a = none := by
  cases e : M a with
  | none => rfl
  | some o =>
    have q := r a o e
    cases o with
    | lst _ => obtain ⟨_, z, _⟩ := q; rw [h] at z; cases z
    | dK _ => obtain ⟨_, z, _⟩ := q; rw [h] at z; cases z
    | dT _ => obtain ⟨_, z, _⟩ := q; rw [h] at z; cases z
    | ins _ _ => obtain ⟨_, _, z, _⟩ := q; rw [h] at z; cases z
    | lk _ _ _ => obtain ⟨z, _⟩ := q; rw [h] at z; injection z with z; injection z with z1 z2; exact absurd z2 (nu _ _)
def Ext (K : PySem.W.Frag) (H H' : Hp) : Prop := (∀ a xs, H a = some (.tup xs) → H' a = some (.tup xs)) ∧ (∀ a xs, RdL K H a xs → RdL K H' a xs) ∧ (∀ a xs, TxA H a xs → TxA H' a xs) ∧ ∀ a o (xs : List (Key × V)), H a = some (.frz o (.dK xs)) → H' a = some (.frz o (.dK xs))
theorem Fr.ext (f : Fr M H M' H') (r : MRel K M H) : Ext K H H' := by
  refine ⟨fun a xs h => ?_, fun a xs h => ?_, fun a xs ⟨o, h, hd⟩ => ⟨o, (f.keep a _ h (r.frz h fun _ _ z => nomatch z)).1, hd⟩, fun a o xs h => (f.keep a _ h (r.frz h fun _ _ z => nomatch z)).1⟩
  · exact (f.keep a _ h (r.tup h)).1
  · rcases h with ⟨o, h⟩ | h
    · exact .inl ⟨o, (f.keep a _ h (r.frz h fun _ _ z => nomatch z)).1⟩
    · exact .inr h
theorem Ext.trans {H2 : Hp} (a : Ext K H H') (b : Ext K H' H2) : Ext K H H2 := ⟨fun p xs h => b.1 p xs (a.1 p xs h), fun p xs h => b.2.1 p xs (a.2.1 p xs h), fun p xs h => b.2.2.1 p xs (a.2.2.1 p xs h), fun p o xs h => b.2.2.2 p o xs (a.2.2.2 p o xs h)⟩
theorem Ext.refl : Ext K H H := ⟨fun _ _ h => h, fun _ _ h => h, fun _ _ h => h, fun _ _ _ h => h⟩
mutual
theorem Is.ext (e : Ext K H H') : ∀ (d : D) (v : V), Is K H d v → Is K H' d v
  | .non, _, h => h
  | .bl _, _, h => h
  | .int _, _, h => h
  | .str _, _, h => h
  | .ref _, _, h => h
  | .ty _, _, h => h
  | .tup ds, v, h => by
    unfold Is at h ⊢
    obtain ⟨a, vs, e1, s, l⟩ := h
    exact ⟨a, vs, e1, e.1 a vs s, IsL.ext e ds vs l⟩
  | .rl ds, v, h => by
    unfold Is at h ⊢
    obtain ⟨a, vs, e1, s, l⟩ := h
    exact ⟨a, vs, e1, e.2.1 a vs s, IsL.ext e ds vs l⟩
  | .tx ds, v, h => by
    unfold Is at h ⊢
    obtain ⟨a, vs, e1, s, l⟩ := h
    exact ⟨a, vs, e1, e.2.2.1 a vs s, IsL.ext e ds vs l⟩
  | .rk ks ds, v, h => by
    unfold Is at h ⊢
    obtain ⟨a, ws, e1, ⟨o, s⟩, k, l⟩ := h
    exact ⟨a, ws, e1, ⟨o, e.2.2.2 a o ws s⟩, k, IsL.ext e ds _ l⟩
theorem IsL.ext (e : Ext K H H') : ∀ (ds : List D) (vs : List V), IsL K H ds vs → IsL K H' ds vs
  | [], _, h => h
  | d :: ds, vs, h => by
    unfold IsL at h ⊢
    obtain ⟨v, r, e1, i, l⟩ := h
    exact ⟨v, r, e1, Is.ext e d v i, IsL.ext e ds r l⟩
end
theorem isL_nil {vs : List V} : IsL K H [] vs ↔ vs = [] := by unfold IsL; exact Iff.rfl
theorem isL_cons {d : D} {ds : List D} {vs : List V} : IsL K H (d :: ds) vs ↔ ∃ v r, vs = v :: r ∧ Is K H d v ∧ IsL K H ds r := by
  conv => lhs; unfold IsL
theorem is_tup {ds : List D} {v : V} : Is K H (.tup ds) v ↔ ∃ a vs, v = .ref a ∧ H a = some (.tup vs) ∧ IsL K H ds vs := by
  conv => lhs; unfold Is
theorem is_rl {ds : List D} {v : V} : Is K H (.rl ds) v ↔ ∃ a vs, v = .ref a ∧ RdL K H a vs ∧ IsL K H ds vs := by
  conv => lhs; unfold Is
theorem is_tx {ds : List D} {v : V} : Is K H (.tx ds) v ↔ ∃ a vs, v = .ref a ∧ TxA H a vs ∧ IsL K H ds vs := by
  conv => lhs; unfold Is
theorem is_rk {ks : List Key} {ds : List D} {v : V} : Is K H (.rk ks ds) v ↔ ∃ a ws, v = .ref a ∧ RdK H a ws ∧ ws.map (·.1) = ks ∧ IsL K H ds (ws.map (·.2)) := by
  conv => lhs; unfold Is
theorem TxA.sq {K : PySem.W.Frag} {H : Hp} {a : Addr} {xs : List V} (h : TxA H a xs) : SqT K H a xs := let ⟨o, e, _⟩ := h; .inl (.inr ⟨o, e⟩)
theorem IsL.mk {d : D} {ds : List D} {v : V} {vs : List V} (h : Is K H d v) (t : IsL K H ds vs) : IsL K H (d :: ds) (v :: vs) := isL_cons.mpr ⟨v, vs, rfl, h, t⟩
theorem IsL.length : ∀ {ds : List D} {vs : List V}, IsL K H ds vs → vs.length = ds.length
  | [], vs, h => by rw [isL_nil] at h; subst h; rfl
  | d :: ds, vs, h => by
    rw [isL_cons] at h
    obtain ⟨v, r, rfl, _, t⟩ := h
    simp only [List.length_cons, IsL.length t]
theorem IsL.get : ∀ {ds : List D} {vs : List V} {i : Nat} {d : D}, IsL K H ds vs → ds[i]? = some d → ∃ v, vs[i]? = some v ∧ Is K H d v
  | [], _, _, _, _, e => by simp at e
  | x :: ds, vs, i, d, h, e => by
    rw [isL_cons] at h
    obtain ⟨v, r, rfl, hi, t⟩ := h
    cases i with
    | zero =>
      simp only [List.getElem?_cons_zero, Option.some.injEq] at e ⊢
      subst e
      exact ⟨v, rfl, hi⟩
    | succ i =>
      simp only [List.getElem?_cons_succ] at e ⊢
      exact IsL.get t e
theorem IsL.append : ∀ {ds es : List D} {vs ws : List V}, IsL K H ds vs → IsL K H es ws → IsL K H (ds ++ es) (vs ++ ws)
  | [], es, vs, ws, h, g => by rw [isL_nil] at h; subst h; exact g
  | d :: ds, es, vs, ws, h, g => by
    rw [isL_cons] at h
    obtain ⟨v, r, rfl, hi, t⟩ := h
    exact IsL.mk hi (IsL.append t g)
theorem IsL.take : ∀ {ds : List D} {vs : List V} (n : Nat), IsL K H ds vs → IsL K H (ds.take n) (vs.take n)
  | _, _, 0, _ => by simp [isL_nil]
  | [], vs, n + 1, h => by rw [isL_nil] at h; subst h; simp [isL_nil]
  | d :: ds, vs, n + 1, h => by
    rw [isL_cons] at h
    obtain ⟨v, r, rfl, hi, t⟩ := h
    exact IsL.mk hi (IsL.take n t)
theorem IsL.drop : ∀ {ds : List D} {vs : List V} (n : Nat), IsL K H ds vs → IsL K H (ds.drop n) (vs.drop n)
  | _, _, 0, h => h
  | [], vs, n + 1, h => by rw [isL_nil] at h; subst h; simp [isL_nil]
  | d :: ds, vs, n + 1, h => by
    rw [isL_cons] at h
    obtain ⟨v, r, rfl, hi, t⟩ := h
    exact IsL.drop n t
theorem IsL.set {d : D} {v : V} (q : Is K H d v) : ∀ {ds : List D} {vs : List V} (n : Nat), IsL K H ds vs → IsL K H (ds.set n d) (vs.set n v)
  | [], vs, n, h => by rw [isL_nil] at h; subst h; simp [isL_nil]
  | x :: ds, vs, 0, h => by
    rw [isL_cons] at h
    obtain ⟨w, r, rfl, hi, t⟩ := h
    exact IsL.mk q t
  | x :: ds, vs, n + 1, h => by
    rw [isL_cons] at h
    obtain ⟨w, r, rfl, hi, t⟩ := h
    exact IsL.mk hi (IsL.set q n t)
theorem IsL.eraseIdx : ∀ {ds : List D} {vs : List V} (n : Nat), IsL K H ds vs → IsL K H (ds.eraseIdx n) (vs.eraseIdx n)
  | [], vs, n, h => by rw [isL_nil] at h; subst h; simp [isL_nil]
  | x :: ds, vs, 0, h => by
    rw [isL_cons] at h
    obtain ⟨w, r, rfl, hi, t⟩ := h
    exact t
  | x :: ds, vs, n + 1, h => by
    rw [isL_cons] at h
    obtain ⟨w, r, rfl, hi, t⟩ := h
    exact IsL.mk hi (IsL.eraseIdx n t)
theorem IsL.dropLast {ds : List D} {vs : List V} (h : IsL K H ds vs) : IsL K H ds.dropLast vs.dropLast := by
  rw [List.dropLast_eq_take, List.dropLast_eq_take, h.length]
  exact h.take _
theorem IsL.reverse : ∀ {ds : List D} {vs : List V}, IsL K H ds vs → IsL K H ds.reverse vs.reverse
  | [], vs, h => by rw [isL_nil] at h; subst h; simp [isL_nil]
  | d :: ds, vs, h => by
    rw [isL_cons] at h
    obtain ⟨v, r, rfl, hi, t⟩ := h
    rw [List.reverse_cons, List.reverse_cons]
    exact (IsL.reverse t).append (IsL.mk hi (isL_nil.mpr rfl))
theorem IsL.inv : ∀ {ds : List D} {vs : List V} {i : Nat} {v : V}, IsL K H ds vs → vs[i]? = some v → ∃ d, ds[i]? = some d ∧ Is K H d v
  | ds, vs, i, v, h, e => by
    have hl := h.length
    obtain ⟨hi, _⟩ := List.getElem?_eq_some_iff.mp e
    have hi' : i < ds.length := by omega
    obtain ⟨w, e2, q⟩ := h.get (List.getElem?_eq_getElem hi')
    rw [e] at e2
    cases e2
    exact ⟨_, List.getElem?_eq_getElem hi', q⟩
end

abbrev Sl := List (Option D)
def getS : Sl → Nat → Option D
  | [], _ => none
  | o :: _, 0 => o
  | _ :: r, i + 1 => getS r i
def setS : Sl → Nat → Option D → Sl
  | [], _, _ => []
  | _ :: r, 0, o => o :: r
  | x :: r, i + 1, o => x :: setS r i o
def SRel (K : PySem.W.Frag) (H : Hp) : Sl → L2.St → Prop
  | [], σ => σ = []
  | o :: r, σ => ∃ w τ, σ = w :: τ ∧ (∀ d, o = some d → ∃ v, w = some v ∧ Is K H d v) ∧ SRel K H r τ
section
variable {K : PySem.W.Frag} {M M' : Mem} {H H' : Hp}
theorem SRel.ext (e : Ext K H H') : ∀ {r : Sl} {σ : L2.St}, SRel K H r σ → SRel K H' r σ
  | [], _, h => h
  | o :: r, σ, h => by
    obtain ⟨w, τ, e1, q, t⟩ := h
    refine ⟨w, τ, e1, fun d hd => ?_, SRel.ext e t⟩
    obtain ⟨v, e2, i⟩ := q d hd
    exact ⟨v, e2, Is.ext e d v i⟩
theorem SRel.get : ∀ {r : Sl} {σ : L2.St} {i : Nat} {d : D}, SRel K H r σ → getS r i = some d → ∃ v, σ[i]? = some (some v) ∧ Is K H d v
  | [], _, _, _, _, e => by cases e
  | o :: r, σ, 0, d, h, e => by
    obtain ⟨w, τ, rfl, q, t⟩ := h
    obtain ⟨v, rfl, i⟩ := q d e
    exact ⟨v, rfl, i⟩
  | o :: r, σ, i + 1, d, h, e => by
    obtain ⟨w, τ, rfl, q, t⟩ := h
    obtain ⟨v, h1, h2⟩ := SRel.get (r := r) (σ := τ) (i := i) (d := d) t e
    exact ⟨v, by rw [List.getElem?_cons_succ]; exact h1, h2⟩
theorem SRel.set {d : D} {v : V} (q : Is K H d v) : ∀ {r : Sl} {σ : L2.St} (i : Nat), SRel K H r σ → SRel K H (setS r i (some d)) (σ.set i (some v))
  | [], σ, i, h => by
    have h : σ = [] := h
    subst h
    show SRel K H [] (List.set [] i _)
    simp [SRel]
  | o :: r, σ, 0, h => by
    obtain ⟨w, τ, rfl, q', t⟩ := h
    exact ⟨_, _, rfl, fun d' e => by cases e; exact ⟨v, rfl, q⟩, t⟩
  | o :: r, σ, i + 1, h => by
    obtain ⟨w, τ, rfl, q', t⟩ := h
    exact ⟨_, _, rfl, q', SRel.set q i t⟩
theorem SRel.unset : ∀ {r : Sl} {σ : L2.St} (i : Nat) (w : Option V), SRel K H r σ → SRel K H (setS r i none) (σ.set i w)
  | [], σ, i, w, h => by
    have h : σ = [] := h
    subst h
    show SRel K H [] (List.set [] i _)
    simp [SRel]
  | o :: r, σ, 0, w, h => by
    obtain ⟨w', τ, rfl, q', t⟩ := h
    exact ⟨w, τ, rfl, (fun d' e => nomatch e), t⟩
  | o :: r, σ, i + 1, w, h => by
    obtain ⟨w', τ, rfl, q', t⟩ := h
    exact ⟨_, _, rfl, q', SRel.unset i w t⟩
def wipeS (e : Sl) : List Nat → Sl
  | [] => e
  | v :: vs => setS (wipeS e vs) v none
theorem SRel.wipe {r : Sl} {σ : L2.St} (h : SRel K H r σ) : ∀ vs : List Nat, SRel K H (wipeS r vs) (L2.wipe σ vs)
  | [] => h
  | v :: vs => by
    show SRel K H (setS (wipeS r vs) v none) ((L2.wipe σ vs).set v none)
    exact SRel.unset v none (SRel.wipe h vs)
end

abbrev QE := D → Mem → Prop
abbrev EX := Value → List (Str × D) → Mem → Prop
abbrev EF : EX := fun _ _ _ => False
abbrev DTE := Sl → Mem → QE → EX → Prop
abbrev DTT := Sl → Mem → (Bool → Mem → Prop) → EX → Prop
abbrev DTA := Sl → Mem → (List D → Mem → Prop) → EX → Prop
structure DEnds where
  nx : Sl → Mem → Prop
  rt : QE
  bk : Sl → Mem → Prop := fun _ _ => False
  ct : Sl → Mem → Prop := fun _ _ => False
abbrev DTS := DEnds → EX → Sl → Mem → Prop
structure Gd where
  X : Cx
  M0 : Mem
  H0 : Hp
  E : EX
def XOk (K : PySem.W.Frag) (H : Hp) (d : Option Addr) (fs : List (Str × D)) : Prop :=
  match d with
  | none => fs = []
  | some a => ∃ ws : List (Str × V), H a = some (.xd ws) ∧ ∀ f, match fs.lookup f with
    | some x => ∃ v, ws.lookup f = some v ∧ Is K H x v
    | none => ws.lookup f = none
def wxOf (K : PySem.W.Frag) (M0 : Mem) (H0 : Hp) (E : EX) : Value → Option Addr → Hp → Prop := fun c d H => ∃ M fs, Fr M0 H0 M H ∧ MRel K M H ∧ XOk K H d fs ∧ E c fs M
structure SI (g : Gd) (pins : List (Addr × Obj)) (σ : L2.St) (H : Hp) (s : Shared) (e : Sl) (M : Mem) : Prop where
  inv : Inv g.X pins σ H s
  sl : SRel g.X.K H e σ
  mr : MRel g.X.K M H
  fr : Fr g.M0 g.H0 M H
theorem SI.next {g : Gd} {pins : List (Addr × Obj)} {σ : L2.St} {H H' : Hp} {s s' : Shared} {e : Sl} {M M' : Mem} (I : SI g pins σ H s e M) (J : Inv g.X pins σ H' s') (m : MRel g.X.K M' H') (f : Fr M H M' H') : SI g pins σ H' s' e M' :=
  ⟨J, I.sl.ext (f.ext I.mr), m, I.fr.trans f⟩

def DEP (g : Gd) (pins : List (Addr × Obj)) (σ : L2.St) (e : Sl) (M : Mem) (H : Hp) (Q : QE) (u : Value) (s' : Shared) : Prop :=
  ∃ v d H' M', RelV v u ∧ Is g.X.K H' d v ∧ SI g pins σ H' s' e M' ∧ Fr M H M' H' ∧ Q d M'
def DTP (g : Gd) (pins : List (Addr × Obj)) (σ : L2.St) (e : Sl) (M : Mem) (H : Hp) (Q : Bool → Mem → Prop) (b : Bool) (s' : Shared) : Prop :=
  ∃ H' M', SI g pins σ H' s' e M' ∧ Fr M H M' H' ∧ Q b M'
structure DE (g : Gd) (x : Expr) (t : DTE) : Prop where
  run : ∀ (pins : List (Addr × Obj)) (s : Shared) (σ : L2.St) (H : Hp) (e : Sl) (M : Mem) (Q : QE), SI g pins σ H s e M → t e M Q g.E →
    wpAny (model g.X.prog g.X.w) g.X.A (eval x g.X.env) (DEP g pins σ e M H Q) g.X.xe s
structure DT (g : Gd) (x : Expr) (t : DTT) : Prop where
  run : ∀ (pins : List (Addr × Obj)) (s : Shared) (σ : L2.St) (H : Hp) (e : Sl) (M : Mem) (Q : Bool → Mem → Prop), SI g pins σ H s e M → t e M Q g.E →
    wpAny (model g.X.prog g.X.w) g.X.A (isTrue x g.X.env (eval x g.X.env)) (DTP g pins σ e M H Q) g.X.xe s

def lowQ (K : PySem.W.Frag) (M : Mem) (H : Hp) (R : QE) : VK := fun v H' => ∃ d M', Is K H' d v ∧ MRel K M' H' ∧ Fr M H M' H' ∧ R d M'
def lowK (K : PySem.W.Frag) (M0 : Mem) (H0 : Hp) (E : EX) (t : DTE) : TE := fun σ H Q => ∃ (e : Sl) (M : Mem) (R : QE), SRel K H e σ ∧ MRel K M H ∧ Fr M0 H0 M H ∧ t e M R E ∧ ∀ v H', lowQ K M H R v H' → Q v H'
abbrev lowE (g : Gd) (t : DTE) : TE := lowK g.X.K g.M0 g.H0 g.E t
def lowQT (K : PySem.W.Frag) (M : Mem) (H : Hp) (R : Bool → Mem → Prop) : Bool → Hp → Prop := fun b H' => ∃ M', MRel K M' H' ∧ Fr M H M' H' ∧ R b M'
def lowTK (K : PySem.W.Frag) (M0 : Mem) (H0 : Hp) (E : EX) (t : DTT) : TT := fun σ H Q => ∃ (e : Sl) (M : Mem) (R : Bool → Mem → Prop), SRel K H e σ ∧ MRel K M H ∧ Fr M0 H0 M H ∧ t e M R E ∧ ∀ b H', lowQT K M H R b H' → Q b H'
abbrev lowT (g : Gd) (t : DTT) : TT := lowTK g.X.K g.M0 g.H0 g.E t
theorem DE.pe {g : Gd} {x : Expr} {t : DTE} (h : DE g x t) : PE g.X x (lowE g t) := by
  refine ⟨fun pins s σ H Q I q => ?_⟩
  obtain ⟨e, M, R, sl, mr, fr, ht, k⟩ := q
  refine thn (h.run pins s σ H e M R ⟨I, sl, mr, fr⟩ ht) fun u s' z => ?_
  obtain ⟨v, d, H', M', r, i, J, f, q⟩ := z
  exact ⟨v, H', J.inv, r, k v H' ⟨d, M', i, J.mr, f, q⟩⟩
theorem DT.pt {g : Gd} {x : Expr} {t : DTT} (h : DT g x t) : PT g.X x (lowT g t) := by
  refine ⟨fun pins s σ H Q I q => ?_⟩
  obtain ⟨e, M, R, sl, mr, fr, ht, k⟩ := q
  refine thn (h.run pins s σ H e M R ⟨I, sl, mr, fr⟩ ht) fun b s' z => ?_
  obtain ⟨H', M', J, f, q⟩ := z
  exact ⟨H', J.inv, k b H' ⟨M', J.mr, f, q⟩⟩
theorem DE.of {g : Gd} {x : Expr} {t : DTE} {t' : TE} (h : PE g.X x t')
    (k : ∀ σ H e M Q, SRel g.X.K H e σ → MRel g.X.K M H → Fr g.M0 g.H0 M H → t e M Q g.E → t' σ H (lowQ g.X.K M H Q)) : DE g x t := by
  refine ⟨fun pins s σ H e M Q I q => ?_⟩
  refine thn (h.run pins s σ H _ I.inv (k σ H e M Q I.sl I.mr I.fr q)) fun u s' z => ?_
  obtain ⟨v, H', J, r, d, M', i, mr, f, q⟩ := z
  exact ⟨v, d, H', M', r, i, I.next J mr f, f, q⟩
theorem DT.of {g : Gd} {x : Expr} {t : DTT} {t' : TT} (h : PT g.X x t')
    (k : ∀ σ H e M Q, SRel g.X.K H e σ → MRel g.X.K M H → Fr g.M0 g.H0 M H → t e M Q g.E → t' σ H (lowQT g.X.K M H Q)) : DT g x t := by
  refine ⟨fun pins s σ H e M Q I q => ?_⟩
  refine thn (h.run pins s σ H _ I.inv (k σ H e M Q I.sl I.mr I.fr q)) fun b s' z => ?_
  obtain ⟨H', J, M', mr, f, q⟩ := z
  exact ⟨H', M', I.next J mr f, f, q⟩
theorem low_start {g : Gd} {t : DTE} {σ : L2.St} {H : Hp} {e : Sl} {M : Mem} {R : QE} {Q : VK} (sl : SRel g.X.K H e σ) (mr : MRel g.X.K M H) (fr : Fr g.M0 g.H0 M H) (h : t e M R g.E)
    (k : ∀ v d M' H', Is g.X.K H' d v → MRel g.X.K M' H' → Fr M H M' H' → R d M' → Q v H') : lowE g t σ H Q :=
  ⟨e, M, R, sl, mr, fr, h, fun v H' ⟨d, M', i, m, f, q⟩ => k v d M' H' i m f q⟩
theorem low_startT {g : Gd} {t : DTT} {σ : L2.St} {H : Hp} {e : Sl} {M : Mem} {R : Bool → Mem → Prop} {Q : Bool → Hp → Prop} (sl : SRel g.X.K H e σ) (mr : MRel g.X.K M H) (fr : Fr g.M0 g.H0 M H) (h : t e M R g.E)
    (k : ∀ b M' H', MRel g.X.K M' H' → Fr M H M' H' → R b M' → Q b H') : lowT g t σ H Q :=
  ⟨e, M, R, sl, mr, fr, h, fun b H' ⟨M', m, f, q⟩ => k b M' H' m f q⟩

section
variable {K : PySem.W.Frag} {M : Mem} {H : Hp}
theorem MOk.ext {H' : Hp} {a : Addr} {o : MO} (e : Ext K H H') (h : H' a = H a) (q : MOk K H a o) : MOk K H' a o := by
  cases o with
  | lst ds => obtain ⟨vs, z, l⟩ := q; exact ⟨vs, h.trans z, IsL.ext e _ _ l⟩
  | dK ds => obtain ⟨vs, z, k, l⟩ := q; exact ⟨vs, h.trans z, k, IsL.ext e _ _ l⟩
  | dT ds => obtain ⟨vs, z, k, l⟩ := q; exact ⟨vs, h.trans z, k, IsL.ext e _ _ l⟩
  | ins C ds => obtain ⟨dx, vs, z, k, l, it⟩ := q; exact ⟨dx, vs, h.trans z, k, IsL.ext e _ _ l, it⟩
  | lk o ws ds => obtain ⟨z, k, l⟩ := q; exact ⟨h.trans z, k, IsL.ext e _ _ l⟩
theorem MRel.none_of (r : MRel K M H) {p : Addr} (h : H p = none) : M p = none := by
  cases e : M p with
  | none => rfl
  | some o =>
    have q := r p o e
    cases o with
    | lst _ => obtain ⟨_, z, _⟩ := q; rw [h] at z; cases z
    | dK _ => obtain ⟨_, z, _⟩ := q; rw [h] at z; cases z
    | dT _ => obtain ⟨_, z, _⟩ := q; rw [h] at z; cases z
    | ins _ _ => obtain ⟨_, _, z, _⟩ := q; rw [h] at z; cases z
    | lk _ _ _ => obtain ⟨z, _⟩ := q; rw [h] at z; cases z
theorem fr_new (r : MRel K M H) {p : Addr} {o : HO} (h : H p = none) : Fr M H M (upd H p o) := ⟨fun b u hb n => by
  have e : b ≠ p := ne_of_none hb h
  exact ⟨by rw [upd_ne e]; exact hb, n⟩, fun _ => upd_none⟩
theorem mr_new (r : MRel K M H) {p : Addr} {o : HO} (h : H p = none) : MRel K M (upd H p o) := fun a x e => by
  have q := r a x e
  have ne : a ≠ p := fun z => by subst z; rw [r.none_of h] at e; cases e
  exact q.ext ((fr_new r h).ext r) (upd_ne ne)
theorem fr_alloc (r : MRel K M H) {p : Addr} {o : HO} {u : MO} (h : H p = none) : Fr M H (wr M p u) (upd H p o) := ⟨fun b x hb n => by
  have e : b ≠ p := ne_of_none hb h
  exact ⟨by rw [upd_ne e]; exact hb, by rw [wr_ne e]; exact n⟩, fun _ => upd_none⟩
theorem mr_alloc (r : MRel K M H) {p : Addr} {o : HO} {u : MO} (h : H p = none) (q : MOk K (upd H p o) p u) : MRel K (wr M p u) (upd H p o) := fun a x e => by
  by_cases z : a = p
  · subst z; rw [wr_same] at e; cases e; exact q
  · rw [wr_ne z] at e
    exact mr_new r h a x e
theorem fr_write (r : MRel K M H) {a : Addr} {o : HO} {u v : MO} (h : M a = some v) : Fr M H (wr M a u) (upd H a o) := ⟨fun b x hb n => by
  have e : b ≠ a := fun z => by subst z; rw [h] at n; cases n
  exact ⟨by rw [upd_ne e]; exact hb, by rw [wr_ne e]; exact n⟩, fun _ => upd_none⟩
theorem mr_write (r : MRel K M H) {a : Addr} {o : HO} {u v : MO} (h : M a = some v) (q : MOk K (upd H a o) a u) : MRel K (wr M a u) (upd H a o) := fun b x e => by
  by_cases z : b = a
  · subst z; rw [wr_same] at e; cases e; exact q
  · rw [wr_ne z] at e
    exact (r b x e).ext ((fr_write (o := o) (u := u) r h).ext r) (upd_ne z)
def Sub (M' M : Mem) : Prop := ∀ a o, M' a = some o → M a = some o
theorem Sub.refl {M : Mem} : Sub M M := fun _ _ h => h
theorem MRel.sub (r : MRel K M H) {M' : Mem} (s : Sub M' M) : MRel K M' H := fun a o e => r a o (s a o e)
theorem Sub.none {M M' : Mem} (s : Sub M' M) {a : Addr} (h : M a = Option.none) : M' a = Option.none := by
  cases e : M' a with
  | none => rfl
  | some o => rw [s a o e] at h; cases h
theorem Fr.sub {M M1 M2 : Mem} {H H1 : Hp} (f : Fr M H M1 H1) (s : Sub M2 M1) : Fr M H M2 H1 := ⟨fun b o h n =>
  let ⟨h1, n1⟩ := f.keep b o h n
  ⟨h1, s.none n1⟩, f.there⟩
end
end DL

namespace DL
open PySem PySem.Spec PyProof.Rows L2 PySem.MeetsSeq
theorem add_lst (l : Addr) (items : Array Value) (n : Nat) (sl : Array (Option Value)) (b : Addr) (items2 : Array Value) (n2 : Nat) (sl2 : Array (Option Value)) (hs : items.size + items2.size ≤ sizeLine) :
    Meets (Builtin.«list.__add__» ⟨[.ref l, .ref b], []⟩) (fun _ R s => s.heap.get? l = some { cls := .type "list", dict := none, data := .seq items n, slots := sl } ∧ s.heap.get? b = some { cls := .type "list", dict := none, data := .seq items2 n2, slots := sl2 } ∧ R (.ok (.ret (Value.ref s.heap.objs.size))) { s with heap := s.heap.push { cls := .type "list", data := .seq (items ++ items2) }, toks := s.toks }) :=
  .of_wp fun prog w A R s h => by
    obtain ⟨hp, g, d, tk, os⟩ := s
    obtain ⟨hl, hb, h⟩ := h
    have f1 := AutoSeq1.idx_int
    have f2 := AutoSeq1.sub_tuple_tuple
    have f3 := AutoSeq1.sub_list_list
    have f4 := AutoSeq1.sub_tuple_list
    have f5 := AutoSeq1.sub_list_tuple
    wp_walk using AutoSeq1.wpAny_loadPart' hl, AutoSeq1.wpAny_loadPart' hb
    exact ⟨_, rfl, h⟩
section
variable {X : Cx}
def rCatL (K : PySem.W.Frag) : R2 := fun x y H Q => ∃ l b xs zs, x = .ref l ∧ y = .ref b ∧ SqL K H l xs ∧ SqL K H b zs ∧ xs.length + zs.length ≤ sizeLine ∧ ∀ p, H p = none → Q (.ref p) (upd H p (.lst (xs ++ zs)))
theorem op_catL : OpR X (binaryOp .Add) (rCatL X.K) := by
  intro pins s σ H x y v u Q I rx ry h
  obtain ⟨l, b, xs, zs, rfl, rfl, hH, hB, hz, q⟩ := h
  cases rx
  cases ry
  obtain ⟨its, r, ⟨⟨c1, d1, s1, l1⟩, n, e, hc, hn, hd⟩, z1⟩ := I.list hH
  obtain ⟨its2, r2, ⟨⟨c2, d2, s2, l2⟩, n2, e2, hc2, hn2, hd2⟩, z2⟩ := I.list hB
  simp only at hc hn hd hc2 hn2 hd2
  subst hc hn hd hc2 hn2 hd2
  have k1 := r.length
  have k2 := r2.length
  refine concat_meets ⟨_, e, rfl⟩ ⟨_, e2, rfl⟩ noFill_list_add seq_list_add F.slot_list_add F.entry_list_add (F.args_list_add_2 _ _) (add_lst l its.toArray n l1 b its2.toArray n2 l2 (by rw [List.size_toArray, List.size_toArray]; omega)) ⟨e, e2, ?_⟩
  have ea : its.toArray ++ its2.toArray = (its ++ its2).toArray := by simp
  rw [ea]
  exact ⟨.ref _, _, I.lnew (t' := s.toks) (r.append r2) (by rw [List.length_append]; omega), rfl, q _ I.fresh⟩
end
end DL

namespace DL
open PySem PySem.Spec PyProof.Rows L2

theorem lowQ.mk {K : PySem.W.Frag} {Mo M' : Mem} {Ho H' : Hp} {Q : QE} {d : D} {v : V} (i : Is K H' d v) (m : MRel K M' H') (f : Fr Mo Ho M' H') (q : Q d M') : lowQ K Mo Ho Q v H' := ⟨d, M', i, m, f, q⟩

def kPy : Key → PyData
  | .inl i => .int i
  | .inr s => .str s
mutual
inductive PD (M : Mem) : D → PyData → Prop
  | non : PD M .non .none
  | bl (b : Bool) : PD M (.bl b) (.bool b)
  | int (i : Int) : PD M (.int i) (.int i)
  | str (s : Str) : PD M (.str s) (.str s)
  | tup {ds : List D} {ps : List PyData} : PDL M ds ps → PD M (.tup ds) (.tuple ps)
  | rl {ds : List D} {ps : List PyData} : PDL M ds ps → PD M (.rl ds) (.list ps)
  | tx {ds : List D} {ps : List PyData} : PDL M ds ps → PD M (.tx ds) (.tuple ps)
  | lst {a : Addr} {ds : List D} {ps : List PyData} : M a = some (.lst ds) → PDL M ds ps → PD M (.ref a) (.list ps)
  | dK {a : Addr} {kvs : List (Key × D)} {ps : List PyData} : M a = some (.dK kvs) → PDL M (kvs.map (·.2)) ps → PD M (.ref a) (.dict ((kvs.map fun p => kPy p.1).zip ps))
  | rk {ks : List Key} {ds : List D} {ps : List PyData} : PDL M ds ps → PD M (.rk ks ds) (.dict ((ks.map kPy).zip ps))
inductive PDL (M : Mem) : List D → List PyData → Prop
  | nil : PDL M [] []
  | cons {d : D} {ds : List D} {p : PyData} {ps : List PyData} : PD M d p → PDL M ds ps → PDL M (d :: ds) (p :: ps)
end
mutual
def toPy : D → PyData
  | .non => .none
  | .bl b => .bool b
  | .int i => .int i
  | .str s => .str s
  | .tup xs => .tuple (toPyL xs)
  | .rl xs => .list (toPyL xs)
  | .tx xs => .tuple (toPyL xs)
  | .rk ks xs => .dict ((ks.map kPy).zip (toPyL xs))
  | .ref _ => .none
  | .ty _ => .none
def toPyL : List D → List PyData
  | [] => []
  | d :: ds => toPy d :: toPyL ds
end
mutual
def flatD : D → Bool
  | .ref _ => false
  | .rk _ xs => flatDL xs
  | .ty _ => false
  | .tup xs => flatDL xs
  | .rl xs => flatDL xs
  | .tx xs => flatDL xs
  | _ => true
def flatDL : List D → Bool
  | [] => true
  | d :: ds => flatD d && flatDL ds
end
mutual
theorem PD.of {M : Mem} : ∀ (d : D), flatD d = true → PD M d (toPy d)
  | .non, _ => by unfold toPy; exact .non
  | .bl b, _ => by unfold toPy; exact .bl b
  | .int i, _ => by unfold toPy; exact .int i
  | .str s, _ => by unfold toPy; exact .str s
  | .tup xs, h => by unfold toPy; unfold flatD at h; exact .tup (PDL.of xs h)
  | .rl xs, h => by unfold toPy; unfold flatD at h; exact .rl (PDL.of xs h)
  | .tx xs, h => by unfold toPy; unfold flatD at h; exact .tx (PDL.of xs h)
  | .rk ks xs, h => by unfold toPy; unfold flatD at h; exact .rk (PDL.of xs h)
  | .ref _, h => by unfold flatD at h; cases h
  | .ty _, h => by unfold flatD at h; cases h
theorem PDL.of {M : Mem} : ∀ (ds : List D), flatDL ds = true → PDL M ds (toPyL ds)
  | [], _ => by unfold toPyL; exact .nil
  | d :: ds, h => by
    unfold flatDL at h
    unfold toPyL
    rw [Bool.and_eq_true] at h
    exact .cons (PD.of d h.1) (PDL.of ds h.2)
end

section
variable {X : Cx} {pins : List (Addr × Obj)} {σ : L2.St} {H : Hp} {s : Shared} {M : Mem}
mutual
/-- a tree's data is read off the heap -/
theorem PD.reads (I : Inv X pins σ H s) (m : MRel X.K M H) : ∀ (p : PyData) (d : D) (v : V) (u : Value), PD M d p → Is X.K H d v → RelV v u → (p.hasDict = false) → ∃ as, Reads s.heap u p as
  | .none, _, _, _, h, i, r, _ => by
    cases h with
    | non =>
      unfold Is at i; subst i; cases r
      exact ⟨_, Reads.none⟩
  | .bool b, _, _, _, h, i, r, _ => by
    cases h with
    | bl =>
      unfold Is at i; subst i; cases r
      exact ⟨_, Reads.bool b⟩
  | .int k, _, _, _, h, i, r, _ => by
    cases h with
    | int =>
      unfold Is at i; subst i; obtain ⟨t, rfl⟩ := r
      exact ⟨_, Reads.int k t⟩
  | .str x, _, _, _, h, i, r, _ => by
    cases h with
    | str =>
      unfold Is at i; subst i; obtain ⟨t, rfl⟩ := r
      exact ⟨_, Reads.str x t⟩
  | .tuple ps, _, _, _, h, i, r, nd => by
    cases h with
    | tup hl =>
      rw [is_tup] at i
      obtain ⟨a, vs, rfl, hs, il⟩ := i
      cases r
      obtain ⟨its, rv, ⟨o, ho, hc, n, hd⟩, _⟩ := I.tuple (SqT.of (K := X.K) hs)
      obtain ⟨as, hr⟩ := PD.readsAll I m ps _ _ its hl il rv (by simpa [PyData.hasDict] using nd)
      exact ⟨_, Reads.tuple ho hc hd hr⟩
    | tx hl =>
      rw [is_tx] at i
      obtain ⟨a, vs, rfl, hs, il⟩ := i
      cases r
      obtain ⟨its, rv, ⟨o, ho, hc, n, hd⟩, _⟩ := I.tuple (hs.sq (K := X.K))
      obtain ⟨as, hr⟩ := PD.readsAll I m ps _ _ its hl il rv (by simpa [PyData.hasDict] using nd)
      exact ⟨_, Reads.tuple ho hc hd hr⟩
  | .list ps, _, _, _, h, i, r, nd => by
    cases h with
    | rl hl =>
      rw [is_rl] at i
      obtain ⟨a, vs, rfl, hs, il⟩ := i
      cases r
      obtain ⟨its, rv, ⟨o, n, ho, hc, _, hd⟩, _⟩ := I.list hs.sq
      obtain ⟨as, hr⟩ := PD.readsAll I m ps _ _ its hl il rv (by simpa [PyData.hasDict] using nd)
      exact ⟨_, Reads.list ho hc hd hr⟩
    | @lst a ds _ hM hl =>
      unfold Is at i; subst i; cases r
      obtain ⟨vs, hs, il⟩ := m a _ hM
      obtain ⟨its, rv, ⟨o, n, ho, hc, _, hd⟩, _⟩ := I.list (SqL.of (K := X.K) hs)
      obtain ⟨as, hr⟩ := PD.readsAll I m ps _ _ its hl il rv (by simpa [PyData.hasDict] using nd)
      exact ⟨_, Reads.list ho hc hd hr⟩
  | .dict _, _, _, _, _, _, _, nd => by simp [PyData.hasDict] at nd
theorem PD.readsAll (I : Inv X pins σ H s) (m : MRel X.K M H) : ∀ (ps : List PyData) (ds : List D) (vs : List V) (us : List Value), PDL M ds ps → IsL X.K H ds vs → Vals vs us → (PyData.hasDictAll ps = false) → ∃ as, ReadsAll s.heap us ps as
  | [], _, _, _, h, i, r, _ => by
    cases h
    rw [isL_nil] at i; subst i; cases r
    exact ⟨_, ReadsAll.nil⟩
  | p :: ps, _, _, _, h, i, r, nd => by
    cases h with
    | cons h1 h2 =>
      rw [isL_cons] at i
      obtain ⟨v, rr, rfl, i1, i2⟩ := i
      cases r with
      | cons r1 r2 =>
        have nd' : p.hasDict = false ∧ PyData.hasDictAll ps = false := by simpa [PyData.hasDictAll] using nd
        obtain ⟨as, q1⟩ := PD.reads I m p _ _ _ h1 i1 r1 nd'.1
        obtain ⟨bs, q2⟩ := PD.readsAll I m ps _ _ _ h2 i2 r2 nd'.2
        exact ⟨_, ReadsAll.cons q1 q2⟩
end
end

section
variable {K : PySem.W.Frag} {H : Hp} {v : V}
theorem is_non : Is K H .non v ↔ v = .non := by conv => lhs; unfold Is
theorem is_bl {b : Bool} : Is K H (.bl b) v ↔ v = .bl b := by conv => lhs; unfold Is
theorem is_int {i : Int} : Is K H (.int i) v ↔ v = .int i := by conv => lhs; unfold Is
theorem is_str {x : Str} : Is K H (.str x) v ↔ v = .str x := by conv => lhs; unfold Is
theorem is_ref {a : Addr} : Is K H (.ref a) v ↔ v = .ref a := by conv => lhs; unfold Is
theorem is_ty {n : String} : Is K H (.ty n) v ↔ v = .ty n := by conv => lhs; unfold Is
theorem ii_non : Is K H .non .non := is_non.mpr rfl
theorem ii_bl {b : Bool} : Is K H (.bl b) (.bl b) := is_bl.mpr rfl
theorem ii_int {i : Int} : Is K H (.int i) (.int i) := is_int.mpr rfl
theorem ii_str {x : Str} : Is K H (.str x) (.str x) := is_str.mpr rfl
theorem ii_ref {a : Addr} : Is K H (.ref a) (.ref a) := is_ref.mpr rfl
theorem ii_ty {n : String} : Is K H (.ty n) (.ty n) := is_ty.mpr rfl
theorem ii_tup {a : Addr} {ds : List D} {vs : List V} (h : H a = some (.tup vs)) (l : IsL K H ds vs) : Is K H (.tup ds) (.ref a) := is_tup.mpr ⟨a, vs, rfl, h, l⟩
end
abbrev R2D := D → D → Mem → QE → Prop
abbrev Fin (K : PySem.W.Frag) (Mo : Mem) (Ho : Hp) (Q : QE) (QV : VK) : Prop := ∀ v d M' H', Is K H' d v → MRel K M' H' → Fr Mo Ho M' H' → Q d M' → QV v H'
theorem fin_low {K : PySem.W.Frag} {Mo : Mem} {Ho : Hp} {Q : QE} : Fin K Mo Ho Q (lowQ K Mo Ho Q) := fun _ _ _ _ i m f q => lowQ.mk i m f q
section
variable {K : PySem.W.Frag} {M Mo : Mem} {H Ho : Hp} {Q : QE} {QV : VK}
theorem Fin.newL (fin : Fin K Mo Ho Q QV) (m : MRel K M H) (f : Fr Mo Ho M H) {ds : List D} {vs : List V} (l : IsL K H ds vs) (q : ∀ p, M p = none → Q (.ref p) (wr M p (.lst ds))) :
    ∀ p, H p = none → QV (.ref p) (upd H p (.lst vs)) := fun p hp => by
  have hm : M p = none := m.none_of hp
  have q' : MOk K (upd H p (.lst vs)) p (.lst ds) := ⟨vs, upd_same, IsL.ext ((fr_new (o := HO.lst vs) m hp).ext m) _ _ l⟩
  exact fin _ _ _ _ ii_ref (mr_alloc m hp q') (f.trans (fr_alloc m hp)) (q p hm)
theorem Fin.newT (fin : Fin K Mo Ho Q QV) (m : MRel K M H) (f : Fr Mo Ho M H) {ds : List D} {vs : List V} (l : IsL K H ds vs) (q : Q (.tup ds) M) :
    ∀ p, H p = none → QV (.ref p) (upd H p (.tup vs)) := fun p hp => by
  exact fin _ _ _ _ (ii_tup upd_same (IsL.ext ((fr_new (o := HO.tup vs) m hp).ext m) _ _ l)) (mr_new m hp) (f.trans (fr_new m hp)) q
theorem Fin.setL (fin : Fin K Mo Ho Q QV) (m : MRel K M H) (f : Fr Mo Ho M H) {a : Addr} {u : MO} (h : M a = some u) {ds : List D} {vs : List V} (l : IsL K H ds vs) {d : D} {v : V} (i : Is K H d v) (q : Q d (wr M a (.lst ds))) :
    QV v (upd H a (.lst vs)) := by
  have e : Ext K H (upd H a (.lst vs)) := (fr_write (o := HO.lst vs) (u := .lst ds) m h).ext m
  have q' : MOk K (upd H a (.lst vs)) a (.lst ds) := ⟨vs, upd_same, IsL.ext e _ _ l⟩
  exact fin _ _ _ _ (Is.ext e _ _ i) (mr_write m h q') (f.trans (fr_write m h)) q
end
def OpK (K : PySem.W.Frag) (r : R2D) (r' : R2) : Prop := ∀ (M : Mem) (H : Hp) (Mo : Mem) (Ho : Hp) (x y : V) (a b : D) (Q : QE) (QV : VK), MRel K M H → Fr Mo Ho M H → Is K H a x → Is K H b y → Fin K Mo Ho Q QV → r a b M Q → r' x y H QV
def OpD (X : Cx) (f : Value → Value → Sem Value) (r : R2D) : Prop := ∃ r' : R2, OpR X f r' ∧ OpK X.K r r'
def dBin (r : R2D) (ta tb : DTE) : DTE := fun e M Q E => ta e M (fun x M1 => tb e M1 (fun y M2 => r x y M2 Q) E) E
section
variable {g : Gd} {a b c : Expr} {ta tb tc : DTE} {pos : Pos}
theorem low_bin {r : R2D} {r' : R2} (k : OpK g.X.K r r') {σ : L2.St} {H : Hp} {e : Sl} {M : Mem} {Q : QE} {QV : VK} (sl : SRel g.X.K H e σ) (mr : MRel g.X.K M H) (fr : Fr g.M0 g.H0 M H) (h : dBin r ta tb e M Q g.E) (fin : Fin g.X.K M H Q QV) :
    tOp r' (lowE g ta) (lowE g tb) σ H QV := by
  refine low_start sl mr fr h fun v d M1 H1 i m f q => ?_
  refine low_start (sl.ext (f.ext mr)) m (fr.trans f) q fun v2 d2 M2 H2 i2 m2 f2 q2 => ?_
  exact k M2 H2 M H v v2 d d2 Q _ m2 (f.trans f2) (Is.ext (f2.ext m) _ _ i) i2 fin q2
theorem de_bin {op : Operator} {r : R2D} (ho : OpD g.X (binaryOp op) r) (ha : DE g a ta) (hb : DE g b tb) : DE g (.BinOp a op b pos) (dBin r ta tb) := by
  obtain ⟨r', h, k⟩ := ho
  exact DE.of (pe_op h ha.pe hb.pe) fun σ H e M Q sl mr fr q => low_bin k sl mr fr q fin_low
theorem de_cmp {op : CmpOp} {r : R2D} (ho : OpD g.X (compareOp op) r) (ha : DE g a ta) (hb : DE g b tb) (hm : behindInMarks op b = false) : DE g (.Compare a [op] [b] pos) (dBin r ta tb) := by
  obtain ⟨r', h, k⟩ := ho
  exact DE.of (pe_cmpR h ha.pe hb.pe hm) fun σ H e M Q sl mr fr q => low_bin k sl mr fr q fin_low
def bQ (Q : Bool → Mem → Prop) : QE := fun x M => match x with | .bl b => Q b M | _ => False
def dTest (t : DTE) : DTT := fun e M Q E => t e M (bQ Q) E
theorem bQ_out {K : PySem.W.Frag} {Mo : Mem} {Ho : Hp} {Q : Bool → Mem → Prop} {QV : Bool → Hp → Prop} (k : ∀ b M' H', MRel K M' H' → Fr Mo Ho M' H' → Q b M' → QV b H') :
    Fin K Mo Ho (bQ Q) (fun x H' => ∃ c, x = .bl c ∧ QV c H') := fun v d M' H' i m f q => by
  cases d with
  | bl b => rw [is_bl] at i; exact ⟨b, i, k b M' H' m f q⟩
  | _ => exact q.elim
theorem dt_cmp {op : CmpOp} {r : R2D} (ho : OpD g.X (compareOp op) r) (ha : DE g a ta) (hb : DE g b tb) (hm : behindInMarks op b = false) : DT g (.Compare a [op] [b] pos) (dTest (dBin r ta tb)) := by
  obtain ⟨r', h, k⟩ := ho
  exact DT.of (pt_cmpR h ha.pe hb.pe hm) fun σ H e M Q sl mr fr q => low_bin k sl mr fr q (bQ_out fun b M' H' m f q => ⟨M', m, f, q⟩)
def dChain (r r' : R2D) (ta tb tc : DTE) : DTE := fun e M Q E => ta e M (fun x M1 => tb e M1 (fun y M2 => r x y M2 (bQ fun c M3 => if c = true then tc e M3 (fun z M4 => r' y z M4 Q) E else Q (.bl false) M3)) E) E
end
section
variable {K : PySem.W.Frag}
theorem OpD.or {X : Cx} {f : Value → Value → Sem Value} {r r' : R2D} (h : OpD X f r) (h' : OpD X f r') : OpD X f (fun x y M Q => r x y M Q ∨ r' x y M Q) := by
  obtain ⟨s, h1, k1⟩ := h
  obtain ⟨s', h2, k2⟩ := h'
  refine ⟨_, h1.or h2, fun M H Mo Ho x y a b Q QV m f i j fin q => ?_⟩
  rcases q with q | q
  · exact .inl (k1 M H Mo Ho x y a b Q QV m f i j fin q)
  · exact .inr (k2 M H Mo Ho x y a b Q QV m f i j fin q)
theorem OpD.imp {X : Cx} {f : Value → Value → Sem Value} {r r' : R2D} (h : OpD X f r) (k : ∀ x y M Q, r' x y M Q → r x y M Q) : OpD X f r' := by
  obtain ⟨s, h1, k1⟩ := h
  exact ⟨s, h1, fun M H Mo Ho x y a b Q QV m f i j fin q => k1 M H Mo Ho x y a b Q QV m f i j fin (k _ _ _ _ q)⟩
end
def dI (C : Int → Int → Prop) (f : Int → Int → D) : R2D := fun x y M Q => match x, y with | .int i, .int j => C i j ∧ Q (f i j) M | _, _ => False
theorem opd_int {X : Cx} {f : Value → Value → Sem Value} {C : Int → Int → Prop} {h : Int → Int → Int} (o : OpR X f (rI C fun i j => .int (h i j))) : OpD X f (dI C fun i j => .int (h i j)) := by
  refine ⟨_, o, fun M H Mo Ho x y a b Q QV m f i j fin q => ?_⟩
  cases a with
  | int k =>
    cases b with
    | int l =>
      rw [is_int] at i j
      exact ⟨k, l, i, j, q.1, fin _ _ _ _ ii_int m f q.2⟩
    | _ => exact q.elim
  | _ => exact q.elim
theorem opd_int0 {X : Cx} {f : Value → Value → Sem Value} {h : Int → Int → Int} (o : OpR X f (rI0 fun i j => .int (h i j))) : OpD X f (dI (fun _ _ => True) fun i j => .int (h i j)) := by
  refine ⟨_, o, fun M H Mo Ho x y a b Q QV m f i j fin q => ?_⟩
  cases a with
  | int k =>
    cases b with
    | int l =>
      rw [is_int] at i j
      exact ⟨k, l, i, j, fin _ _ _ _ ii_int m f q.2⟩
    | _ => exact q.elim
  | _ => exact q.elim
theorem opd_intB {X : Cx} {f : Value → Value → Sem Value} {h : Int → Int → Bool} (o : OpR X f (rI0 fun i j => .bl (h i j))) : OpD X f (dI (fun _ _ => True) fun i j => .bl (h i j)) := by
  refine ⟨_, o, fun M H Mo Ho x y a b Q QV m f i j fin q => ?_⟩
  cases a with
  | int k =>
    cases b with
    | int l =>
      rw [is_int] at i j
      exact ⟨k, l, i, j, fin _ _ _ _ ii_bl m f q.2⟩
    | _ => exact q.elim
  | _ => exact q.elim
def dAddS : R2D := fun x y M Q => match x, y with | .str a, .str b => a.length + b.length ≤ sizeLine ∧ Q (.str (a ++ b)) M | _, _ => False
def dAddT : R2D := fun x y M Q => match x, y with | .tup a, .tup b => a.length + b.length ≤ sizeLine ∧ Q (.tup (a ++ b)) M | _, _ => False
section
variable {X : Cx}
theorem opd_addS : OpD X (binaryOp .Add) dAddS := by
  refine ⟨_, op_add_str, fun M H Mo Ho x y a b Q QV m f i j fin q => ?_⟩
  cases a with
  | str k =>
    cases b with
    | str l =>
      rw [is_str] at i j
      exact ⟨k, l, i, j, q.1, fin _ _ _ _ ii_str m f q.2⟩
    | _ => exact q.elim
  | _ => exact q.elim
theorem opd_addT : OpD X (binaryOp .Add) dAddT := by
  refine ⟨_, op_catA, fun M H Mo Ho x y a b Q QV m f i j fin q => ?_⟩
  cases a with
  | tup k =>
    cases b with
    | tup l =>
      have i0 := i
      have j0 := j
      rw [is_tup] at i j
      obtain ⟨p1, vs, rfl, h1, l1⟩ := i
      obtain ⟨p2, ws, rfl, h2, l2⟩ := j
      refine ⟨p1, p2, vs, ws, rfl, rfl, SqT.of h1, SqT.of h2, by rw [l1.length, l2.length]; exact q.1, fun e => ?_, fun _ e => ?_, fun _ _ => fin.newT m f (l1.append l2) q.2⟩
      · have ek : k = [] := by
          have := l1.length
          rw [e] at this
          exact List.length_eq_zero_iff.mp this.symm
        subst ek
        exact fin _ _ _ _ j0 m f q.2
      · have el : l = [] := by
          have := l2.length
          rw [e] at this
          exact List.length_eq_zero_iff.mp this.symm
        subst el
        have q2 : Q (.tup k) M := by simpa using q.2
        exact fin _ _ _ _ i0 m f q2
    | _ => exact q.elim
  | _ => exact q.elim
def lsD (M : Mem) (d : D) (R : List D → Prop) : Prop := match d with
  | .ref a => ∃ xs, M a = some (.lst xs) ∧ R xs
  | .rl xs => R xs
  | _ => False
theorem lsD_sq {X : Cx} {M : Mem} {H : Hp} {d : D} {v : V} {R : List D → Prop} (m : MRel X.K M H) (i : Is X.K H d v) (h : lsD M d R) : ∃ a vs ds, v = .ref a ∧ SqL X.K H a vs ∧ IsL X.K H ds vs ∧ R ds := by
  cases d with
  | ref a =>
    rw [is_ref] at i
    obtain ⟨xs, h1, r⟩ := h
    obtain ⟨vs, e1, l1⟩ := m a _ h1
    exact ⟨a, vs, xs, i, .inl (.inl e1), l1, r⟩
  | rl xs =>
    rw [is_rl] at i
    obtain ⟨a, vs, rfl, e, l⟩ := i
    exact ⟨a, vs, xs, rfl, e.sq, l, h⟩
  | _ => exact h.elim
def dAddQ : R2D := fun x y M Q => lsD M x fun xs => lsD M y fun ys => xs.length + ys.length ≤ sizeLine ∧ ∀ p, M p = none → Q (.ref p) (wr M p (.lst (xs ++ ys)))
theorem opd_addQ : OpD X (binaryOp .Add) dAddQ := by
  refine ⟨_, op_catL, fun M H Mo Ho x y a b Q QV m f i j fin q => ?_⟩
  obtain ⟨k, vs, xs, rfl, s1, l1, q⟩ := lsD_sq m i q
  obtain ⟨l, ws, ys, rfl, s2, l2, hl, q⟩ := lsD_sq m j q
  exact ⟨k, l, vs, ws, rfl, rfl, s1, s2, by rw [l1.length, l2.length]; exact hl, fin.newL m f (l1.append l2) q⟩
def dAdd : R2D := fun x y M Q => match x with
  | .int i => (match y with | .int j => Q (.int (i + j)) M | _ => False)
  | .str a => (match y with | .str b => a.length + b.length ≤ sizeLine ∧ Q (.str (a ++ b)) M | _ => False)
  | .tup a => (match y with | .tup b => a.length + b.length ≤ sizeLine ∧ Q (.tup (a ++ b)) M | _ => False)
  | .ref a => (match y with | .ref b => ∃ xs ys, M a = some (.lst xs) ∧ M b = some (.lst ys) ∧ xs.length + ys.length ≤ sizeLine ∧ ∀ p, M p = none → Q (.ref p) (wr M p (.lst (xs ++ ys))) | .rl ys => ∃ xs, M a = some (.lst xs) ∧ xs.length + ys.length ≤ sizeLine ∧ ∀ p, M p = none → Q (.ref p) (wr M p (.lst (xs ++ ys))) | _ => False)
  | .rl xs => (match y with | .ref b => ∃ ys, M b = some (.lst ys) ∧ xs.length + ys.length ≤ sizeLine ∧ ∀ p, M p = none → Q (.ref p) (wr M p (.lst (xs ++ ys))) | .rl ys => xs.length + ys.length ≤ sizeLine ∧ ∀ p, M p = none → Q (.ref p) (wr M p (.lst (xs ++ ys))) | _ => False)
  | _ => False
theorem opd_add : OpD X (binaryOp .Add) dAdd := by
  refine OpD.imp ((opd_int0 op_add).or (opd_addS.or (opd_addT.or opd_addQ))) fun x y M Q q => ?_
  cases x with
  | int i => cases y with
    | int j => exact .inl ⟨trivial, q⟩
    | _ => exact q.elim
  | str i => cases y with
    | str j => exact .inr (.inl q)
    | _ => exact q.elim
  | tup i => cases y with
    | tup j => exact .inr (.inr (.inl q))
    | _ => exact q.elim
  | ref i => cases y with
    | ref j => obtain ⟨xs, ys, h1, h2, q⟩ := q; exact .inr (.inr (.inr ⟨xs, h1, ys, h2, q⟩))
    | rl j => obtain ⟨xs, h1, q⟩ := q; exact .inr (.inr (.inr ⟨xs, h1, q⟩))
    | _ => exact q.elim
  | rl i => cases y with
    | ref j => obtain ⟨ys, h2, q⟩ := q; exact .inr (.inr (.inr ⟨ys, h2, q⟩))
    | rl j => exact .inr (.inr (.inr q))
    | _ => exact q.elim
  | _ => exact q.elim
def dSub : R2D := dI (fun _ _ => True) fun i j => .int (i - j)
theorem opd_sub : OpD X (binaryOp .Sub) dSub := opd_int0 op_sub
def CM (i j : Int) : Prop := CMul i j ∨ CMulW i j
theorem op_mulM : OpR X (binaryOp .Mult) (rI CM fun i j => .int (i * j)) := opI fun _ _ _ _ _ _ _ hc q => mul_int q (hc.elim CMul.ok CMulW.ok)
def dMulI : R2D := dI CM fun i j => .int (i * j)
def dMulL : R2D := fun x y M Q => match x, y with
  | .ref a, .int k => ∃ xs, M a = some (.lst xs) ∧ -(2 ^ 63) ≤ k ∧ k < 2 ^ 63 ∧ xs.length * k.toNat ≤ sizeLine ∧ ∀ p, M p = none → Q (.ref p) (wr M p (.lst (List.replicate k.toNat xs).flatten))
  | _, _ => False
theorem opd_mulL : OpD X (binaryOp .Mult) dMulL := by
  refine ⟨_, op_rep, fun M H Mo Ho x y a b Q QV m f i j fin q => ?_⟩
  cases a with
  | ref k =>
    cases b with
    | int l =>
      rw [is_ref] at i
      rw [is_int] at j
      obtain ⟨xs, h1, b1, b2, b3, q⟩ := q
      obtain ⟨vs, e1, l1⟩ := m k _ h1
      refine ⟨k, l, vs, i, j, e1, b1, b2, by rw [l1.length]; exact b3, fin.newL m f ?_ q⟩
      have : ∀ n : Nat, IsL X.K H (List.replicate n xs).flatten (List.replicate n vs).flatten := fun n => by
        induction n with
        | zero => simp [isL_nil]
        | succ n ih =>
          rw [List.replicate_succ, List.replicate_succ, List.flatten_cons, List.flatten_cons]
          exact l1.append ih
      exact this _
    | _ => exact q.elim
  | _ => exact q.elim
def CD' (i j : Int) : Prop := 0 < j ∧ j < 2 ^ 64
theorem op_fdivD : OpR X (binaryOp .FloorDiv) (rI CD' fun i j => .int (i / j)) := opI fun i j _ _ _ _ _ hc q => by
  have h1 : (0 : Int) < j := hc.1
  refine floordiv_int (by omega) (by rw [Int.fdiv_eq_ediv_of_nonneg i (by omega)]; exact q) (.inl (PyProof.noPylong_of_log2 ?_))
  have h2 : j.natAbs < 2 ^ 64 := by
    have := hc.2
    omega
  exact Nat.lt_of_lt_of_le (PySem.Flt.log2_lt_of (by decide) h2) (by decide)
def dFdiv : R2D := dI CD' fun i j => .int (i / j)
theorem opd_fdiv : OpD X (binaryOp .FloorDiv) dFdiv := opd_int op_fdivD
def dMod : R2D := dI (fun _ j => 0 < j) fun i j => .int (i % j)
theorem opd_mod : OpD X (binaryOp .Mod) dMod := opd_int op_mod
end
section
variable {X : Cx}
def okP (p : PyData) : Bool := p.plain && decide (p.depth ≤ 64)
theorem okP.pl {p : PyData} (h : okP p = true) : p.plain = true := (Bool.and_eq_true_iff.mp h).1
theorem okP.dp {p : PyData} (h : okP p = true) : p.depth ≤ 64 := of_decide_eq_true (Bool.and_eq_true_iff.mp h).2
mutual
theorem plain_nodict : ∀ p : PyData, p.plain = true → p.hasDict = false
  | .none, _ => by simp [PyData.hasDict]
  | .bool _, _ => by simp [PyData.hasDict]
  | .int _, _ => by simp [PyData.hasDict]
  | .str _, _ => by simp [PyData.hasDict]
  | .list xs, h => by
    rw [PyData.plain] at h
    simpa [PyData.hasDict] using plain_nodictL xs h
  | .tuple xs, h => by
    rw [PyData.plain] at h
    simpa [PyData.hasDict] using plain_nodictL xs h
  | .dict _, h => by rw [PyData.plain] at h; cases h
theorem plain_nodictL : ∀ ps : List PyData, PyData.plainAll ps = true → PyData.hasDictAll ps = false
  | [], _ => by simp [PyData.hasDictAll]
  | p :: ps, h => by
    rw [PyData.plainAll, Bool.and_eq_true] at h
    simp [PyData.hasDictAll, plain_nodict p h.1, plain_nodictL ps h.2]
end
def rEqP (K : PySem.W.Frag) (neg : Bool) : R2 := fun x y H Q => ∃ M a b p q, MRel K M H ∧ Is K H a x ∧ Is K H b y ∧ PD M a p ∧ PD M b q ∧ okP p = true ∧ okP q = true ∧ Q (.bl (if neg then !PyData.eqv p q else PyData.eqv p q)) H
theorem nodict_of {p : PyData} (h : okP p = true) : p.hasDict = false := plain_nodict p (okP.pl h)
theorem op_eqP (hu : X.A.units + 64 < cLine) : OpR X (compareOp .Eq) (rEqP X.K false) := by
  intro pins s σ H x y v u Q I rx ry h
  obtain ⟨M, a, b, p, q, m, i, j, h1, h2, s1, s2, hq⟩ := h
  obtain ⟨as, r1⟩ := PD.reads I m p a x v h1 i rx (nodict_of s1)
  obtain ⟨bs, r2⟩ := PD.reads I m q b y u h2 j ry (nodict_of s2)
  exact SeqAt.eq_plain r1 r2 (okP.pl s1) (okP.pl s2) (by have := okP.dp s1; have : min p.depth q.depth ≤ p.depth := Nat.min_le_left _ _; omega) ⟨.bl _, H, I, rfl, hq⟩
theorem op_neP (hu : X.A.units + 64 < cLine) : OpR X (compareOp .NotEq) (rEqP X.K true) := by
  intro pins s σ H x y v u Q I rx ry h
  obtain ⟨M, a, b, p, q, m, i, j, h1, h2, s1, s2, hq⟩ := h
  obtain ⟨as, r1⟩ := PD.reads I m p a x v h1 i rx (nodict_of s1)
  obtain ⟨bs, r2⟩ := PD.reads I m q b y u h2 j ry (nodict_of s2)
  exact SeqAt.ne_plain r1 r2 (okP.pl s1) (okP.pl s2) (by have := okP.dp s1; have : min p.depth q.depth ≤ p.depth := Nat.min_le_left _ _; omega) ⟨.bl _, H, I, rfl, hq⟩
def rEqE (K : PySem.W.Frag) (neg : Bool) : R2 := fun x y H Q => ∃ a b xs, x = .ref a ∧ y = .ref b ∧ SqT K H a xs ∧ SqT K H b [] ∧ Q (.bl (if neg then !xs.isEmpty else xs.isEmpty)) H
theorem isEmpty_sizes {vs : List V} {its : List Value} (rv : Vals vs its) : ((List.range (min its.toArray.size 0)).all (fun _ => false) && its.toArray.size == 0) = vs.isEmpty := by
  cases rv with
  | nil => rfl
  | cons => simp
theorem op_eqE (hu : X.A.units + 64 < cLine) : OpR X (compareOp .Eq) (rEqE X.K false) := by
  intro pins s σ H x y v u Q I rx ry h
  obtain ⟨a, b, xs, rfl, rfl, s1, s2, hq⟩ := h
  cases rx
  cases ry
  obtain ⟨its, rv, p, _⟩ := I.tuple s1
  obtain ⟨its2, rv2, p2, _⟩ := I.tuple s2
  cases rv2
  refine SeqAt.eq_tupleAt (e := fun _ => false) p p2 (by omega) (fun j _ h2 => absurd h2 (by simp)) ⟨.bl _, H, I, ?_, hq⟩
  show Value.bool _ = Value.bool _
  exact congrArg _ (isEmpty_sizes rv)
theorem op_neE (hu : X.A.units + 64 < cLine) : OpR X (compareOp .NotEq) (rEqE X.K true) := by
  intro pins s σ H x y v u Q I rx ry h
  obtain ⟨a, b, xs, rfl, rfl, s1, s2, hq⟩ := h
  cases rx
  cases ry
  obtain ⟨its, rv, p, _⟩ := I.tuple s1
  obtain ⟨its2, rv2, p2, _⟩ := I.tuple s2
  cases rv2
  refine SeqAt.RcNeAt.tuples (e := fun _ => false) p p2 (by omega) (fun j _ h2 => absurd h2 (by simp)) X.prog X.w _ _ ⟨.bl _, H, I, ?_, hq⟩
  show Value.bool _ = Value.bool _
  exact congrArg (fun b => Value.bool !b) (isEmpty_sizes rv)
def scalD : D → D → Option Bool
  | .int i, .int j => some (decide (i = j))
  | .str i, .str j => some (decide (i = j))
  | .bl i, .bl j => some (decide (i = j))
  | .non, .non => some true
  | .non, .int _ => some false
  | .int _, .non => some false
  | .non, .bl _ => some false
  | .bl _, .non => some false
  | .non, .str _ => some false
  | .str _, .non => some false
  | .int _, .str _ => some false
  | .str _, .int _ => some false
  | .bl _, .str _ => some false
  | .str _, .bl _ => some false
  | _, _ => none
def dEqB (x y : D) (M : Mem) (Q : Bool → Prop) : Prop := match scalD x y with
  | some b => Q b
  | none => (∃ p q, PD M x p ∧ PD M y q ∧ okP p = true ∧ okP q = true ∧ Q (PyData.eqv p q)) ∨ ∃ xs, (x = .tup xs ∨ x = .tx xs) ∧ y = .tup [] ∧ Q xs.isEmpty
def dEq : R2D := fun x y M Q => dEqB x y M fun b => Q (.bl b) M
def dNe : R2D := fun x y M Q => dEqB x y M fun b => Q (.bl (!b)) M
theorem scalD_ok {K : PySem.W.Frag} {H : Hp} {x y : D} {v u : V} {b : Bool} (h : scalD x y = some b) (i : Is K H x v) (j : Is K H y u) : scal v u = true ∧ decide (v = u) = b := by
  cases x with
  | int i' => rw [is_int] at i; subst i; cases y with
    | int j' => rw [is_int] at j; subst j; cases h; exact ⟨rfl, by simp⟩
    | str j' => rw [is_str] at j; subst j; cases h; exact ⟨rfl, by simp⟩
    | non => rw [is_non] at j; subst j; cases h; exact ⟨rfl, by simp⟩
    | _ => cases h
  | str i' => rw [is_str] at i; subst i; cases y with
    | int j' => rw [is_int] at j; subst j; cases h; exact ⟨rfl, by simp⟩
    | str j' => rw [is_str] at j; subst j; cases h; exact ⟨rfl, by simp⟩
    | bl j' => rw [is_bl] at j; subst j; cases h; exact ⟨rfl, by simp⟩
    | non => rw [is_non] at j; subst j; cases h; exact ⟨rfl, by simp⟩
    | _ => cases h
  | bl i' => rw [is_bl] at i; subst i; cases y with
    | bl j' => rw [is_bl] at j; subst j; cases h; exact ⟨rfl, by simp⟩
    | str j' => rw [is_str] at j; subst j; cases h; exact ⟨rfl, by simp⟩
    | non => rw [is_non] at j; subst j; cases h; exact ⟨rfl, by simp⟩
    | _ => cases h
  | non => rw [is_non] at i; subst i; cases y with
    | int j' => rw [is_int] at j; subst j; cases h; exact ⟨rfl, by simp⟩
    | str j' => rw [is_str] at j; subst j; cases h; exact ⟨rfl, by simp⟩
    | bl j' => rw [is_bl] at j; subst j; cases h; exact ⟨rfl, by simp⟩
    | non => rw [is_non] at j; subst j; cases h; exact ⟨rfl, by simp⟩
    | _ => cases h
  | _ => cases h
theorem opd_eq (hu : X.A.units + 64 < cLine) : OpD X (compareOp .Eq) dEq := by
  refine ⟨_, op_eq.or ((op_eqP hu).or (op_eqE hu)), fun M H Mo Ho x y a b Q QV m f i j fin q => ?_⟩
  have q' : dEqB a b M fun c => Q (.bl c) M := q
  unfold dEqB at q'
  cases e : scalD a b with
  | some c =>
    rw [e] at q'
    obtain ⟨z1, z2⟩ := scalD_ok e i j
    exact .inl ⟨z1, by rw [z2]; exact fin _ _ _ _ ii_bl m f q'⟩
  | none =>
    rw [e] at q'
    rcases q' with ⟨p, p', h1, h2, s1, s2, q'⟩ | ⟨xs, h1, rfl, q'⟩
    · exact .inr (.inl ⟨M, a, b, p, p', m, i, j, h1, h2, s1, s2, fin _ _ _ _ ii_bl m f q'⟩)
    · refine .inr (.inr ?_)
      rw [is_tup] at j
      obtain ⟨b2, us, rfl, hb2, lu⟩ := j
      rw [isL_nil] at lu
      subst lu
      have key : ∃ a2 vs, x = .ref a2 ∧ SqT X.K H a2 vs ∧ IsL X.K H xs vs := by
        rcases h1 with rfl | rfl
        · rw [is_tup] at i
          obtain ⟨a2, vs, rfl, h2, l⟩ := i
          exact ⟨a2, vs, rfl, SqT.of h2, l⟩
        · rw [is_tx] at i
          obtain ⟨a2, vs, rfl, h2, l⟩ := i
          exact ⟨a2, vs, rfl, h2.sq, l⟩
      obtain ⟨a2, vs, rfl, h2, l⟩ := key
      have ee : vs.isEmpty = xs.isEmpty := by
        cases xs with
        | nil => rw [isL_nil] at l; subst l; rfl
        | cons => rw [isL_cons] at l; obtain ⟨_, _, rfl, _⟩ := l; rfl
      refine ⟨a2, b2, vs, rfl, rfl, h2, SqT.of hb2, ?_⟩
      rw [ee]
      exact fin _ _ _ _ ii_bl m f q'
theorem opd_ne (hu : X.A.units + 64 < cLine) : OpD X (compareOp .NotEq) dNe := by
  refine ⟨_, op_ne.or ((op_neP hu).or (op_neE hu)), fun M H Mo Ho x y a b Q QV m f i j fin q => ?_⟩
  have q' : dEqB a b M fun c => Q (.bl (!c)) M := q
  unfold dEqB at q'
  cases e : scalD a b with
  | some c =>
    rw [e] at q'
    obtain ⟨z1, z2⟩ := scalD_ok e i j
    exact .inl ⟨z1, by rw [z2]; exact fin _ _ _ _ ii_bl m f q'⟩
  | none =>
    rw [e] at q'
    rcases q' with ⟨p, p', h1, h2, s1, s2, q'⟩ | ⟨xs, h1, rfl, q'⟩
    · exact .inr (.inl ⟨M, a, b, p, p', m, i, j, h1, h2, s1, s2, fin _ _ _ _ ii_bl m f q'⟩)
    · refine .inr (.inr ?_)
      rw [is_tup] at j
      obtain ⟨b2, us, rfl, hb2, lu⟩ := j
      rw [isL_nil] at lu
      subst lu
      have key : ∃ a2 vs, x = .ref a2 ∧ SqT X.K H a2 vs ∧ IsL X.K H xs vs := by
        rcases h1 with rfl | rfl
        · rw [is_tup] at i
          obtain ⟨a2, vs, rfl, h2, l⟩ := i
          exact ⟨a2, vs, rfl, SqT.of h2, l⟩
        · rw [is_tx] at i
          obtain ⟨a2, vs, rfl, h2, l⟩ := i
          exact ⟨a2, vs, rfl, h2.sq, l⟩
      obtain ⟨a2, vs, rfl, h2, l⟩ := key
      have ee : vs.isEmpty = xs.isEmpty := by
        cases xs with
        | nil => rw [isL_nil] at l; subst l; rfl
        | cons => rw [isL_cons] at l; obtain ⟨_, _, rfl, _⟩ := l; rfl
      refine ⟨a2, b2, vs, rfl, rfl, h2, SqT.of hb2, ?_⟩
      rw [ee]
      exact fin _ _ _ _ ii_bl m f q'
def ltS (a b : Str) : Bool := decide (a.cps.toList < b.cps.toList)
def dLtS : R2D := fun x y M Q => match x, y with | .str a, .str b => Q (.bl (ltS a b)) M | _, _ => False
theorem opd_ltS : OpD X (compareOp .Lt) dLtS := by
  refine ⟨_, op_lt_str, fun M H Mo Ho x y a b Q QV m f i j fin q => ?_⟩
  cases a with
  | str k => cases b with
    | str l =>
      rw [is_str] at i j
      exact ⟨k, l, i, j, fin _ _ _ _ ii_bl m f q⟩
    | _ => exact q.elim
  | _ => exact q.elim
def dLt : R2D := fun x y M Q => match x with
  | .int i => (match y with | .int j => Q (.bl (decide (i < j))) M | _ => False)
  | .str a => (match y with | .str b => Q (.bl (ltS a b)) M | _ => False)
  | _ => False
theorem opd_lt : OpD X (compareOp .Lt) dLt := by
  refine OpD.imp ((opd_intB op_lt).or opd_ltS) fun x y M Q q => ?_
  cases x with
  | int i => cases y with
    | int j => exact .inl ⟨trivial, q⟩
    | _ => exact q.elim
  | str i => cases y with
    | str j => exact .inr q
    | _ => exact q.elim
  | _ => exact q.elim
def dIB (f : Int → Int → Bool) : R2D := fun x y M Q => match x with
  | .int i => (match y with | .int j => Q (.bl (f i j)) M | _ => False)
  | _ => False
theorem opd_IB {fn : Value → Value → Sem Value} {h : Int → Int → Bool} (o : OpR X fn (rI0 fun i j => .bl (h i j))) : OpD X fn (dIB h) := by
  refine OpD.imp (opd_intB o) fun x y M Q q => ?_
  cases x with
  | int i => cases y with
    | int j => exact ⟨trivial, q⟩
    | _ => exact q.elim
  | _ => exact q.elim
theorem opd_le : OpD X (compareOp .LtE) (dIB fun i j => decide (i ≤ j)) := opd_IB op_le
theorem opd_gt : OpD X (compareOp .Gt) (dIB fun i j => decide (j < i)) := opd_IB op_gt
theorem opd_ge : OpD X (compareOp .GtE) (dIB fun i j => decide (j ≤ i)) := opd_IB op_ge
def isNon : D → Bool
  | .non => true
  | _ => false
def dIs (neg : Bool) : R2D := fun x y M Q => match y with
  | .non => Q (.bl (if neg then !isNon x else isNon x)) M
  | .bl b => (match x with | .bl a => Q (.bl (if neg then !decide (a = b) else decide (a = b))) M | _ => False)
  | _ => False
theorem isNon_iff {K : PySem.W.Frag} {H : Hp} {x : D} {v : V} (i : Is K H x v) : decide (v = V.non) = isNon x := by
  cases x with
  | non => rw [is_non] at i; subst i; rfl
  | bl _ => rw [is_bl] at i; subst i; rfl
  | int _ => rw [is_int] at i; subst i; rfl
  | str _ => rw [is_str] at i; subst i; rfl
  | ref _ => rw [is_ref] at i; subst i; rfl
  | ty _ => rw [is_ty] at i; subst i; rfl
  | tup _ => rw [is_tup] at i; obtain ⟨a, _, rfl, _⟩ := i; rfl
  | rl _ => rw [is_rl] at i; obtain ⟨a, _, rfl, _⟩ := i; rfl
  | tx _ => rw [is_tx] at i; obtain ⟨a, _, rfl, _⟩ := i; rfl
  | rk _ _ => rw [is_rk] at i; obtain ⟨a, _, rfl, _⟩ := i; rfl
theorem opd_is : OpD X (compareOp .Is) (dIs false) := by
  refine ⟨_, op_isN.or op_is_bl, fun M H Mo Ho x y a b Q QV m f i j fin q => ?_⟩
  cases b with
  | non =>
    rw [is_non] at j
    exact .inl ⟨j, by rw [isNon_iff i]; exact fin _ _ _ _ ii_bl m f q⟩
  | bl c => cases a with
    | bl d =>
      rw [is_bl] at i j
      exact .inr ⟨d, c, i, j, fin _ _ _ _ ii_bl m f q⟩
    | _ => exact q.elim
  | _ => exact q.elim
theorem opd_isNot : OpD X (compareOp .IsNot) (dIs true) := by
  refine ⟨_, op_notN.or op_isnot_bl, fun M H Mo Ho x y a b Q QV m f i j fin q => ?_⟩
  cases b with
  | non =>
    rw [is_non] at j
    exact .inl ⟨j, by rw [isNon_iff i]; exact fin _ _ _ _ ii_bl m f q⟩
  | bl c => cases a with
    | bl d =>
      rw [is_bl] at i j
      exact .inr ⟨d, c, i, j, fin _ _ _ _ ii_bl m f q⟩
    | _ => exact q.elim
  | _ => exact q.elim
end
end DL

namespace DL
open PySem PySem.Spec PyProof.Rows L2

section
variable {κ : Type} [DecidableEq κ]
def valG {α : Type} (kvs : List (κ × α)) (k : κ) : Option α := (kvs.find? fun kv => decide (kv.1 = k)).map (·.2)
def putG {α : Type} (kvs : List (κ × α)) (k : κ) (v : α) : List (κ × α) := if (kvs.any fun kv => decide (kv.1 = k)) = true then kvs.map (fun kv => if kv.1 = k then (kv.1, v) else kv) else kvs ++ [(k, v)]
theorem valG_cons {α : Type} (p : κ × α) (r : List (κ × α)) (k : κ) : valG (p :: r) k = if p.1 = k then some p.2 else valG r k := by
  unfold valG
  by_cases h : p.1 = k <;> simp [List.find?_cons, h]
def KRel (K : PySem.W.Frag) (H : Hp) (kvs : List (κ × D)) (ws : List (κ × V)) : Prop := ws.map (·.1) = kvs.map (·.1) ∧ IsL K H (kvs.map (·.2)) (ws.map (·.2))
theorem KRel.rk {K : PySem.W.Frag} {H : Hp} {ks : List κ} {ds : List D} {ws : List (κ × V)} (h : ws.map (·.1) = ks) (l : IsL K H ds (ws.map (·.2))) : KRel K H (ks.zip ds) ws := by
  have hl : ks.length = ds.length := by
    have := l.length
    rw [← h, List.length_map]
    rw [List.length_map] at this
    exact this
  have e1 : (ks.zip ds).map (·.1) = ks := by
    have := List.map_fst_zip (l₁ := ks) (l₂ := ds) (by omega)
    exact this
  have e2 : (ks.zip ds).map (·.2) = ds := by
    have := List.map_snd_zip (l₁ := ks) (l₂ := ds) (by omega)
    exact this
  exact ⟨by rw [e1]; exact h, by rw [e2]; exact l⟩
theorem KRel.nil {K : PySem.W.Frag} {H : Hp} : KRel K H ([] : List (κ × D)) [] := ⟨rfl, isL_nil.mpr rfl⟩
theorem KRel.inv {K : PySem.W.Frag} {H : Hp} {k : κ} {d : D} {kvs : List (κ × D)} {ws : List (κ × V)} (h : KRel K H ((k, d) :: kvs) ws) : ∃ v r, ws = (k, v) :: r ∧ Is K H d v ∧ KRel K H kvs r := by
  obtain ⟨h1, h2⟩ := h
  cases ws with
  | nil => simp at h1
  | cons p r =>
    obtain ⟨k', v⟩ := p
    simp only [List.map_cons, List.cons.injEq] at h1 h2
    rw [isL_cons] at h2
    obtain ⟨v', r', e, i, l⟩ := h2
    injection e with e1 e2
    subst e1 e2
    obtain ⟨rfl, h1⟩ := h1
    exact ⟨v, r, rfl, i, h1, l⟩
theorem KRel.mk {K : PySem.W.Frag} {H : Hp} {k : κ} {d : D} {v : V} {kvs : List (κ × D)} {ws : List (κ × V)} (i : Is K H d v) (h : KRel K H kvs ws) : KRel K H ((k, d) :: kvs) ((k, v) :: ws) :=
  ⟨by simp [h.1], IsL.mk i h.2⟩
theorem KRel.nil_of {K : PySem.W.Frag} {H : Hp} {ws : List (κ × V)} (h : KRel K H ([] : List (κ × D)) ws) : ws = [] := by
  have := h.1
  simpa using this
theorem KRel.length {K : PySem.W.Frag} {H : Hp} {kvs : List (κ × D)} {ws : List (κ × V)} (h : KRel K H kvs ws) : ws.length = kvs.length := by
  have := congrArg List.length h.1
  simpa using this
theorem KRel.some {K : PySem.W.Frag} {H : Hp} {k : κ} {d : D} : ∀ {kvs : List (κ × D)} {ws : List (κ × V)}, KRel K H kvs ws → valG kvs k = some d → ∃ v, valV ws k = some v ∧ Is K H d v
  | [], _, _, e => by simp [valG] at e
  | (k', d') :: kvs, ws, h, e => by
    obtain ⟨v, r, rfl, i, t⟩ := h.inv
    rw [valG_cons] at e
    by_cases hk : k' = k
    · rw [if_pos hk] at e
      cases e
      exact ⟨v, valV_pos hk, i⟩
    · rw [if_neg hk] at e
      obtain ⟨u, e1, e2⟩ := KRel.some t e
      exact ⟨u, by rw [valV_neg hk]; exact e1, e2⟩
theorem KRel.none {K : PySem.W.Frag} {H : Hp} {k : κ} : ∀ {kvs : List (κ × D)} {ws : List (κ × V)}, KRel K H kvs ws → valG kvs k = Option.none → valV ws k = Option.none
  | [], _, h, e => by rw [h.nil_of]; rfl
  | (k', d') :: kvs, ws, h, e => by
    obtain ⟨v, r, rfl, i, t⟩ := h.inv
    rw [valG_cons] at e
    by_cases hk : k' = k
    · rw [if_pos hk] at e; cases e
    · rw [if_neg hk] at e
      rw [valV_neg hk]
      exact KRel.none t e
theorem KRel.append {K : PySem.W.Frag} {H : Hp} {kvs k2 : List (κ × D)} {ws w2 : List (κ × V)} (h : KRel K H kvs ws) (h' : KRel K H k2 w2) : KRel K H (kvs ++ k2) (ws ++ w2) := by
  refine ⟨by rw [List.map_append, List.map_append, h.1, h'.1], ?_⟩
  rw [List.map_append, List.map_append]
  exact h.2.append h'.2
theorem KRel.put {K : PySem.W.Frag} {H : Hp} {k : κ} {d : D} {v : V} (i : Is K H d v) {kvs : List (κ × D)} {ws : List (κ × V)} (h : KRel K H kvs ws) : KRel K H (putG kvs k d) (putK ws k v) := by
  have key : ∀ {kvs : List (κ × D)} {ws : List (κ × V)}, KRel K H kvs ws → (kvs.any fun kv => decide (kv.1 = k)) = (ws.any fun kv => decide (kv.1 = k)) := by
    intro kvs
    induction kvs with
    | nil => intro ws h; rw [h.nil_of]; rfl
    | cons p r ih =>
      intro ws h
      obtain ⟨k', d'⟩ := p
      obtain ⟨v, r', rfl, i, t⟩ := h.inv
      simp only [List.any_cons, ih t]
  have rep : ∀ {kvs : List (κ × D)} {ws : List (κ × V)}, KRel K H kvs ws → KRel K H (kvs.map fun kv => if kv.1 = k then (kv.1, d) else kv) (ws.map fun kv => if kv.1 = k then (kv.1, v) else kv) := by
    intro kvs
    induction kvs with
    | nil => intro ws h; rw [h.nil_of]; exact KRel.nil
    | cons p r ih =>
      intro ws h
      obtain ⟨k', d'⟩ := p
      obtain ⟨v', r', rfl, i', t⟩ := h.inv
      simp only [List.map_cons]
      by_cases hk : k' = k
      · rw [if_pos hk, if_pos hk]
        exact KRel.mk i (ih t)
      · rw [if_neg hk, if_neg hk]
        exact KRel.mk i' (ih t)
  unfold putG putK
  rw [key h]
  split
  · exact rep h
  · exact h.append (KRel.mk i KRel.nil)
end
def keyD : D → Option Key
  | .int i => some (.inl i)
  | .str s => some (.inr s)
  | _ => none
theorem keyD_is {K : PySem.W.Frag} {H : Hp} {d : D} {v : V} {k : Key} (i : Is K H d v) (e : keyD d = some k) : v = kV k := by
  cases d with
  | int j => cases e; rw [is_int] at i; exact i
  | str j => cases e; rw [is_str] at i; exact i
  | _ => cases e
def keysD : List D → Option (List Key)
  | [] => some []
  | d :: ds => match keyD d, keysD ds with
    | some k, some ks => some (k :: ks)
    | _, _ => none
theorem keysD_is {K : PySem.W.Frag} {H : Hp} : ∀ {ds : List D} {vs : List V} {ks : List Key}, IsL K H ds vs → keysD ds = some ks → vs = ks.map kV
  | [], vs, ks, h, e => by rw [isL_nil] at h; subst h; cases e; rfl
  | d :: ds, vs, ks, h, e => by
    rw [isL_cons] at h
    obtain ⟨v, r, rfl, i, t⟩ := h
    unfold keysD at e
    split at e
    · rename_i k ks' h1 h2
      cases e
      rw [List.map_cons, keyD_is i h1, keysD_is t h2]
    · cases e

def flatS : D → Bool
  | .non => true
  | .bl _ => true
  | .int _ => true
  | .str _ => true
  | _ => false
def toV : D → V
  | .non => .non
  | .bl b => .bl b
  | .int i => .int i
  | .str s => .str s
  | _ => .non
section
variable {K : PySem.W.Frag} {H : Hp}
theorem flatS_is {d : D} {v : V} (f : flatS d = true) (i : Is K H d v) : v = toV d ∧ flatV v = true := by
  cases d with
  | non => rw [is_non] at i; exact ⟨i, by rw [i]; rfl⟩
  | bl b => rw [is_bl] at i; exact ⟨i, by rw [i]; rfl⟩
  | int b => rw [is_int] at i; exact ⟨i, by rw [i]; rfl⟩
  | str b => rw [is_str] at i; exact ⟨i, by rw [i]; rfl⟩
  | _ => cases f
theorem flatS_all : ∀ {ds : List D} {vs : List V}, ds.all flatS = true → IsL K H ds vs → vs = ds.map toV ∧ vs.all flatV = true
  | [], vs, _, h => by rw [isL_nil] at h; subst h; exact ⟨rfl, rfl⟩
  | d :: ds, vs, f, h => by
    rw [isL_cons] at h
    obtain ⟨v, r, rfl, i, t⟩ := h
    rw [List.all_cons, Bool.and_eq_true] at f
    obtain ⟨e1, f1⟩ := flatS_is f.1 i
    obtain ⟨e2, f2⟩ := flatS_all f.2 t
    exact ⟨by rw [List.map_cons, ← e1, ← e2], by rw [List.all_cons, f1, f2]; rfl⟩
end
def inSeq (x : D) (xs : List D) (M : Mem) (Q : Bool → Prop) : Prop :=
  (flatS x = true ∧ xs.all flatS = true ∧ Q (inV (toV x) (xs.map toV))) ∨ ∃ p ps, PD M x p ∧ PDL M xs ps ∧ okP p = true ∧ okP (.list ps) = true ∧ Q (ps.any fun z => PyData.eqv z p)
def dInB (x y : D) (M : Mem) (Q : Bool → Prop) : Prop := match y with
  | .str z => ∃ c, x = .str ⟨#[c]⟩ ∧ Q (decide (c ∈ z.cps.toList))
  | .tup xs => inSeq x xs M Q
  | .rl xs => inSeq x xs M Q
  | .tx xs => inSeq x xs M Q
  | .rk ks ds => ∃ k, keyD x = some k ∧ Q (valG (ks.zip ds) k).isSome
  | .ref a => (∃ xs, M a = some (.lst xs) ∧ inSeq x xs M Q) ∨ (∃ kvs k, M a = some (.dK kvs) ∧ keyD x = some k ∧ Q (valG kvs k).isSome) ∨ ∃ kvs k ks, M a = some (.dT kvs) ∧ x = .tup k ∧ keysD k = some ks ∧ Q (valG kvs ks).isSome
  | _ => False
def dIn (neg : Bool) : R2D := fun x y M Q => dInB x y M fun b => Q (.bl (if neg then !b else b)) M
def rInP (K : PySem.W.Frag) (neg : Bool) : R2 := fun x y H Q => ∃ M d c p ps, MRel K M H ∧ Is K H d x ∧ Is K H c y ∧ PD M d p ∧ (PD M c (.list ps) ∨ PD M c (.tuple ps)) ∧ okP p = true ∧ okP (.list ps) = true ∧ Q (.bl (if neg then !(ps.any fun z => PyData.eqv z p) else ps.any fun z => PyData.eqv z p)) H
theorem shaped_list {ps : List PyData} (h : okP (.list ps) = true) : PyData.plainAll ps = true ∧ PyData.hasDictAll ps = false := by
  have h1 : PyData.plainAll ps = true := by
    have := okP.pl h
    rwa [PyData.plain] at this
  exact ⟨h1, plain_nodictL ps h1⟩
section
variable {X : Cx}
theorem op_inP (hu : X.A.units + 70 < cLine) : OpR X (compareOp .In) (rInP X.K false) := by
  intro pins s σ H x y v u Q I rx ry h
  obtain ⟨M, d, c, p, ps, m, i, j, h1, h2, s1, s2, hq⟩ := h
  obtain ⟨c1, c2⟩ := shaped_list s2
  have hd := okP.dp s1
  obtain ⟨as, r1⟩ := PD.reads I m p d x v h1 i rx (nodict_of s1)
  have hu' : X.A.units + 1 + min (PyData.depthAll ps) p.depth < cLine := by
    have : min (PyData.depthAll ps) p.depth ≤ p.depth := Nat.min_le_right _ _
    omega
  rcases h2 with h2 | h2
  · obtain ⟨bs, r2⟩ := PD.reads I m (.list ps) c y u h2 j ry (by simpa [PyData.hasDict] using c2)
    exact SeqAt.in_list_data r2 r1 c1 (okP.pl s1) hu' ⟨.bl _, H, I, rfl, hq⟩
  · obtain ⟨bs, r2⟩ := PD.reads I m (.tuple ps) c y u h2 j ry (by simpa [PyData.hasDict] using c2)
    exact SeqAt.in_tuple_data r2 r1 c1 (okP.pl s1) hu' ⟨.bl _, H, I, rfl, hq⟩
theorem op_notInP (hu : X.A.units + 70 < cLine) : OpR X (compareOp .NotIn) (rInP X.K true) := by
  intro pins s σ H x y v u Q I rx ry h
  obtain ⟨M, d, c, p, ps, m, i, j, h1, h2, s1, s2, hq⟩ := h
  obtain ⟨c1, c2⟩ := shaped_list s2
  have hd := okP.dp s1
  obtain ⟨as, r1⟩ := PD.reads I m p d x v h1 i rx (nodict_of s1)
  have hu' : X.A.units + 1 + min (PyData.depthAll ps) p.depth < cLine := by
    have : min (PyData.depthAll ps) p.depth ≤ p.depth := Nat.min_le_right _ _
    omega
  rcases h2 with h2 | h2
  · obtain ⟨bs, r2⟩ := PD.reads I m (.list ps) c y u h2 j ry (by simpa [PyData.hasDict] using c2)
    exact SeqAt.notIn_list_data r2 r1 c1 (okP.pl s1) hu' ⟨.bl _, H, I, rfl, hq⟩
  · obtain ⟨bs, r2⟩ := PD.reads I m (.tuple ps) c y u h2 j ry (by simpa [PyData.hasDict] using c2)
    exact SeqAt.notIn_tuple_data r2 r1 c1 (okP.pl s1) hu' ⟨.bl _, H, I, rfl, hq⟩
def rInDict (neg : Bool) : R2 := fun x y H Q => ∃ a o, y = .ref a ∧ DGet H a x o ∧ Q (.bl (if neg then !o.isSome else o.isSome)) H
theorem op_inDict (hu : X.A.units + 1 < cLine) : OpR X (compareOp .In) (rInDict false) := by
  intro pins s σ H x y v u Q I rx ry h
  obtain ⟨a, o, rfl, g, q⟩ := h
  obtain rfl : u = Value.ref a := ry
  exact d_in hu I g rx fun s3 I3 => ⟨.bl o.isSome, H, I3, rfl, q⟩
theorem op_notInDict (hu : X.A.units + 1 < cLine) : OpR X (compareOp .NotIn) (rInDict true) := by
  intro pins s σ H x y v u Q I rx ry h
  obtain ⟨a, o, rfl, g, q⟩ := h
  obtain rfl : u = Value.ref a := ry
  exact d_notIn hu I g rx fun s3 I3 => ⟨.bl (!o.isSome), H, I3, rfl, q⟩
theorem isSome_kr {κ : Type} [DecidableEq κ] {K : PySem.W.Frag} {H : Hp} {kvs : List (κ × D)} {ws : List (κ × V)} (h : KRel K H kvs ws) (k : κ) : (valV ws k).isSome = (valG kvs k).isSome := by
  cases e : valG kvs k with
  | none => rw [h.none e]; rfl
  | some d =>
    obtain ⟨v, e1, _⟩ := h.some e
    rw [e1]; rfl
theorem keyTup {K : PySem.W.Frag} {M : Mem} {H : Hp} (m : MRel K M H) {k : List D} {ks : List Key} {x : V} (i : Is K H (.tup k) x) (e : keysD k = some ks) : ∃ b, x = .ref b ∧ H b = some (.tup (ks.map kV)) := by
  rw [is_tup] at i
  obtain ⟨b, vs, rfl, h, l⟩ := i
  exact ⟨b, rfl, by rw [← keysD_is l e]; exact h⟩
theorem dInB_low {K : PySem.W.Frag} {M : Mem} {H : Hp} {x y : V} {a b : D} {Qb : Bool → Prop} {neg : Bool} {QV : VK} (m : MRel K M H) (i : Is K H a x) (j : Is K H b y) (q : dInB a b M Qb)
    (k : ∀ c, Qb c → QV (.bl (if neg then !c else c)) H) :
    ((∃ (c : Nat) (z : Str), x = .str ⟨#[c]⟩ ∧ y = .str z ∧ QV (.bl (if neg then !decide (c ∈ z.cps.toList) else decide (c ∈ z.cps.toList))) H) ∨ rIn K neg x y H QV) ∨ (rInP K neg x y H QV ∨ rInDict neg x y H QV) := by
  have sq : ∀ xs vs, IsL K H xs vs → (SqL K H (match y with | .ref p => p | _ => 0) vs ∨ SqT K H (match y with | .ref p => p | _ => 0) vs) → (∃ p, y = .ref p) → (∀ ps, PDL M xs ps → PD M b (.list ps) ∨ PD M b (.tuple ps)) → inSeq a xs M Qb →
      ((∃ (c : Nat) (z : Str), x = .str ⟨#[c]⟩ ∧ y = .str z ∧ QV (.bl (if neg then !decide (c ∈ z.cps.toList) else decide (c ∈ z.cps.toList))) H) ∨ rIn K neg x y H QV) ∨ (rInP K neg x y H QV ∨ rInDict neg x y H QV) := by
    intro xs vs l s ⟨p, hp⟩ pd q
    subst hp
    rcases q with ⟨f1, f2, q⟩ | ⟨p', ps, h1, h2, s1, s2, q⟩
    · obtain ⟨e1, g1⟩ := flatS_is f1 i
      obtain ⟨e2, g2⟩ := flatS_all f2 l
      refine .inl (.inr ⟨p, vs, rfl, s, g1, g2, ?_⟩)
      rw [e1, e2]
      exact k _ q
    · exact .inr (.inl ⟨M, a, b, p', ps, m, i, j, h1, pd ps h2, s1, s2, k _ q⟩)
  cases b with
  | str z =>
    rw [is_str] at j
    obtain ⟨c, rfl, q⟩ := q
    rw [is_str] at i
    exact .inl (.inl ⟨c, z, i, j, k _ q⟩)
  | tup xs =>
    have j' := j
    rw [is_tup] at j'
    obtain ⟨p, vs, rfl, h, l⟩ := j'
    exact sq xs vs l (.inr (SqT.of h)) ⟨p, rfl⟩ (fun ps h => .inr (.tup h)) q
  | rl xs =>
    have j' := j
    rw [is_rl] at j'
    obtain ⟨p, vs, rfl, h, l⟩ := j'
    exact sq xs vs l (.inl h.sq) ⟨p, rfl⟩ (fun ps h => .inl (.rl h)) q
  | tx xs =>
    have j' := j
    rw [is_tx] at j'
    obtain ⟨p, vs, rfl, h, l⟩ := j'
    exact sq xs vs l (.inr h.sq) ⟨p, rfl⟩ (fun ps h => .inr (.tx h)) q
  | rk ks ds =>
    rw [is_rk] at j
    obtain ⟨p, ws, rfl, ⟨o, e⟩, hk0, l⟩ := j
    obtain ⟨k', hk, q⟩ := q
    have r : KRel K H (ks.zip ds) ws := KRel.rk hk0 l
    refine .inr (.inr ⟨p, valV ws k', rfl, ?_, ?_⟩)
    · rw [keyD_is i hk]; exact .inl ⟨ws, k', .inr ⟨o, e⟩, rfl, rfl⟩
    · rw [isSome_kr r]; exact k _ q
  | ref p =>
    have j' := j
    rw [is_ref] at j'
    subst j'
    rcases q with ⟨xs, h, q⟩ | ⟨kvs, k', h, hk, q⟩ | ⟨kvs, k', ks, h, rfl, hk, q⟩
    · obtain ⟨vs, e, l⟩ := m p _ h
      exact sq xs vs l (.inl (SqL.of e)) ⟨p, rfl⟩ (fun ps h' => .inl (.lst h h')) q
    · obtain ⟨ws, e, r⟩ := m p _ h
      refine .inr (.inr ⟨p, valV ws k', rfl, ?_, ?_⟩)
      · rw [keyD_is i hk]; exact DGet.k e
      · rw [isSome_kr r]; exact k _ q
    · obtain ⟨ws, e, r⟩ := m p _ h
      obtain ⟨b, rfl, hb⟩ := keyTup m i hk
      refine .inr (.inr ⟨p, valV ws ks, rfl, DGet.t e hb, ?_⟩)
      rw [isSome_kr r]; exact k _ q
  | _ => exact q.elim
theorem opd_in (hu : X.A.units + 70 < cLine) : OpD X (compareOp .In) (dIn false) :=
  ⟨_, (op_in_sign.or op_in_seq).or ((op_inP hu).or (op_inDict (by omega))), fun M H Mo Ho x y a b Q QV m f i j fin q => dInB_low (neg := false) m i j q fun c h => fin _ _ _ _ ii_bl m f h⟩
theorem opd_notIn (hu : X.A.units + 70 < cLine) : OpD X (compareOp .NotIn) (dIn true) :=
  ⟨_, (op_notIn_sign.or op_notIn_seq).or ((op_notInP hu).or (op_notInDict (by omega))), fun M H Mo Ho x y a b Q QV m f i j fin q => dInB_low (neg := true) m i j q fun c h => fin _ _ _ _ ii_bl m f h⟩
end
end DL

namespace DL
open PySem PySem.Spec PyProof.Rows L2
section
variable {K : PySem.W.Frag} {H : Hp}
theorem IsL.atI {ds : List D} {vs : List V} {i : Int} {d : D} (h : IsL K H ds vs) (e : L2.atI ds i = some d) : ∃ v, L2.atI vs i = some v ∧ Is K H d v := by
  unfold L2.atI at e ⊢
  rw [h.length]
  cases q : ixN ds.length i with
  | none => rw [q] at e; cases e
  | some j =>
    rw [q] at e
    exact h.get e
end
def cutG {α : Type} (xs : List α) (lo hi : Option Int) : List α := (xs.drop (HT.sIx xs.length 0 lo)).take (HT.sIx xs.length xs.length hi - HT.sIx xs.length 0 lo)
theorem IsL.cut {K : PySem.W.Frag} {H : Hp} {ds : List D} {vs : List V} (h : IsL K H ds vs) (lo hi : Option Int) : IsL K H (cutG ds lo hi) (cutV vs lo hi) := by
  unfold cutG cutV
  rw [h.length]
  exact (h.drop _).take _
def dIx : R2D := fun x y M Q => match x with
  | .str z => (match y with | .int i => z.length ≤ sizeLine ∧ ∃ c, L2.atI z.cps.toList i = some c ∧ Q (.str ⟨#[c]⟩) M | _ => False)
  | .tup xs => (match y with | .int i => ∃ d, L2.atI xs i = some d ∧ Q d M | _ => False)
  | .rl xs => (match y with | .int i => ∃ d, L2.atI xs i = some d ∧ Q d M | _ => False)
  | .tx xs => (match y with | .int i => ∃ d, L2.atI xs i = some d ∧ Q d M | _ => False)
  | .rk ks ds => ∃ k d, keyD y = some k ∧ valG (ks.zip ds) k = some d ∧ Q d M
  | .ref a => (∃ xs i d, M a = some (.lst xs) ∧ y = .int i ∧ L2.atI xs i = some d ∧ Q d M) ∨ (∃ kvs k d, M a = some (.dK kvs) ∧ keyD y = some k ∧ valG kvs k = some d ∧ Q d M) ∨ ∃ kvs k ks d, M a = some (.dT kvs) ∧ y = .tup k ∧ keysD k = some ks ∧ valG kvs ks = some d ∧ Q d M
  | _ => False
def rIxDict : R2 := fun x y H Q => ∃ a v, x = .ref a ∧ DGet H a y (some v) ∧ Q v H
section
variable {X : Cx}
theorem ix_dict (hu : X.A.units + 1 < cLine) : IxR X rIxDict := by
  intro value slice pins s σ H x y v u Q I rx ry h hs
  obtain ⟨a, w, rfl, g, q⟩ := h
  obtain rfl : v = Value.ref a := rx
  exact tail_any (dict_typeIs I g) PySem.F.slot_dict_getitem.lookup (d_getItem hu I g ry fun w' s3 I3 rw' => ⟨w, H, I3, rw', q⟩) hs
def IxD (X : Cx) (r : R2D) : Prop := ∃ r' : R2, IxR X r' ∧ OpK X.K r r'
theorem ixd (hu : X.A.units + 1 < cLine) : IxD X dIx := by
  refine ⟨_, ix_seq.or (ix_dict hu), fun M H Mo Ho x y a b Q QV m f i j fin q => ?_⟩
  cases a with
  | str z => cases b with
    | int k =>
      rw [is_str] at i
      rw [is_int] at j
      obtain ⟨h1, c, h2, q⟩ := q
      exact .inl (.inr (.inr ⟨z, k, c, i, j, h1, h2, fin _ _ _ _ ii_str m f q⟩))
    | _ => exact q.elim
  | tup xs => cases b with
    | int k =>
      rw [is_tup] at i
      rw [is_int] at j
      obtain ⟨p, vs, rfl, h, l⟩ := i
      obtain ⟨d, h2, q⟩ := q
      obtain ⟨v, e, i⟩ := l.atI h2
      exact .inl (.inr (.inl ⟨p, vs, k, v, rfl, j, SqT.of h, e, fin _ _ _ _ i m f q⟩))
    | _ => exact q.elim
  | rl xs => cases b with
    | int k =>
      rw [is_rl] at i
      rw [is_int] at j
      obtain ⟨p, vs, rfl, h, l⟩ := i
      obtain ⟨d, h2, q⟩ := q
      obtain ⟨v, e, i⟩ := l.atI h2
      exact .inl (.inl ⟨p, vs, k, v, rfl, j, h.sq, e, fin _ _ _ _ i m f q⟩)
    | _ => exact q.elim
  | tx xs => cases b with
    | int k =>
      rw [is_tx] at i
      rw [is_int] at j
      obtain ⟨p, vs, rfl, h, l⟩ := i
      obtain ⟨d, h2, q⟩ := q
      obtain ⟨v, e, i⟩ := l.atI h2
      exact .inl (.inr (.inl ⟨p, vs, k, v, rfl, j, h.sq, e, fin _ _ _ _ i m f q⟩))
    | _ => exact q.elim
  | rk ks ds =>
    rw [is_rk] at i
    obtain ⟨p, ws, rfl, ⟨o, e⟩, hk0, l⟩ := i
    obtain ⟨k, d, hk, h2, q⟩ := q
    obtain ⟨v, e2, i⟩ := KRel.some (KRel.rk hk0 l) h2
    refine .inr ⟨p, v, rfl, ?_, fin _ _ _ _ i m f q⟩
    rw [keyD_is j hk, ← e2]
    exact .inl ⟨ws, k, .inr ⟨o, e⟩, rfl, rfl⟩
  | ref p =>
    rw [is_ref] at i
    subst i
    rcases q with ⟨xs, k, d, h, rfl, h2, q⟩ | ⟨kvs, k, d, h, hk, h2, q⟩ | ⟨kvs, k, ks, d, h, rfl, hk, h2, q⟩
    · rw [is_int] at j
      obtain ⟨vs, e, l⟩ := m p _ h
      obtain ⟨v, e2, i⟩ := l.atI h2
      exact .inl (.inl ⟨p, vs, k, v, rfl, j, SqL.of e, e2, fin _ _ _ _ i m f q⟩)
    · obtain ⟨ws, e, r⟩ := m p _ h
      obtain ⟨v, e2, i⟩ := KRel.some r h2
      refine .inr ⟨p, v, rfl, ?_, fin _ _ _ _ i m f q⟩
      rw [keyD_is j hk, ← e2]
      exact DGet.k e
    · obtain ⟨ws, e, r⟩ := m p _ h
      obtain ⟨v, e2, i⟩ := KRel.some r h2
      obtain ⟨b, rfl, hb⟩ := keyTup m j hk
      refine .inr ⟨p, v, rfl, ?_, fin _ _ _ _ i m f q⟩
      rw [← e2]
      exact DGet.t e hb
  | _ => exact q.elim
end
section
variable {g : Gd} {a b : Expr} {ta tb : DTE} {pos p2 : Pos}
theorem de_ix {r : R2D} (hr : IxD g.X r) (ha : DE g a ta) (hb : DE g b tb) (hs : PlainIx b) : DE g (.Subscript a b pos) (dBin r ta tb) := by
  obtain ⟨r', h, k⟩ := hr
  exact DE.of (pe_ix h ha.pe hb.pe hs) fun σ H e M Q sl mr fr q => low_bin k sl mr fr q fin_low
abbrev DTO := Sl → Mem → (Option Int → Mem → Prop) → EX → Prop
structure DO (g : Gd) (x : Option Expr) (t : DTO) : Prop where
  po : ∃ t' : TO, PO g.X x t' ∧ ∀ σ H e M Q (QV : Option Int → Hp → Prop), SRel g.X.K H e σ → MRel g.X.K M H → Fr g.M0 g.H0 M H → t e M Q g.E → (∀ o M' H', MRel g.X.K M' H' → Fr M H M' H' → Q o M' → QV o H') → t' σ H QV
def dNoPart : DTO := fun _ M Q _ => Q none M
def dPart (t : DTE) : DTO := fun e M Q E => t e M (fun x M1 => match x with | .int i => Q (some i) M1 | _ => False) E
theorem do_none : DO g none dNoPart := ⟨_, po_none, fun σ H e M Q QV sl mr fr q k => k _ M H mr Fr.refl q⟩
theorem do_some (h : DE g a ta) : DO g (some a) (dPart ta) := by
  refine ⟨_, po_some h.pe, fun σ H e M Q QV sl mr fr q k => ?_⟩
  refine low_start sl mr fr q fun v d M1 H1 i m f q => ?_
  cases d with
  | int j => rw [is_int] at i; exact ⟨j, i, k _ _ _ m f q⟩
  | _ => exact q.elim
def dSl (x : D) (lo hi : Option Int) (M : Mem) (Q : QE) : Prop := match x with
  | .str z => z.length ≤ sizeLine ∧ Q (.str (cutS z lo hi)) M
  | .tup xs => Q (.tup (cutG xs lo hi)) M
  | .rl xs => ∀ p, M p = none → Q (.ref p) (wr M p (.lst (cutG xs lo hi)))
  | .ref a => ∃ xs, M a = some (.lst xs) ∧ ∀ p, M p = none → Q (.ref p) (wr M p (.lst (cutG xs lo hi)))
  | _ => False
def dSlice (t : DTE) (tl th : DTO) : DTE := fun e M Q E => t e M (fun x M1 => tl e M1 (fun l M2 => th e M2 (fun h M3 => dSl x l h M3 Q) E) E) E
theorem de_slice {lo hi : Option Expr} {tl th : DTO} (ha : DE g a ta) (hl : DO g lo tl) (hh : DO g hi th) : DE g (.Subscript a (.Slice lo hi none p2) pos) (dSlice ta tl th) := by
  obtain ⟨tl', pl, kl⟩ := hl.po
  obtain ⟨th', ph, kh⟩ := hh.po
  refine DE.of (pe_slice (sl_str.or (sl_tupA.or sl_list)) ha.pe pl ph) fun σ H e M Q sl mr fr q => ?_
  refine low_start sl mr fr q fun v d M1 H1 i m f q => ?_
  refine kl σ H1 e M1 _ _ (sl.ext (f.ext mr)) m (fr.trans f) q fun l M2 H2 m2 f2 q => ?_
  have f12 := f.trans f2
  refine kh σ H2 e M2 _ _ (sl.ext (f12.ext mr)) m2 (fr.trans f12) q fun h M3 H3 m3 f3 q => ?_
  have f13 := f12.trans f3
  have i3 : Is g.X.K H3 d v := Is.ext ((f2.trans f3).ext m) _ _ i
  have fin : Fin g.X.K M H Q (lowQ g.X.K M H Q) := fin_low
  cases d with
  | str z =>
    rw [is_str] at i3
    exact .inl ⟨z, i3, q.1, fin _ _ _ _ ii_str m3 f13 q.2⟩
  | tup xs =>
    have j := i3
    rw [is_tup] at j
    obtain ⟨p, vs, rfl, e1, l1⟩ := j
    refine .inr (.inl ⟨p, vs, rfl, SqT.of e1, fun hw => ?_, fun _ => fin.newT m3 f13 (l1.cut _ _) q⟩)
    have : cutG xs l h = xs := by
      unfold cutG
      rw [l1.length] at hw
      rw [hw.1, hw.2, List.drop_zero, Nat.sub_zero, List.take_length]
    have q : Q (.tup (cutG xs l h)) M3 := q
    rw [this] at q
    exact fin _ _ _ _ i3 m3 f13 q
  | rl xs =>
    rw [is_rl] at i3
    obtain ⟨p, vs, rfl, e1, l1⟩ := i3
    exact .inr (.inr ⟨p, vs, rfl, e1.sq, fin.newL m3 f13 (l1.cut _ _) q⟩)
  | ref p =>
    rw [is_ref] at i3
    obtain ⟨xs, hx, q⟩ := q
    obtain ⟨vs, e1, l1⟩ := m3 p _ hx
    exact .inr (.inr ⟨p, vs, i3, SqL.of e1, fin.newL m3 f13 (l1.cut _ _) q⟩)
  | _ => exact q.elim
end
section
variable {K : PySem.W.Frag} {M Mo : Mem} {H Ho : Hp}
theorem set_mem (m : MRel K M H) (f : Fr Mo Ho M H) {a : Addr} {u : MO} (h : M a = some u) {u' : MO} {o : HO} (q : MOk K (upd H a o) a u') : MRel K (wr M a u') (upd H a o) ∧ Fr Mo Ho (wr M a u') (upd H a o) :=
  ⟨mr_write m h q, f.trans (fr_write m h)⟩
theorem ext_write (m : MRel K M H) {a : Addr} {u : MO} (h : M a = some u) {o : HO} : Ext K H (upd H a o) := (fr_write (o := o) (u := u) m h).ext m
end
def dSet (o i v : D) (M : Mem) (Q : Mem → Prop) : Prop := match o with
  | .ref a => (∃ xs k j, M a = some (.lst xs) ∧ i = .int k ∧ ixN xs.length k = some j ∧ Q (wr M a (.lst (xs.set j v)))) ∨ (∃ kvs k, M a = some (.dK kvs) ∧ keyD i = some k ∧ kvs.length < sizeLine ∧ Q (wr M a (.dK (putG kvs k v)))) ∨
      ∃ kvs k ks, M a = some (.dT kvs) ∧ i = .tup k ∧ keysD k = some ks ∧ kvs.length < sizeLine ∧ Q (wr M a (.dT (putG kvs ks v)))
  | _ => False
def rSetDict : TSet := fun o i v H Q => ∃ a H', o = .ref a ∧ DPut H a i v H' ∧ Q H'
section
variable {X : Cx}
theorem set_dict (hu : X.A.units + 1 < cLine) : PSet X rSetDict := by
  intro pins s σ H o i v ov iv u Q I ro ri rv h
  obtain ⟨a, H', rfl, g, q⟩ := h
  obtain rfl : ov = Value.ref a := ro
  exact d_setItem hu I g ri rv fun s' I' => ⟨H', I', q⟩
theorem PSet.or {r r' : TSet} (h : PSet X r) (h' : PSet X r') : PSet X (fun o i v H Q => r o i v H Q ∨ r' o i v H Q) := by
  intro pins s σ H o i v ov iv u Q I ro ri rv q
  rcases q with q | q
  · exact h pins s σ H o i v ov iv u Q I ro ri rv q
  · exact h' pins s σ H o i v ov iv u Q I ro ri rv q
theorem dSet_low {M Mo : Mem} {H Ho : Hp} {o i v : V} {a b c : D} {Q : Mem → Prop} {QV : Hp → Prop} (m : MRel X.K M H) (f : Fr Mo Ho M H) (ia : Is X.K H a o) (ib : Is X.K H b i) (ic : Is X.K H c v) (q : dSet a b c M Q)
    (k : ∀ M' H', MRel X.K M' H' → Fr Mo Ho M' H' → Q M' → QV H') : rSetL o i v H QV ∨ rSetDict o i v H QV := by
  cases a with
  | ref p =>
    rw [is_ref] at ia
    subst ia
    rcases q with ⟨xs, n, j, h, rfl, hj, q⟩ | ⟨kvs, n, h, hk, hl, q⟩ | ⟨kvs, n, ks, h, rfl, hk, hl, q⟩
    · rw [is_int] at ib
      obtain ⟨vs, e, l⟩ := m p _ h
      have ex := ext_write m h (o := HO.lst (vs.set j v))
      obtain ⟨m', f'⟩ := set_mem m f h (u' := .lst (xs.set j c)) (o := HO.lst (vs.set j v)) ⟨_, upd_same, IsL.set (Is.ext ex _ _ ic) j (IsL.ext ex _ _ l)⟩
      exact .inl ⟨p, vs, n, j, rfl, ib, e, by rw [l.length]; exact hj, k _ _ m' f' q⟩
    · obtain ⟨ws, e, r⟩ := m p _ h
      have ex := ext_write m h (o := HO.dK (putK ws n v))
      have r' : KRel X.K (upd H p (HO.dK (putK ws n v))) kvs ws := ⟨r.1, IsL.ext ex _ _ r.2⟩
      obtain ⟨m', f'⟩ := set_mem m f h (u' := .dK (putG kvs n c)) (o := HO.dK (putK ws n v)) ⟨_, upd_same, KRel.put (Is.ext ex _ _ ic) r'⟩
      refine .inr ⟨p, _, rfl, ?_, k _ _ m' f' q⟩
      rw [keyD_is ib hk]
      exact DPut.k e (by rw [KRel.length r]; exact hl)
    · obtain ⟨ws, e, r⟩ := m p _ h
      have ex := ext_write m h (o := HO.dT (putK ws ks v))
      have r' : KRel X.K (upd H p (HO.dT (putK ws ks v))) kvs ws := ⟨r.1, IsL.ext ex _ _ r.2⟩
      obtain ⟨m', f'⟩ := set_mem m f h (u' := .dT (putG kvs ks c)) (o := HO.dT (putK ws ks v)) ⟨_, upd_same, KRel.put (Is.ext ex _ _ ic) r'⟩
      obtain ⟨b, rfl, hb⟩ := keyTup m ib hk
      exact .inr ⟨p, _, rfl, DPut.t e hb (by rw [KRel.length r]; exact hl), k _ _ m' f' q⟩
  | _ => exact q.elim
end

def DAP (g : Gd) (pins : List (Addr × Obj)) (σ : L2.St) (e : Sl) (M : Mem) (H : Hp) (Q : List D → Mem → Prop) (us : List Value) (s' : Shared) : Prop :=
  ∃ vs ds H' M', Vals vs us ∧ IsL g.X.K H' ds vs ∧ SI g pins σ H' s' e M' ∧ Fr M H M' H' ∧ Q ds M'
structure DA (g : Gd) (xs : List Expr) (t : DTA) : Prop where
  pa : ∃ t' : TA, PA g.X xs t' ∧ ∀ σ H e M Q (QV : List V → Hp → Prop), SRel g.X.K H e σ → MRel g.X.K M H → Fr g.M0 g.H0 M H → t e M Q g.E →
    (∀ ds vs M' H', IsL g.X.K H' ds vs → MRel g.X.K M' H' → Fr M H M' H' → Q ds M' → QV vs H') → t' σ H QV
  star : ∀ env, (starEach xs env).any (·.1) = false
def dNil : DTA := fun _ M Q _ => Q [] M
def dCons (t : DTE) (r : DTA) : DTA := fun e M Q E => t e M (fun x M1 => r e M1 (fun xs M2 => Q (x :: xs) M2) E) E
def isStar : Expr → Bool
  | .Starred _ _ => true
  | _ => false
theorem star_cons {x : Expr} {xs : List Expr} {env : PySem.Env} (h : isStar x = false) : starEach (x :: xs) env = (false, eval x env) :: starEach xs env := by
  cases x <;> first | rfl | cases h
section
variable {g : Gd} {x : Expr} {xs : List Expr} {t : DTE} {r : DTA} {pos : Pos}
theorem da_nil : DA g [] dNil := ⟨⟨_, pa_nil, fun σ H e M Q QV sl mr fr q k => k [] [] M H (isL_nil.mpr rfl) mr Fr.refl q⟩, fun _ => rfl⟩
theorem da_cons (h : DE g x t) (hr : DA g xs r) (ns : isStar x = false) : DA g (x :: xs) (dCons t r) := by
  obtain ⟨r', p, k⟩ := hr.pa
  refine ⟨⟨_, pa_cons h.pe p (star_cons ns), fun σ H e M Q QV sl mr fr q kk => ?_⟩, fun env => by rw [star_cons ns, List.any_cons, hr.star]; rfl⟩
  refine low_start sl mr fr q fun v d M1 H1 i m f q => ?_
  refine k σ H1 e M1 _ _ (sl.ext (f.ext mr)) m (fr.trans f) q fun ds vs M2 H2 l m2 f2 q => ?_
  exact kk (d :: ds) (v :: vs) M2 H2 (IsL.mk (Is.ext (f2.ext m) _ _ i) l) m2 (f.trans f2) q
def dTup (r : DTA) : DTE := fun e M Q E => r e M (fun xs M1 => xs.length ≤ sizeLine ∧ Q (.tup xs) M1) E
def dLst (r : DTA) : DTE := fun e M Q E => r e M (fun xs M1 => xs.length ≤ sizeLine ∧ ∀ p, M1 p = none → Q (.ref p) (wr M1 p (.lst xs))) E
theorem de_tup {n : Nat} (h : DA g xs r) : DE g (.Tuple xs n pos) (dTup r) := by
  obtain ⟨r', p, k⟩ := h.pa
  refine DE.of (pe_tup p) fun σ H e M Q sl mr fr q => ?_
  refine k σ H e M _ _ sl mr fr q fun ds vs M1 H1 l m f q => ?_
  exact ⟨by rw [l.length]; exact q.1, fin_low.newT m f l q.2⟩
theorem de_lst (h : DA g xs r) : DE g (.List xs pos) (dLst r) := by
  obtain ⟨r', p, k⟩ := h.pa
  refine DE.of (pe_lst p) fun σ H e M Q sl mr fr q => ?_
  refine k σ H e M _ _ sl mr fr q fun ds vs M1 H1 l m f q => ?_
  exact ⟨by rw [l.length]; exact q.1, fin_low.newL m f l q.2⟩
end
abbrev RnD := List D → Mem → QE → Prop
def CallK (K : PySem.W.Frag) (r : RnD) (r' : List V → Hp → VK → Prop) : Prop := ∀ (M : Mem) (H : Hp) (Mo : Mem) (Ho : Hp) (vs : List V) (ds : List D) (Q : QE) (QV : VK), MRel K M H → Fr Mo Ho M H → IsL K H ds vs → Fin K Mo Ho Q QV → r ds M Q → r' vs H QV
def CallD (X : Cx) (f : Value) (r : RnD) : Prop := ∃ r', CallR X f r' ∧ CallK X.K r r'
theorem CallD.or {X : Cx} {f : Value} {r s : RnD} (h : CallD X f r) (h' : CallD X f s) : CallD X f (fun ds M Q => r ds M Q ∨ s ds M Q) := by
  obtain ⟨r', h1, k1⟩ := h
  obtain ⟨s', h2, k2⟩ := h'
  refine ⟨_, h1.or h2, fun M H Mo Ho vs ds Q QV m f l fin q => ?_⟩
  rcases q with q | q
  · exact .inl (k1 M H Mo Ho vs ds Q QV m f l fin q)
  · exact .inr (k2 M H Mo Ho vs ds Q QV m f l fin q)
theorem CallD.imp {X : Cx} {f : Value} {r s : RnD} (h : CallD X f r) (k : ∀ ds M Q, s ds M Q → r ds M Q) : CallD X f s := by
  obtain ⟨r', h1, k1⟩ := h
  exact ⟨r', h1, fun M H Mo Ho vs ds Q QV m f l fin q => k1 M H Mo Ho vs ds Q QV m f l fin (k _ _ _ q)⟩
def dCall (r : RnD) (t : DTA) : DTE := fun e M Q E => t e M (fun ds M1 => r ds M1 Q) E
abbrev RmD := D → List D → Mem → QE → Prop
def MtK (K : PySem.W.Frag) (r : RmD) (r' : V → List V → Hp → VK → Prop) : Prop := ∀ (M : Mem) (H : Hp) (Mo : Mem) (Ho : Hp) (x : V) (a : D) (vs : List V) (ds : List D) (Q : QE) (QV : VK), MRel K M H → Fr Mo Ho M H → Is K H a x → IsL K H ds vs → Fin K Mo Ho Q QV → r a ds M Q → r' x vs H QV
def isTy (T : String) (a : D) (M : Mem) : Prop := match a with
  | .str _ => T = "str"
  | .rl _ => T = "list"
  | .ref p => (T = "list" ∧ ∃ xs, M p = some (.lst xs)) ∨ (T = "dict" ∧ ((∃ kvs, M p = some (.dK kvs)) ∨ ∃ kvs, M p = some (.dT kvs)))
  | _ => False
structure MtD (X : Cx) (T : String) (name : Str) (id : String) (r : RmD) : Prop where
  pa : PlainAttrs T
  slot : Slot T name id
  hty : typeOf (.builtin id) = pure (.type "method_descriptor")
  run : ∃ r', MtR X id r' ∧ MtK X.K r r'
def dMt (T : String) (r : RmD) (to : DTE) (t : DTA) : DTE := fun e M Q E => to e M (fun x M1 => isTy T x M1 ∧ t e M1 (fun ds M2 => r x ds M2 Q) E) E
theorem bt_any {g : Gd} {xs : List Expr} {r : DTA} {pos : Pos} (h : DA g xs r) : (backTo pos (starEach xs g.X.env)).any (·.1) = false := by
  have := h.star g.X.env
  unfold backTo
  rw [List.any_map]
  exact this
section
variable {g : Gd} {x : Expr} {xs : List Expr} {t : DTE} {r : DTA} {pos p apos : Pos} {n : Str} {id T : String}
theorem de_callB {rd : RnD} (hc : CallD g.X (.builtin id) rd) (hg : Gl g.X n) (hm : g.X.mg n = none) (hv : bootBuiltins n = some (.builtin id)) (hx : DE g x t) (ha : DA g xs r) (ns : isStar x = false) (hn : n ≠ "__name__") (hdb : (n == ("__debug__" : Str)) = false) :
    DE g (.Call (.Name n p) (x :: xs) [] pos) (dCall rd (dCons t r)) := by
  obtain ⟨r', h, k⟩ := hc
  obtain ⟨ta, pa, ka⟩ := (da_cons hx ha ns).pa
  exact DE.of (pe_callB h hg hm hv pa hn hdb (star_cons ns) (bt_any ha)) fun σ H e M Q sl mr fr q => ka σ H e M _ _ sl mr fr q fun ds vs M1 H1 l m f q => k M1 H1 M H vs ds Q _ m f l fin_low q
theorem de_callT {rd : RnD} (hc : CallD g.X (.type T) rd) (hg : Gl g.X n) (hm : g.X.mg n = none) (hv : bootBuiltins n = some (.type T)) (hx : DE g x t) (ha : DA g xs r) (ns : isStar x = false) (hn : n ≠ "__name__") (hdb : (n == ("__debug__" : Str)) = false) :
    DE g (.Call (.Name n p) (x :: xs) [] pos) (dCall rd (dCons t r)) := by
  obtain ⟨r', h, k⟩ := hc
  obtain ⟨ta, pa, ka⟩ := (da_cons hx ha ns).pa
  exact DE.of (pe_callTy h hg hm hv pa hn hdb (star_cons ns) (bt_any ha)) fun σ H e M Q sl mr fr q => ka σ H e M _ _ sl mr fr q fun ds vs M1 H1 l m f q => k M1 H1 M H vs ds Q _ m f l fin_low q
theorem isTy_low {K : PySem.W.Frag} {T : String} {a : D} {M : Mem} {H : Hp} {x : V} (m : MRel K M H) (i : Is K H a x) (h : isTy T a M) : tyV K T x H := by
  cases a with
  | str z => rw [is_str] at i; subst i; exact h
  | rl xs => rw [is_rl] at i; obtain ⟨p, vs, rfl, e, l⟩ := i; exact .inl ⟨h, vs, e.sq⟩
  | ref p =>
    rw [is_ref] at i
    subst i
    rcases h with ⟨h1, xs, h2⟩ | ⟨h1, h2⟩
    · obtain ⟨vs, e, l⟩ := m p _ h2
      exact .inl ⟨h1, vs, SqL.of e⟩
    · rcases h2 with ⟨kvs, h2⟩ | ⟨kvs, h2⟩
      · obtain ⟨ws, e, r⟩ := m p _ h2
        exact .inr (.inr (.inl ⟨h1, .inl ⟨ws, e⟩⟩))
      · obtain ⟨ws, e, r⟩ := m p _ h2
        exact .inr (.inr (.inl ⟨h1, .inr ⟨ws, e⟩⟩))
  | _ => exact h.elim
theorem de_mt {o : Expr} {to : DTE} {rd : RmD} (hm : MtD g.X T n id rd) (ho : DE g o to) (hx : DE g x t) (ha : DA g xs r) (ns : isStar x = false) (hbase : attributeBase o n g.X.env (eval o g.X.env) = eval o g.X.env)
    (hfew : ((backTo pos (starEach (x :: xs) g.X.env)).all (fun z => !z.1) && (backToKw pos (keywordEach [] g.X.env)).all (fun z => z.1.isSome)
      && decide ((x :: xs).length + ([] : List Keyword).length + (if ([] : List Keyword).isEmpty then 0 else 1) < 30)) = true)
    (hline : (apos.endLine == pos.line) = true) : DE g (.Call (.Attribute o n apos) (x :: xs) [] pos) (dMt T rd to (dCons t r)) := by
  obtain ⟨r', h, k⟩ := hm.run
  obtain ⟨ta, pa, ka⟩ := (da_cons hx ha ns).pa
  refine DE.of (pe_bm hm.pa hm.slot hm.hty h ho.pe pa hbase hfew hline (star_cons ns) (bt_any ha)) fun σ H e M Q sl mr fr q => ?_
  refine low_start sl mr fr q fun v d M1 H1 i m f q => ?_
  refine ⟨isTy_low m i q.1, ka σ H1 e M1 _ _ (sl.ext (f.ext mr)) m (fr.trans f) q.2 fun ds vs M2 H2 l m2 f2 q => ?_⟩
  exact k M2 H2 M H v d vs ds Q _ m2 (f.trans f2) (Is.ext (f2.ext m) _ _ i) l fin_low q
theorem de_mt0 {o : Expr} {to : DTE} {rd : RmD} (hm : MtD g.X T n id rd) (ho : DE g o to) (hbase : attributeBase o n g.X.env (eval o g.X.env) = eval o g.X.env)
    (hline : (apos.endLine == pos.line) = true) : DE g (.Call (.Attribute o n apos) [] [] pos) (dMt T rd to dNil) := by
  obtain ⟨r', h, k⟩ := hm.run
  refine DE.of (pe_bm0 hm.pa hm.slot hm.hty h ho.pe hbase hline) fun σ H e M Q sl mr fr q => ?_
  refine low_start sl mr fr q fun v d M1 H1 i m f q => ?_
  exact ⟨isTy_low m i q.1, k M1 H1 M H v d [] [] Q _ m f i (isL_nil.mpr rfl) fin_low q.2⟩
end
end DL

namespace DL
open PySem PySem.Spec PyProof.Rows L2
section
variable {prog : Program} {w : World} {A : Around} {E : Value → Shared → Prop} {s : Shared}
theorem draw_list {it t : Addr} {items : Array Value} (hne : t ≠ it) : ∀ (n i : Nat) (s : Shared) (Q : List Value → Shared → Prop), s.heap.IsListIter it t i → s.heap.IsList t items → i + n ≤ items.size →
    (∀ h', h'.IsListIter it t (i + n) → Heap.SameBut it s.heap h' → Q ((items.toList.drop i).take n) { s with heap := h' }) → wpAny (model prog w) A (draw (.ref it) n) Q E s
  | 0, i, s, Q, hit, _, _, hQ => by
    show wpAny _ _ (pure []) Q E s
    exact wpAny_pure (by simpa using hQ s.heap hit (Heap.SameBut.refl ..))
  | n + 1, i, s, Q, hit, ht, hle, hQ => by
    have hlt : i < items.size := by omega
    show wpAny _ _ (pyNext (.ref it) >>= _) Q E s
    refine wpAny_bind (wpAny_pyNext_list_item hit ht (x := items[i]) (by simp [hlt]) fun h₁ hit₁ hs₁ => ?_)
    refine wpAny_bind (wpAny_holding (draw_list hne n (i + 1) _ _ hit₁ (ht.extBut hs₁.extBut hne) (by omega) fun h₂ hit₂ hs₂ => wpAny_pure ?_))
    have hd : items.toList.drop i = items[i] :: items.toList.drop (i + 1) := by simp [List.drop_eq_getElem_cons, hlt]
    have := hQ h₂ (by rw [show i + (n + 1) = i + 1 + n by omega]; exact hit₂) (hs₁.trans hs₂)
    rw [hd, List.take_succ_cons] at this
    exact this
theorem unpackItems_list {t : Addr} {items : Array Value} {Q : List Value → Shared → Prop} (hh : A.handled = none) (ht : s.heap.IsList t items)
    (hQ : ∀ h', Heap.ExtBut s.heap.objs.size s.heap h' → Q items.toList { s with heap := h' }) : wpAny (model prog w) A (unpackItems (.ref t) items.size none) Q E s := by
  have hlt : t ≠ s.heap.objs.size := by obtain ⟨o, ho, _⟩ := ht; exact Nat.ne_of_lt (Heap.lt_size ho)
  unfold unpackItems
  refine wpAny_bind ?_
  · unfold notIterableAtAll
    refine wpAny_bind (wpAny_specialOf ht.typeIs slot_list_iter.lookup ?_)
    refine wpAny_pure ?_
    simp only [Bool.false_eq_true, if_false]
    refine wpAny_bind (wpAny_holding (wpAny_pyIter_list ht ?_))
    refine wpAny_bind (wpAny_holding (draw_list hlt items.size 0 _ _ ⟨_, Heap.get?_push_size _ rfl, rfl, rfl⟩ (ht.push _) (by omega) fun h₁ hit₁ hs₁ => ?_))
    have hall : List.take items.size (List.drop 0 items.toList) = items.toList := by
      rw [List.drop_zero]; exact List.take_of_length_le (by simp)
    rw [hall]
    rw [if_neg (by simp)]
    have ht₁ : h₁.IsList t items := (ht.push _).extBut hs₁.extBut hlt
    refine wpAny_bind (wpAny_holding (wpAny_pyNext_list_end hh hit₁ ht₁ (by simp) fun h₂ he₂ => ?_))
    simp only [Option.isSome_none, Bool.false_eq_true, if_false]
    refine wpAny_pure (hQ h₂ fun b o hb e => he₂ b o hb (hs₁.extBut b o hb (Heap.get?_push_of_some _ e)))
theorem assign_Tuple_list {env : PySem.Env} {elts : List Expr} {x1} {pos : Pos} {t : Addr} {items : Array Value} {Q : Unit → Shared → Prop} (hh : A.handled = none) (ht : s.heap.IsList t items)
    (hn : (assignEach elts env).length = items.size) (hstar : (assignEach elts env).findIdx? (·.1) = none)
    (h : ∀ h', Heap.ExtBut s.heap.objs.size s.heap h' → wpAny (model prog w) A (assignInOrder ((assignEach elts env).map (·.2)) items.toList) Q E { s with heap := h' }) :
    wpAny (model prog w) A (assign (.Tuple elts x1 pos) env (.ref t)) Q E s := by
  rw [assign_Tuple]
  refine wpAny_bind (wpAny_standAt ?_)
  unfold unpack
  rw [hn, hstar]
  exact wpAny_bind (wpAny_holding (unpackItems_list hh ht h))
end
section
variable {X : Cx} {pos : Pos}
def gTupQ (K : PySem.W.Frag) (n : Nat) (t : TGs) : TG := fun v σ H Q => ∃ a xs, v = .ref a ∧ (SqT K H a xs ∨ SqL K H a xs) ∧ xs.length = n ∧ t xs σ H Q
theorem pg_tupQ {es : List Expr} {k : Nat} {t : TGs} {n : Nat} (hc : X.calm = true) (h : PGs X es t)
    (hn : (assignEach es X.env).length = n) (hst : (assignEach es X.env).findIdx? (·.1) = none) : PG X (.Tuple es k pos) (gTupQ X.K n t) := by
  refine ⟨fun pins s σ H v u Q I r hw => ?_⟩
  obtain ⟨a, xs, e1, hq, hl, hw⟩ := hw
  rcases hq with hq | hq
  · exact (pg_tup (n := n) (k := k) (pos := pos) hc h hn hst).run pins s σ H v u Q I r ⟨a, xs, e1, hq, hl, hw⟩
  subst e1
  cases r
  obtain ⟨its, rv, ht, hz⟩ := I.list hq
  refine assign_Tuple_list (I.ok.hd hc) ht.isList (by simp [hn, ← hl, rv.length]) hst fun h' hx => ?_
  have I1 : Inv X pins σ H { s with heap := h' } := I.kept (t' := s.toks) fun b o e => hx b o (Nat.ne_of_lt (Heap.lt_size e)) e
  exact h.run pins _ σ H xs _ Q I1 (by simpa using rv) hw
end
end DL

namespace DL
open PySem PySem.Spec PyProof.Rows L2
section
variable {g : Gd} {pos : Pos}
def dSlot (i : Nat) : DTE := fun e M Q _ => match getS e i with | some d => Q d M | none => False
def dC (d : D) : DTE := fun _ M Q _ => Q d M
theorem de_slot {i : Nat} {x : Str} (hN : g.X.N[i]? = some x) (hv : Vis g.X.env.scope x) (hd : (x == ("__debug__" : Str)) = false) (hcd : (x == ("__classdict__" : Str)) = false) : DE g (.Name x pos) (dSlot i) := by
  refine DE.of (pe_var hN hv hd hcd) fun σ H e M Q sl mr fr q => ?_
  have q' : (match getS e i with | some d => Q d M | none => False) := q
  cases h : getS e i with
  | none => rw [h] at q'; exact q'.elim
  | some d =>
    rw [h] at q'
    obtain ⟨v, e1, i⟩ := sl.get h
    exact ⟨v, e1, fin_low _ _ _ _ i mr Fr.refl q'⟩
theorem de_int {i : Int} {j : Nat} : DE g (.Constant (.int i) j pos) (dC (.int i)) := DE.of pe_int fun σ H e M Q sl mr fr q => fin_low _ _ _ _ ii_int mr Fr.refl q
theorem de_bl {i : Bool} {j : Nat} : DE g (.Constant (.bool i) j pos) (dC (.bl i)) := DE.of pe_bl fun σ H e M Q sl mr fr q => fin_low _ _ _ _ ii_bl mr Fr.refl q
theorem de_str {i : Str} {j : Nat} : DE g (.Constant (.str i) j pos) (dC (.str i)) := DE.of pe_str fun σ H e M Q sl mr fr q => fin_low _ _ _ _ ii_str mr Fr.refl q
theorem de_non {j : Nat} : DE g (.Constant .none j pos) (dC .non) := DE.of pe_non fun σ H e M Q sl mr fr q => fin_low _ _ _ _ ii_non mr Fr.refl q
theorem de_glob {x : Str} {d : D} {v : V} {u : Value} (hg : Gl g.X x) (hm : g.X.mg x = some u) (r : RelV v u) (hi : ∀ H, Is g.X.K H d v) (hd : (x == ("__debug__" : Str)) = false) : DE g (.Name x pos) (dC d) :=
  DE.of (pe_glob hg hm r hd) fun σ H e M Q sl mr fr q => fin_low _ _ _ _ (hi H) mr Fr.refl q
theorem de_bltn {x : Str} {d : D} {v : V} {u : Value} (hg : Gl g.X x) (hm : g.X.mg x = none) (hv : bootBuiltins x = some u) (r : RelV v u) (hi : ∀ H, Is g.X.K H d v) (hn : x ≠ "__name__") (hd : (x == ("__debug__" : Str)) = false) : DE g (.Name x pos) (dC d) :=
  DE.of (pe_bltn hg hm hv r hn hd) fun σ H e M Q sl mr fr q => fin_low _ _ _ _ (hi H) mr Fr.refl q
def dNeg (t : DTE) : DTE := fun e M Q E => t e M (fun x M1 => match x with | .int i => Q (.int (-i)) M1 | _ => False) E
theorem de_neg {a : Expr} {t : DTE} (h : DE g a t) : DE g (.UnaryOp .USub a pos) (dNeg t) := by
  refine DE.of (pe_un un_neg h.pe) fun σ H e M Q sl mr fr q => ?_
  refine low_start sl mr fr q fun v d M1 H1 i m f q => ?_
  cases d with
  | int k => rw [is_int] at i; exact ⟨k, i, fin_low _ _ _ _ ii_int m f q⟩
  | _ => exact q.elim
def dTru (x : D) (M : Mem) (Q : Bool → Prop) : Prop := match x with
  | .non => Q false
  | .bl b => Q b
  | .int i => Q (i != 0)
  | .str s => s.length ≤ sizeLine ∧ Q (!decide (s.length = 0))
  | .tup xs => Q (!xs.isEmpty)
  | .rl xs => Q (!xs.isEmpty)
  | .tx xs => Q (!xs.isEmpty)
  | .ref a => (∃ xs, M a = some (.lst xs) ∧ Q (!xs.isEmpty)) ∨ ∃ kvs, M a = some (.dK kvs) ∧ Q (!kvs.isEmpty)
  | _ => False
theorem isEmpty_is {K : PySem.W.Frag} {H : Hp} {ds : List D} {vs : List V} (l : IsL K H ds vs) : vs.isEmpty = ds.isEmpty := by
  have := l.length
  cases ds <;> cases vs <;> first | rfl | (simp at this)
theorem dTru_low {K : PySem.W.Frag} {M : Mem} {H : Hp} {d : D} {v : V} {Q : Bool → Prop} (m : MRel K M H) (i : Is K H d v) (q : dTru d M Q) : ∃ b, TruV K v H b ∧ Q b := by
  cases d with
  | non => rw [is_non] at i; subst i; exact ⟨_, rfl, q⟩
  | bl b => rw [is_bl] at i; subst i; exact ⟨_, rfl, q⟩
  | int k => rw [is_int] at i; subst i; exact ⟨_, rfl, q⟩
  | str s =>
    rw [is_str] at i; subst i
    refine ⟨_, ⟨q.1, rfl⟩, ?_⟩
    have e : ((s.length : Int) != 0) = !decide (s.length = 0) := by
      rw [bne]
      congr 1
      rw [Bool.eq_iff_iff]
      simp
    rw [e]; exact q.2
  | tup xs =>
    rw [is_tup] at i
    obtain ⟨p, vs, rfl, e, l⟩ := i
    exact ⟨_, .inr (.inl ⟨vs, SqT.of e, rfl⟩), by rw [isEmpty_is l]; exact q⟩
  | rl xs =>
    rw [is_rl] at i
    obtain ⟨p, vs, rfl, e, l⟩ := i
    exact ⟨_, .inl ⟨vs, e.sq, rfl⟩, by rw [isEmpty_is l]; exact q⟩
  | tx xs =>
    rw [is_tx] at i
    obtain ⟨p, vs, rfl, e, l⟩ := i
    exact ⟨_, .inr (.inl ⟨vs, e.sq, rfl⟩), by rw [isEmpty_is l]; exact q⟩
  | ref p =>
    rw [is_ref] at i; subst i
    rcases q with ⟨xs, h, q⟩ | ⟨kvs, h, q⟩
    · obtain ⟨vs, e, l⟩ := m p _ h
      exact ⟨_, .inl ⟨vs, SqL.of e, rfl⟩, by rw [isEmpty_is l]; exact q⟩
    · obtain ⟨ws, e, r⟩ := m p _ h
      refine ⟨_, .inr (.inr ⟨ws, e, rfl⟩), ?_⟩
      have : ws.isEmpty = kvs.isEmpty := by
        have := KRel.length r
        cases ws <;> cases kvs <;> first | rfl | (simp at this)
      rw [this]; exact q
  | _ => exact q.elim
def dTruth (t : DTE) : DTT := fun e M Q E => t e M (fun x M1 => dTru x M1 fun b => Q b M1) E
theorem dt_truth {a : Expr} {t : DTE} (h : DE g a t) (he : ∀ whole, isTrue a g.X.env whole = (do let v ← whole; standAt a.pos; holding [v] (truthy v))) : DT g a (dTruth t) := by
  refine DT.of (pt_truth h.pe he) fun σ H e M Q sl mr fr q => ?_
  refine low_start sl mr fr q fun v d M1 H1 i m f q => ?_
  obtain ⟨b, h1, h2⟩ := dTru_low m i q
  exact ⟨b, h1, M1, m, f, h2⟩
variable {a b c : Expr} {ta tb tc : DTE} {tA tB : DTT} {rest : List Expr}
structure DW (g : Gd) (x : Expr) (t : DTT) : Prop where
  pw : ∃ t' : TT, PW g.X x t' ∧ ∀ σ H e M Q (QV : Bool → Hp → Prop), SRel g.X.K H e σ → MRel g.X.K M H → Fr g.M0 g.H0 M H → t e M Q g.E → (∀ b M' H', MRel g.X.K M' H' → Fr M H M' H' → Q b M' → QV b H') → t' σ H QV
theorem DW.dt {x : Expr} {t : DTT} (h : DW g x t) : DT g x t := by
  obtain ⟨t', p, k⟩ := h.pw
  exact DT.of p.pt fun σ H e M Q sl mr fr q => k σ H e M Q _ sl mr fr q fun b M' H' m f q => ⟨M', m, f, q⟩
def dAndT (t u : DTT) : DTT := fun e M Q E => t e M (fun b M1 => if b = true then u e M1 Q E else Q false M1) E
def dOrT (t u : DTT) : DTT := fun e M Q E => t e M (fun b M1 => if b = true then Q true M1 else u e M1 Q E) E
theorem dw_and1 (h : DT g a tA) : DW g (.BoolOp .And [a] pos) tA := ⟨⟨_, pw_and1 h.pt, fun σ H e M Q QV sl mr fr q k => low_startT sl mr fr q k⟩⟩
theorem dw_or1 (h : DT g a tA) : DW g (.BoolOp .Or [a] pos) tA := ⟨⟨_, pw_or1 h.pt, fun σ H e M Q QV sl mr fr q k => low_startT sl mr fr q k⟩⟩
theorem dw_and (h : DT g a tA) (hb : DW g (.BoolOp .And (b :: rest) pos) tB) : DW g (.BoolOp .And (a :: b :: rest) pos) (dAndT tA tB) := by
  obtain ⟨t', p, k⟩ := hb.pw
  refine ⟨⟨_, pw_and h.pt p, fun σ H e M Q QV sl mr fr q kk => ?_⟩⟩
  refine low_startT sl mr fr q fun b M1 H1 m f q => ?_
  cases b with
  | true => exact k σ H1 e M1 _ _ (sl.ext (f.ext mr)) m (fr.trans f) q fun b M2 H2 m2 f2 q => kk b M2 H2 m2 (f.trans f2) q
  | false => exact kk false M1 H1 m f q
theorem dw_or (h : DT g a tA) (hb : DW g (.BoolOp .Or (b :: rest) pos) tB) : DW g (.BoolOp .Or (a :: b :: rest) pos) (dOrT tA tB) := by
  obtain ⟨t', p, k⟩ := hb.pw
  refine ⟨⟨_, pw_or h.pt p, fun σ H e M Q QV sl mr fr q kk => ?_⟩⟩
  refine low_startT sl mr fr q fun b M1 H1 m f q => ?_
  cases b with
  | true => exact kk true M1 H1 m f q
  | false => exact k σ H1 e M1 _ _ (sl.ext (f.ext mr)) m (fr.trans f) q fun b M2 H2 m2 f2 q => kk b M2 H2 m2 (f.trans f2) q
def dNotT (t : DTT) : DTT := fun e M Q E => t e M (fun b M1 => Q (!b) M1) E
theorem dt_not (h : DT g a tA) : DT g (.UnaryOp .Not a pos) (dNotT tA) :=
  DT.of (pt_not h.pt) fun σ H e M Q sl mr fr q => low_startT sl mr fr q fun b M1 H1 m f q => ⟨M1, m, f, q⟩
def dAnd (t u : DTE) : DTE := fun e M Q E => t e M (fun x M1 => dTru x M1 fun b => if b = true then u e M1 Q E else Q x M1) E
def dOr (t u : DTE) : DTE := fun e M Q E => t e M (fun x M1 => dTru x M1 fun b => if b = true then Q x M1 else u e M1 Q E) E
def dNot (t : DTE) : DTE := fun e M Q E => t e M (fun x M1 => dTru x M1 fun b => Q (.bl (!b)) M1) E
theorem de_one {op : BoolOp} (h : DE g a ta) : DE g (.BoolOp op [a] pos) ta := DE.of (pe_one h.pe) fun σ H e M Q sl mr fr q => low_start sl mr fr q fun v d M1 H1 i m f q => lowQ.mk i m f q
theorem de_and (h : DE g a ta) (hb : DE g (.BoolOp .And (b :: rest) pos) tb) : DE g (.BoolOp .And (a :: b :: rest) pos) (dAnd ta tb) := by
  refine DE.of (pe_andT h.pe hb.pe) fun σ H e M Q sl mr fr q => ?_
  refine low_start sl mr fr q fun v d M1 H1 i m f q => ?_
  obtain ⟨b, h1, h2⟩ := dTru_low m i q
  refine ⟨b, h1, ?_⟩
  cases b with
  | true => exact low_start (sl.ext (f.ext mr)) m (fr.trans f) h2 fun v2 d2 M2 H2 i2 m2 f2 q2 => lowQ.mk i2 m2 (f.trans f2) q2
  | false => exact lowQ.mk i m f h2
theorem de_or (h : DE g a ta) (hb : DE g (.BoolOp .Or (b :: rest) pos) tb) : DE g (.BoolOp .Or (a :: b :: rest) pos) (dOr ta tb) := by
  refine DE.of (pe_orT h.pe hb.pe) fun σ H e M Q sl mr fr q => ?_
  refine low_start sl mr fr q fun v d M1 H1 i m f q => ?_
  obtain ⟨b, h1, h2⟩ := dTru_low m i q
  refine ⟨b, h1, ?_⟩
  cases b with
  | true => exact lowQ.mk i m f h2
  | false => exact low_start (sl.ext (f.ext mr)) m (fr.trans f) h2 fun v2 d2 M2 H2 i2 m2 f2 q2 => lowQ.mk i2 m2 (f.trans f2) q2
theorem de_not (h : DE g a ta) : DE g (.UnaryOp .Not a pos) (dNot ta) := by
  refine DE.of (pe_notT h.pe) fun σ H e M Q sl mr fr q => ?_
  refine low_start sl mr fr q fun v d M1 H1 i m f q => ?_
  obtain ⟨b, h1, h2⟩ := dTru_low m i q
  exact ⟨b, h1, lowQ.mk ii_bl m f h2⟩
def dIfE (t : DTT) (ta tb : DTE) : DTE := fun e M Q E => t e M (fun b M1 => if b = true then ta e M1 Q E else tb e M1 Q E) E
theorem de_if (hc : DT g c tA) (ha : DE g a ta) (hb : DE g b tb) : DE g (.IfExp c a b pos) (dIfE tA ta tb) := by
  refine DE.of (pe_ifExp hc.pt ha.pe hb.pe) fun σ H e M Q sl mr fr q => ?_
  refine low_startT sl mr fr q fun b M1 H1 m f q => ?_
  cases b with
  | true => exact low_start (sl.ext (f.ext mr)) m (fr.trans f) q fun v2 d2 M2 H2 i2 m2 f2 q2 => lowQ.mk i2 m2 (f.trans f2) q2
  | false => exact low_start (sl.ext (f.ext mr)) m (fr.trans f) q fun v2 d2 M2 H2 i2 m2 f2 q2 => lowQ.mk i2 m2 (f.trans f2) q2
theorem de_chain {op op' : CmpOp} {r r' : R2D} (ho : OpD g.X (compareOp op) r) (ho' : OpD g.X (compareOp op') r') (ha : DE g a ta) (hb : DE g b tb) (hc : DE g c tc)
    (hm : lastMarks [op, op'] [b, c] = false) : DE g (.Compare a [op, op'] [b, c] pos) (dChain r r' ta tb tc) := by
  obtain ⟨s, o1, k1⟩ := ho
  obtain ⟨s', o2, k2⟩ := ho'
  refine DE.of (pe_chain o1 o2 ha.pe hb.pe hc.pe hm) fun σ H e M Q sl mr fr q => ?_
  refine low_start sl mr fr q fun v d M1 H1 i m f q => ?_
  refine low_start (sl.ext (f.ext mr)) m (fr.trans f) q fun v2 d2 M2 H2 i2 m2 f2 q => ?_
  have f12 := f.trans f2
  refine k1 M2 H2 M2 H2 v v2 d d2 _ _ m2 Fr.refl (Is.ext (f2.ext m) _ _ i) i2 ?_ q
  intro v3 d3 M3 H3 i3 m3 f3 q
  cases d3 with
  | bl b =>
    rw [is_bl] at i3
    refine ⟨b, i3, ?_⟩
    have f13 := f12.trans f3
    cases b with
    | true =>
      refine low_start (sl.ext (f13.ext mr)) m3 (fr.trans f13) q fun v4 d4 M4 H4 i4 m4 f4 q => ?_
      exact k2 M4 H4 M H v2 v4 d2 d4 _ _ m4 (f13.trans f4) (Is.ext ((f3.trans f4).ext m2) _ _ i2) i4 fin_low q
    | false => exact lowQ.mk ii_bl m3 f13 q
  | _ => exact q.elim
end

structure Keep (g : Gd) (P : Mem → Hp → Prop) : Prop where
  step : ∀ M H M' H', P M H → Fr M H M' H' → P M' H'
  sub : ∀ M H M', P M H → Sub M' M → P M' H
  base : ∀ M H, P M H → Fr g.M0 g.H0 M H
structure EndsLe (g : Gd) (P : Mem → Hp → Prop) (D : DEnds) (DV : Ends) : Prop where
  nx : ∀ σ H e M, SRel g.X.K H e σ → MRel g.X.K M H → P M H → D.nx e M → DV.nx σ H
  rt : ∀ v H d M, Is g.X.K H d v → MRel g.X.K M H → P M H → D.rt d M → DV.rt v H
  bk : ∀ σ H e M, SRel g.X.K H e σ → MRel g.X.K M H → P M H → D.bk e M → DV.bk σ H
  ct : ∀ σ H e M, SRel g.X.K H e σ → MRel g.X.K M H → P M H → D.ct e M → DV.ct σ H
structure DS (g : Gd) (st : Stmt) (t : DTS) : Prop where
  ps : ∃ t' : TS, PS g.X st t' ∧ ∀ P, Keep g P → ∀ σ H e M D DV, SRel g.X.K H e σ → MRel g.X.K M H → P M H → EndsLe g P D DV → t D g.E e M → t' DV σ H
structure DSs (g : Gd) (sts : List Stmt) (t : DTS) : Prop where
  ps : ∃ t' : TS, PSs g.X sts t' ∧ ∀ P, Keep g P → ∀ σ H e M D DV, SRel g.X.K H e σ → MRel g.X.K M H → P M H → EndsLe g P D DV → t D g.E e M → t' DV σ H
def dNext : DTS := fun D _ e M => D.nx e M
def dSeq (t u : DTS) : DTS := fun D E e M => t { D with nx := u D E } E e M
section
variable {g : Gd} {st : Stmt} {sts : List Stmt} {t u : DTS} {x : Expr} {te : DTE} {pos : Pos}
theorem ds_nil : DSs g [] dNext := ⟨⟨_, pss_nil, fun P hP σ H e M D DV sl mr hp le q => le.nx _ _ _ _ sl mr hp q⟩⟩
theorem ds_cons (h : DS g st t) (h2 : DSs g sts u) : DSs g (st :: sts) (dSeq t u) := by
  obtain ⟨t', p, k⟩ := h.ps
  obtain ⟨u', p2, k2⟩ := h2.ps
  refine ⟨⟨_, pss_cons p p2, fun P hP σ H e M D DV sl mr hp le q => ?_⟩⟩
  exact k P hP σ H e M { D with nx := u D g.E } { DV with nx := u' DV } sl mr hp ⟨fun σ' H' e' M' sl' mr' fr' q' => k2 P hP σ' H' e' M' D DV sl' mr' fr' le q', le.rt, le.bk, le.ct⟩ q
def dForget (t : DTS) : DTS := fun D E e M => ∃ M', Sub M' M ∧ t D E e M'
theorem ds_forget (h : DSs g sts t) : DSs g sts (dForget t) := by
  obtain ⟨t', p, k⟩ := h.ps
  exact ⟨⟨t', p, fun P hP σ H e M D DV sl mr hp le ⟨M', s, q⟩ => k P hP σ H e M' D DV sl (mr.sub s) (hP.sub _ _ _ hp s) le q⟩⟩
theorem ds_pass : DS g (.Pass pos) dNext := ⟨⟨_, ps_pass, fun P hP σ H e M D DV sl mr hp le q => le.nx _ _ _ _ sl mr hp q⟩⟩
theorem ds_break : DS g (.Break pos) (fun D _ e M => D.bk e M) := ⟨⟨_, ps_break, fun P hP σ H e M D DV sl mr hp le q => le.bk _ _ _ _ sl mr hp q⟩⟩
theorem ds_continue : DS g (.Continue pos) (fun D _ e M => D.ct e M) := ⟨⟨_, ps_continue, fun P hP σ H e M D DV sl mr hp le q => le.ct _ _ _ _ sl mr hp q⟩⟩
def dDrop (te : DTE) : DTS := fun D E e M => te e M (fun _ M1 => D.nx e M1) E
theorem ds_expr (h : DE g x te) (hs : swapsWith x none pos.line g.X.env = pure false) : DS g (.Expr x pos) (dDrop te) := by
  refine ⟨⟨_, ps_expr h.pe hs, fun P hP σ H e M D DV sl mr hp le q => ?_⟩⟩
  exact low_start sl mr (hP.base _ _ hp) q fun v d M1 H1 i m f q => le.nx _ _ _ _ (sl.ext (f.ext mr)) m (hP.step _ _ _ _ hp f) q
def dRet (te : DTE) : DTS := fun D E e M => te e M D.rt E
theorem ds_ret (h : DE g x te) : DS g (.Return (some x) pos) (dRet te) := by
  refine ⟨⟨_, ps_ret h.pe, fun P hP σ H e M D DV sl mr hp le q => ?_⟩⟩
  exact low_start sl mr (hP.base _ _ hp) q fun v d M1 H1 i m f q => le.rt _ _ _ _ i m (hP.step _ _ _ _ hp f) q
def dRetN : DTS := fun D _ _ M => D.rt .non M
theorem ds_retN : DS g (.Return none pos) dRetN := ⟨⟨_, ps_retN, fun P hP σ H e M D DV sl mr hp le q => le.rt _ _ _ _ ii_non mr hp q⟩⟩
def dIf (c : DTT) (t u : DTS) : DTS := fun D E e M => c e M (fun b M1 => if b = true then t D E e M1 else u D E e M1) E
theorem ds_if {c : Expr} {a b : List Stmt} {tc : DTT} (hc : DT g c tc) (ha : DSs g a t) (hb : DSs g b u) : DS g (.If c a b pos) (dIf tc t u) := by
  obtain ⟨t', p, k⟩ := ha.ps
  obtain ⟨u', p2, k2⟩ := hb.ps
  refine ⟨⟨_, ps_if hc.pt p p2, fun P hP σ H e M D DV sl mr hp le q => ?_⟩⟩
  refine low_startT sl mr (hP.base _ _ hp) q fun b M1 H1 m f q => ?_
  cases b with
  | true => exact k P hP σ H1 e M1 D DV (sl.ext (f.ext mr)) m (hP.step _ _ _ _ hp f) le q
  | false => exact k2 P hP σ H1 e M1 D DV (sl.ext (f.ext mr)) m (hP.step _ _ _ _ hp f) le q
end
abbrev DTG := D → Sl → Mem → (Sl → Mem → Prop) → EX → Prop
abbrev DTGs := List D → Sl → Mem → (Sl → Mem → Prop) → EX → Prop
structure DG (g : Gd) (x : Expr) (t : DTG) (ns : List Nat) : Prop where
  pg : ∃ t' : TG, PG g.X x t' ∧ ∀ σ H e M v d Q (QV : L2.St → Hp → Prop), SRel g.X.K H e σ → MRel g.X.K M H → Fr g.M0 g.H0 M H → Is g.X.K H d v → t d e M Q g.E →
    (∀ σ' H' e' M', SRel g.X.K H' e' σ' → MRel g.X.K M' H' → Fr M H M' H' → (∀ vs, (∀ i ∈ ns, i ∈ vs) → L2.wipe σ' vs = L2.wipe σ vs) → Q e' M' → QV σ' H') → t' v σ H QV
structure DGs (g : Gd) (xs : List Expr) (t : DTGs) (ns : List Nat) : Prop where
  pg : ∃ t' : TGs, PGs g.X xs t' ∧ ∀ σ H e M vs ds Q (QV : L2.St → Hp → Prop), SRel g.X.K H e σ → MRel g.X.K M H → Fr g.M0 g.H0 M H → IsL g.X.K H ds vs → t ds e M Q g.E →
    (∀ σ' H' e' M', SRel g.X.K H' e' σ' → MRel g.X.K M' H' → Fr M H M' H' → (∀ vs, (∀ i ∈ ns, i ∈ vs) → L2.wipe σ' vs = L2.wipe σ vs) → Q e' M' → QV σ' H') → t' vs σ H QV
theorem set_wipe (σ : L2.St) (i : Nat) (w : Option V) : ∀ vs : List Nat, i ∈ vs → L2.wipe (σ.set i w) vs = L2.wipe σ vs
  | [], h => by simp at h
  | v :: vs, h => by
    show (L2.wipe (σ.set i w) vs).set v none = (L2.wipe σ vs).set v none
    have gen : ∀ vs : List Nat, L2.wipe (σ.set i w) vs = L2.wipe σ vs ∨ L2.wipe (σ.set i w) vs = (L2.wipe σ vs).set i w := by
      intro vs
      induction vs with
      | nil => exact .inr rfl
      | cons z zs ih =>
        show (L2.wipe (σ.set i w) zs).set z none = (L2.wipe σ zs).set z none ∨ (L2.wipe (σ.set i w) zs).set z none = ((L2.wipe σ zs).set z none).set i w
        rcases ih with ih | ih
        · exact .inl (by rw [ih])
        · by_cases hz : z = i
          · subst hz
            exact .inl (by rw [ih, List.set_set])
          · exact .inr (by rw [ih, List.set_comm _ _ (Ne.symm hz)])
    by_cases hv : v = i
    · subst hv
      rcases gen vs with h | h
      · rw [h]
      · rw [h, List.set_set]
    · have hm : i ∈ vs := by
        rcases List.mem_cons.mp h with h | h
        · exact absurd h.symm hv
        · exact h
      rw [set_wipe σ i w vs hm]
section
variable {g : Gd} {x : Expr} {xs : List Expr} {pos : Pos} {t : DTG} {u : DTGs} {ns ms : List Nat}
def dgName (i : Nat) : DTG := fun d e M Q _ => Q (setS e i (some d)) M
theorem dg_name {i : Nat} {n : Str} (hN : g.X.N.Nodup) (hi : g.X.N[i]? = some n) (hx : Loc g.X.env.scope n) (hf : g.X.fn n = true ∨ g.X.env.scope.names.lookup n = some .local) : DG g (.Name n pos) (dgName i) [i] :=
  ⟨⟨_, pg_name hN hi hx hf, fun σ H e M v d Q QV sl mr fr id q k => k _ H _ M (SRel.set id i sl) mr Fr.refl (fun vs hv => set_wipe σ i _ vs (hv i (by simp))) q⟩⟩
def dgNil : DTGs := fun ds e M Q _ => ds = [] ∧ Q e M
def dgCons (t : DTG) (u : DTGs) : DTGs := fun ds e M Q E => match ds with
  | d :: r => t d e M (fun e' M' => u r e' M' Q E) E
  | [] => False
theorem dgs_nil : DGs g [] dgNil [] := ⟨⟨_, pgs_nil, fun σ H e M vs ds Q QV sl mr fr il q k => by
  obtain ⟨h, q⟩ := q
  subst h
  rw [isL_nil] at il
  exact ⟨il, k σ H e M sl mr Fr.refl (fun _ _ => rfl) q⟩⟩⟩
theorem assign_cons {env : PySem.Env} (h : isStar x = false) : (assignEach (x :: xs) env).map (·.2) = assign x env :: (assignEach xs env).map (·.2) := by
  cases x <;> first | rfl | cases h
theorem dgs_cons (h : DG g x t ns) (hr : DGs g xs u ms) (hs : isStar x = false) : DGs g (x :: xs) (dgCons t u) (ns ++ ms) := by
  obtain ⟨t', p, k⟩ := h.pg
  obtain ⟨u', p2, k2⟩ := hr.pg
  refine ⟨⟨_, pgs_cons p p2 (assign_cons hs), fun σ H e M vs ds Q QV sl mr fr il q kk => ?_⟩⟩
  cases ds with
  | nil => exact q.elim
  | cons d r =>
    rw [isL_cons] at il
    obtain ⟨v, rv, rfl, i, l⟩ := il
    refine ⟨v, rv, rfl, k σ H e M v d _ _ sl mr fr i q fun σ1 H1 e1 M1 sl1 m1 f1 w1 q => ?_⟩
    refine k2 σ1 H1 e1 M1 rv r _ _ sl1 m1 (fr.trans f1) (IsL.ext (f1.ext mr) _ _ l) q fun σ2 H2 e2 M2 sl2 m2 f2 w2 q => ?_
    exact kk σ2 H2 e2 M2 sl2 m2 (f1.trans f2) (fun vs hv => (w2 vs fun i hi => hv i (List.mem_append_right _ hi)).trans (w1 vs fun i hi => hv i (List.mem_append_left _ hi))) q
def dgTup (u : DTGs) : DTG := fun d e M Q E => match d with
  | .tup ds => u ds e M Q E
  | .tx ds => u ds e M Q E
  | .rl ds => u ds e M Q E
  | .ref a => ∃ ds, M a = some (.lst ds) ∧ u ds e M Q E
  | _ => False
theorem dgs_len : ∀ {xs : List Expr} {env : PySem.Env}, (assignEach xs env).length = xs.length
  | [], _ => rfl
  | x :: xs, env => by
    have ih := dgs_len (xs := xs) (env := env)
    cases x <;> (show (_ :: assignEach xs env).length = _; rw [List.length_cons, List.length_cons, ih])
theorem dgs_nostar : ∀ {xs : List Expr} {env : PySem.Env}, xs.all (fun x => !isStar x) = true → (assignEach xs env).findIdx? (·.1) = none
  | [], _, _ => rfl
  | x :: xs, env, h => by
    rw [List.all_cons, Bool.and_eq_true] at h
    have ih := dgs_nostar (xs := xs) (env := env) h.2
    have h1 : isStar x = false := by simpa using h.1
    have e : assignEach (x :: xs) env = (false, assign x env) :: assignEach xs env := by cases x <;> first | rfl | cases h1
    rw [e, List.findIdx?_cons, ih]
    rfl
theorem dg_tup {k : Nat} (hc : g.X.calm = true) (h : DGs g xs u ns) (hl : ∀ ds e M Q E, u ds e M Q E → ds.length = xs.length) (hst : xs.all (fun x => !isStar x) = true) : DG g (.Tuple xs k pos) (dgTup u) ns := by
  obtain ⟨u', p, k2⟩ := h.pg
  refine ⟨⟨_, pg_tupQ (n := xs.length) hc p dgs_len (dgs_nostar hst), fun σ H e M v d Q QV sl mr fr i q kk => ?_⟩⟩
  cases d with
  | tup ds =>
    rw [is_tup] at i
    obtain ⟨a, vs, rfl, h1, l⟩ := i
    exact ⟨a, vs, rfl, .inl (SqT.of h1), by rw [l.length]; exact hl _ _ _ _ _ q, k2 σ H e M vs ds Q QV sl mr fr l q kk⟩
  | tx ds =>
    rw [is_tx] at i
    obtain ⟨a, vs, rfl, h1, l⟩ := i
    exact ⟨a, vs, rfl, .inl h1.sq, by rw [l.length]; exact hl _ _ _ _ _ q, k2 σ H e M vs ds Q QV sl mr fr l q kk⟩
  | rl ds =>
    rw [is_rl] at i
    obtain ⟨a, vs, rfl, h1, l⟩ := i
    exact ⟨a, vs, rfl, .inr h1.sq, by rw [l.length]; exact hl _ _ _ _ _ q, k2 σ H e M vs ds Q QV sl mr fr l q kk⟩
  | ref a =>
    rw [is_ref] at i
    subst i
    obtain ⟨ds, h1, q⟩ := q
    obtain ⟨vs, h2, l⟩ := mr a _ h1
    exact ⟨a, vs, rfl, .inr (.inl (.inl h2)), by rw [l.length]; exact hl _ _ _ _ _ q, k2 σ H e M vs ds Q QV sl mr fr l q kk⟩
  | _ => exact q.elim
def dgSub (to ti : DTE) : DTG := fun d e M Q E => to e M (fun o M1 => ti e M1 (fun i M2 => dSet o i d M2 (fun M3 => Q e M3)) E) E
theorem dg_sub {o i : Expr} {to ti : DTE} (hu : g.X.A.units + 1 < cLine) (ho : DE g o to) (hi : DE g i ti)
    (ha : ∀ v, assign (.Subscript o i pos) g.X.env v = (do
      let ov ← holding [v] (eval o g.X.env)
      let iv ← holding [v, ov] (eval i g.X.env)
      standAt pos
      holding [v, ov, iv] (setItem ov iv v)
      release [v, ov, iv] [])) : DG g (.Subscript o i pos) (dgSub to ti) [] := by
  refine ⟨⟨_, pg_sub ho.pe hi.pe (PSet.or set_list (set_dict hu)) ha, fun σ H e M v d Q QV sl mr fr id q kk => ?_⟩⟩
  refine low_start sl mr fr q fun v1 d1 M1 H1 i1 m1 f1 q => ?_
  refine low_start (sl.ext (f1.ext mr)) m1 (fr.trans f1) q fun v2 d2 M2 H2 i2 m2 f2 q => ?_
  have f12 := f1.trans f2
  refine dSet_low m2 (Fr.refl) (Is.ext (f2.ext m1) _ _ i1) i2 (Is.ext (f12.ext mr) _ _ id) q fun M3 H3 m3 f3 q => ?_
  have f13 := f12.trans f3
  exact kk σ H3 e M3 (sl.ext (f13.ext mr)) m3 f13 (fun _ _ => rfl) q
def dAsg (te : DTE) (gt : DTG) : DTS := fun D E e M => te e M (fun x M1 => gt x e M1 D.nx E) E
theorem ds_asg {y : Expr} {te : DTE} (hy : DE g y te) (hg : DG g x t ns) (hst : isStar x = false) (hs : swapsWithSole [x] y pos.line g.X.env = pure false) (hw : swappedStores [x] y g.X.env = pure none) : DS g (.Assign [x] y pos) (dAsg te t) := by
  obtain ⟨t', p, k⟩ := hg.pg
  refine ⟨⟨_, ps_asg hy.pe p hs hw (by rw [assign_cons hst]; rfl), fun P hP σ H e M D DV sl mr hp le q => ?_⟩⟩
  have fr := hP.base _ _ hp
  refine low_start sl mr fr q fun v d M1 H1 i m f q => ?_
  exact k σ H1 e M1 v d _ _ (sl.ext (f.ext mr)) m (fr.trans f) i q fun σ2 H2 e2 M2 sl2 m2 f2 _ q => le.nx _ _ _ _ sl2 m2 (hP.step _ _ _ _ hp (f.trans f2)) q
end
end DL

namespace DL
open PySem PySem.Spec PyProof.Rows L2
open PySem.Sem (wp)
theorem drawsT {prog : Program} {w : World} {A : Around} (hh : A.handled = none) {it t : Addr} {items : Array Value} (hne : t ≠ it) :
    Draws prog w A it [it, t] items.size (fun i v => items[i]? = some v) (fun i h => h.IsTupleIter it t i ∧ h.IsTuple t items) where
  live := fun i h st => let ⟨⟨o, e, _⟩, _⟩ := st; ⟨o, e⟩
  frame := fun i h h' st k => ⟨st.1.at fun o e => k it (by simp) o e, st.2.at fun o e => k t (by simp) o e⟩
  item := fun i s Q E hi st h => by
    have hx : items[i]? = some items[i] := Array.getElem?_eq_getElem hi
    exact RZ.nextOf_tuple_item st.1 st.2 hx fun h' a b => h _ h' s.toks hx ⟨a, st.2.extBut b.extBut hne⟩ b
  done := fun s Q E st h => RZ.nextOf_tuple_end hh st.1 st.2 (by simp) fun h' e x y => h h' e x y
theorem meetsEnumT (t : Addr) (items : Array Value) :
    Meets (Builtin.«enumerate.__new__» ⟨[.type "enumerate", .ref t], []⟩) (fun _ R s => s.heap.IsTuple t items ∧
      R (.ok (.ret (.ref (s.heap.push { cls := .type "tuple_iterator", data := .fields #[.ref t, .int 0 0] }).objs.size)))
        { s with heap := (s.heap.push { cls := .type "tuple_iterator", data := .fields #[.ref t, .int 0 0] }).push { cls := .type "enumerate", data := .fields #[.none, .bool false, .ref s.heap.objs.size, rawInt 0, .none, .none] } }) :=
  .of_wp fun prog w A R s h => by
    obtain ⟨hp, g, d, tk, os⟩ := s; obtain ⟨h1, h⟩ := h
    have hsub := sub_enumerate
    have hL : Heap.IsTuple (Shared.heap ⟨hp, g, d, tk, os⟩) t items := h1
    have q1 : ∀ {A' : Around} {E : Value → Shared → Prop} {Q : Value → Shared → Prop}, Q (.ref hp.objs.size) ⟨hp.push { cls := .type "tuple_iterator", data := .fields #[.ref t, .int 0 0] }, g, d, tk, os⟩ → wpAny (model prog w) A' (pyIter (.ref t)) Q E ⟨hp, g, d, tk, os⟩ :=
      fun q => wpAny_pyIter_tuple hL q
    wp_walk using q1
    refine wpAny_stack_any fun st => wpAny_pure ?_
    split
    · rename_i c _ _ _ _ _
      cases (c == Value.type "enumerate")
      · wp_walk using q1
        exact ⟨_, rfl, h⟩
      · wp_walk using q1
        exact ⟨_, rfl, h⟩
    · wp_walk using q1
      exact ⟨_, rfl, h⟩
section
variable {prog : Program} {w : World} {A : Around} {E : Value → Shared → Prop} {s : Shared}
theorem callEnumT {l : Addr} {items : Array Value} {Q : Value → Shared → Prop} (hL : s.heap.IsTuple l items)
    (h : ∀ h', IsEnum h' (s.heap.objs.size + 1) s.heap.objs.size 0 .none → h'.IsTupleIter s.heap.objs.size l 0 → h'.objs.size = s.heap.objs.size + 2 →
      (∀ b o, s.heap.get? b = some o → h'.get? b = some o) → Q (.ref (s.heap.objs.size + 1)) { s with heap := h' }) :
    wpAny (model prog w) A (call (.type "enumerate") [.ref l]) Q E s := by
  refine callType_new F.called_enumerate (by decide) (F.typeCall_enumerate_1 _) (F.newCall_enumerate_1 _) (fun obj => F.args_object_init_2 obj _) F.entry_enumerate_new
    (meetsEnumT l items) ⟨hL, ?_⟩
  have hz : (s.heap.push { cls := .type "tuple_iterator", data := .fields #[.ref l, .int 0 0] }).objs.size = s.heap.objs.size + 1 := Heap.size_push ..
  show _ ∧ _
  rw [hz]
  have he : IsEnum ((s.heap.push { cls := .type "tuple_iterator", data := .fields #[.ref l, .int 0 0] }).push
      { cls := .type "enumerate", data := .fields #[.none, .bool false, .ref s.heap.objs.size, rawInt 0, .none, .none] }) (s.heap.objs.size + 1) s.heap.objs.size 0 .none := by
    have := Heap.get?_push_size (s.heap.push { cls := .type "tuple_iterator", data := .fields #[.ref l, .int 0 0] })
      (o := { cls := .type "enumerate", data := .fields #[.none, .bool false, .ref s.heap.objs.size, rawInt 0, .none, .none] }) rfl
    rw [hz] at this; exact this
  refine ⟨⟨_, he, rfl⟩, h _ he ⟨_, Heap.get?_push_of_some _ (Heap.get?_push_size _ rfl), rfl, rfl⟩ (by rw [Heap.size_push, hz]) fun b o x => Heap.get?_push_of_some _ (Heap.get?_push_of_some _ x)⟩
end
theorem wpAny_pyNext_enum_end' {prog : Program} {w : World} {A : Around} {E : Value → Shared → Prop} {s : Shared} {e it t : Addr} {i : Nat} {items : Array Value} {c : Int} {old : Value} {Q : Option Value → Shared → Prop} (hh : A.handled = none)
    (he : IsEnum s.heap e it c old) (hit : s.heap.IsTupleIter it t i) (hT0 : s.heap.IsTuple t items) (hl : items.size ≤ i)
    (hQ : ∀ h', Heap.ExtBut it s.heap h' → Q none { s with heap := h' }) : wpAny (model prog w) A (pyNext (.ref e)) Q E s := by
  have hT : s.TypeIs (.ref e) "enumerate" := ⟨_, he, rfl⟩
  unfold pyNext
  refine wpAny_bind (wpAny_attempt (wpAny_callSpecial?_slot (name := Str.ofString "__next__") hT F.slot_enumerate_next
    (wpAny_call_entry F.slot_enumerate_next hT F.entry_enumerate_next ?_ (F.args_enumerate_next_1 _))))
  show wpAny _ _ (field (.ref e) 2 >>= _) _ _ _
  refine wpAny_bind (wpAny_field he rfl (x := .ref it) rfl ?_)
  refine wpAny_bind (RZ.nextOf_tuple_end hh hit hT0 (by simp; omega) fun h' x he' hx' => ?_)
  obtain ⟨o, ho, hc⟩ := hx'
  refine wpAny_bind (wpAny_isInstance (T := "StopIteration") (b := true) ⟨o, ho, hc⟩ isSubtype_stop ?_)
  exact wpAny_pure (hQ _ he')
def ItU (K : PySem.W.Frag) (a : Addr) : It :=
  ⟨fun i H => ∃ (xs : List V) (x : V), SqT K H a xs ∧ xs[i]? = some x, fun i H v H' => ∃ T x, v = .ref T ∧ H T = none ∧ H' = upd H T (.tup [.int (i : Nat), x]) ∧ ∀ xs, SqT K H a xs → xs[i]? = some x, fun i H => ∃ xs : List V, SqT K H a xs ∧ xs.length ≤ i⟩
theorem turnEnumT {P : Program} {w : World} {K : PySem.W.Frag} {elts : List Expr} {kk : Nat} {tpos : Pos} (a e it : Addr) (hai : a ≠ it) (hae : a ≠ e) :
    Turn P w K (.Tuple elts kk tpos) (ItU K a) [e, it] e (fun i h => (∃ old, IsEnum h e it ((i : Nat) : Int) old) ∧ h.IsTupleIter it a i ∧ e ≠ it) where
  mem := by simp
  obj := fun i h st b hb => by
    obtain ⟨⟨old, he⟩, ⟨o, ho, hc, hd⟩, _⟩ := st
    have e' : b = e ∨ b = it := by simpa using hb
    rcases e' with z | z
    · rw [z]; exact ⟨_, he, fun v q => nomatch q⟩
    · rw [z]; exact ⟨o, ho, fun v q => by rw [hd] at q; cases q⟩
  keep := fun i h h' st k => let ⟨⟨old, he⟩, hi, hne⟩ := st; ⟨⟨old, k e (by simp) _ he⟩, hi.at fun o q => k it (by simp) o q, hne⟩
  item := by
    intro X hP hw hK hc i pins s σ H E I hf st hg
    subst hP hw hK
    obtain ⟨⟨old, he⟩, hit, hne⟩ := st
    obtain ⟨xs, x, hq, hx⟩ := hg
    obtain ⟨its, rv, p, hz⟩ := I.tuple hq
    obtain ⟨u, hu, ru⟩ := rv.get hx
    have hel : e < s.heap.objs.size := Heap.lt_size he
    have hil : it < s.heap.objs.size := by obtain ⟨_, q, _⟩ := hit; exact Heap.lt_size q
    have hT0 : s.heap.IsTuple a its.toArray := p
    have hlt : i < its.toArray.size := by
      have := List.getElem?_eq_some_iff.mp hu
      obtain ⟨h, _⟩ := this
      simpa using h
    refine wpAny_pyNext_enum_itemD (drawsT (prog := X.prog) (w := X.w) (A := X.A.in1) (it := it) (t := a) (items := its.toArray) (show X.A.in1.handled = none from I.ok.hd hc) hai) he ⟨hit, hT0⟩ hlt hne (by simp [hne, hae.symm]) fun y h' tk hy ho st' hT hsz hk => ?_
    have ey : y = u := by
      have h2 : its.toArray[i]? = some u := by simpa using hu
      rw [h2] at hy
      exact (Option.some.inj hy).symm
    subst ey
    refine ⟨_, rfl, wpAny_letOwnedTupleGo_enum (s := { s with heap := h', toks := tk + 1 }) ho fun h'' he' sb => ?_⟩
    have hT2 : h''.get? s.heap.objs.size = some { cls := .type "tuple", data := .seq #[.int i tk, y] } := (sb.2 _ (Nat.ne_of_gt hel)).trans hT
    have new : ObjOk X.prog X.w (upd H s.heap.objs.size (.tup [.int (i : Nat), x])) h'' s.heap.objs.size (.tup [.int (i : Nat), x]) :=
      ⟨by show 2 ≤ sizeLine; decide, [.int i tk, y], .cons ⟨_, rfl⟩ (.cons ru .nil), ⟨_, hT2, rfl, _, rfl⟩⟩
    have I1 : Inv X pins σ (upd H s.heap.objs.size (.tup [.int (i : Nat), x])) { s with heap := h'', toks := tk + 1 } :=
      I.turnedNew (ch := [e, it]) (fun b ob hb q => (sb.2 b (fun z => hb (by simp [z]))).trans (hk b ob (fun z => hb (by simp [z])) (fun z => hb (by simp [z])) q)) hf (Nat.le_refl _) new
    refine ⟨.ref s.heap.objs.size, _, I1, rfl, ⟨_, x, rfl, I.hok.fresh (Nat.le_refl _), rfl, fun ys hy => by rw [I.tuple_inj hy hq]; exact hx⟩, ⟨⟨y, ?_⟩, st'.1.at fun o q => (sb.2 it (Ne.symm hne)).trans q, hne⟩, fun b hb => ?_⟩
    · have e1 : ((i + 1 : Nat) : Int) = (i : Int) + 1 := by omega
      rw [e1]; exact he'
    · have hb' : b < s.heap.objs.size := by
        have e' : b = e ∨ b = it := by simpa using hb
        rcases e' with z | z
        · rw [z]; exact hel
        · rw [z]; exact hil
      rw [upd_ne (Nat.ne_of_lt hb')]
      exact (hf b hb).1
  done := by
    intro X hP hw hK hc i pins s σ H E I hf st hg
    subst hP hw hK
    obtain ⟨⟨old, he⟩, hit, hne⟩ := st
    obtain ⟨xs, hq, hx⟩ := hg
    obtain ⟨its, rv, p, hz⟩ := I.tuple hq
    obtain ⟨f0, f1, f2, f3, f4, f5⟩ := hf it (by simp)
    have hl := rv.length
    have hT0 : s.heap.IsTuple a its.toArray := p
    refine wpAny_pyNext_enum_end' (I.ok.hd hc) he hit hT0 (by simp; omega) fun h' eb => ⟨rfl, I.turned (t' := s.toks) (fun b o hb q => eb b o hb q) f0 f1 f3 f4 f5⟩
  self := fun A i s Q E st h => let ⟨⟨_, he⟩, _⟩ := st; wpAny_pyIter_enum he h
def iEnumT (K : PySem.W.Frag) (ta : TA) : TI := fun σ H R => ta σ H fun vs H1 => ∃ a xs, vs = [.ref a] ∧ ((SqL K H1 a xs ∧ R (Ite K a) H1) ∨ (SqT K H1 a xs ∧ R (ItU K a) H1))
theorem piEnumT {X : Cx} {e : Expr} {ta : TA} {p pos tpos : Pos} {elts : List Expr} {kk : Nat} (hg : Gl X "enumerate") (hm : X.mg "enumerate" = none) (ha : PA X [e] ta) (hs : starEach [e] X.env = [(false, eval e X.env)] := by rfl) :
    PI X (.Tuple elts kk tpos) (.Call (.Name "enumerate" p) [e] [] pos) (iEnumT X.K ta) := by
  refine ⟨fun pins s σ H R I h => ?_⟩
  refine Call_ (ld_blt I hg hm boot_enumerate (PyProof.Rows.callWith_type1 (thn (ha.run pos pins s σ H _ I h) fun us s1 ⟨vs, H1, I1, r1, q1⟩ => ?_) hs rfl))
  obtain ⟨a, xs, ex, q⟩ := q1
  subst ex
  have fpo : ∀ b ∈ [s1.heap.objs.size + 1, s1.heap.objs.size], s1.heap.objs.size ≤ b := fun b hb => by
    have e' : b = s1.heap.objs.size + 1 ∨ b = s1.heap.objs.size := by simpa using hb
    rcases e' with z | z
    · rw [z]; exact Nat.le_add_right _ _
    · rw [z]; exact Nat.le_refl _
  cases r1 with
  | cons r rr =>
    cases rr
    cases r
    rcases q with ⟨hq, q⟩ | ⟨hq, q⟩
    · obtain ⟨its, rv, p', hz⟩ := I1.list hq
      refine call_enumerate_list p'.isList fun h' he hit hsz hk => wpAny_pyIter_enum he ?_
      have I2 : Inv X pins σ H1 { s1 with heap := h' } := I1.kept (t' := s1.toks) hk
      exact ⟨s1.heap.objs.size + 1, [s1.heap.objs.size + 1, s1.heap.objs.size], _, _, H1, rfl, I2, turn_enum a (s1.heap.objs.size + 1) s1.heap.objs.size, ⟨⟨.none, he⟩, hit, Nat.succ_ne_self _⟩, fun b hb => I1.fpOk (fpo b hb) (I1.hok.fresh (fpo b hb)), q⟩
    · obtain ⟨its, rv, p', hz⟩ := I1.tuple hq
      have hT0 : s1.heap.IsTuple a its.toArray := p'
      have ha : a < s1.heap.objs.size := by obtain ⟨_, z, _⟩ := hT0; exact Heap.lt_size z
      refine callEnumT hT0 fun h' he hit hsz hk => wpAny_pyIter_enum he ?_
      have I2 : Inv X pins σ H1 { s1 with heap := h' } := I1.kept (t' := s1.toks) hk
      exact ⟨s1.heap.objs.size + 1, [s1.heap.objs.size + 1, s1.heap.objs.size], _, _, H1, rfl, I2, turnEnumT a (s1.heap.objs.size + 1) s1.heap.objs.size (Nat.ne_of_lt ha) (Nat.ne_of_lt (Nat.lt_succ_of_lt ha)), ⟨⟨.none, he⟩, hit, Nat.succ_ne_self _⟩, fun b hb => I1.fpOk (fpo b hb) (I1.hok.fresh (fpo b hb)), q⟩
end DL

namespace DL
open PySem PySem.Spec PyProof.Rows L2
structure Src where
  items : List D
  live : Mem → Prop
abbrev DTI := Sl → Mem → (Src → Mem → Prop) → EX → Prop
def JRel (K : PySem.W.Frag) (H1 : Hp) (J : It) (src : Src) : Prop :=
  ∀ (i : Nat) (M : Mem) (H : Hp), MRel K M H → Ext K H1 H → src.live M →
    (∀ d, src.items[i]? = some d → J.go i H ∧ ∀ x H', J.yld i H x H' → Is K H' d x ∧ MRel K M H' ∧ Fr M H M H') ∧ (src.items.length ≤ i → J.stop i H)
structure DI (g : Gd) (tg x : Expr) (w : DTI) : Prop where
  pi : ∃ w' : TI, PI g.X tg x w' ∧ ∀ σ H e M R (RV : It → Hp → Prop), SRel g.X.K H e σ → MRel g.X.K M H → Fr g.M0 g.H0 M H → w e M R g.E →
    (∀ J src M1 H1, JRel g.X.K H1 J src → MRel g.X.K M1 H1 → Fr M H M1 H1 → R src M1 → RV J H1) → w' σ H RV
section
variable {K : PySem.W.Frag} {H1 : Hp}
theorem jrel_of {J : It} {src : Src} {f : Hp → List V → Prop} (hl : ∀ M H, MRel K M H → Ext K H1 H → src.live M → ∃ vs, f H vs ∧ IsL K H src.items vs)
    (go : ∀ i H vs x, f H vs → vs[i]? = some x → J.go i H ∧ ∀ y H', J.yld i H y H' → H' = H ∧ y = x) (stop : ∀ i H vs, f H vs → vs.length ≤ i → J.stop i H) : JRel K H1 J src := fun i M H m fr lv => by
  obtain ⟨vs, h, l⟩ := hl M H m fr lv
  refine ⟨fun d e => ?_, fun e => stop i H vs h (by rw [l.length]; exact e)⟩
  obtain ⟨v, e1, i1⟩ := l.get e
  obtain ⟨g1, g2⟩ := go i H vs v h e1
  refine ⟨g1, fun x H' y => ?_⟩
  obtain ⟨rfl, rfl⟩ := g2 x H' y
  exact ⟨i1, m, Fr.refl⟩
theorem jrel_list {a : Addr} {ds : List D} {P : Mem → Prop} (hl : ∀ M H, MRel K M H → Ext K H1 H → P M → ∃ vs, SqL K H a vs ∧ IsL K H ds vs) : JRel K H1 (Itl K a) ⟨ds, P⟩ :=
  jrel_of (f := fun H vs => SqL K H a vs) hl (fun i H vs x h e => ⟨⟨vs, x, h, e⟩, fun y H' q => ⟨q.1, Option.some.inj ((q.2 vs h).symm.trans e)⟩⟩) fun i H vs h e => ⟨vs, h, e⟩
theorem jrel_tup {a : Addr} {ds : List D} (hl : ∀ M H, MRel K M H → Ext K H1 H → ∃ vs, SqT K H a vs ∧ IsL K H ds vs) : JRel K H1 (Itt K a) ⟨ds, fun _ => True⟩ :=
  jrel_of (f := fun H vs => SqT K H a vs) (fun M H m f _ => hl M H m f) (fun i H vs x h e => ⟨⟨vs, x, h, e⟩, fun y H' q => ⟨q.1, Option.some.inj ((q.2 vs h).symm.trans e)⟩⟩) fun i H vs h e => ⟨vs, h, e⟩
def signs (x : Str) : List D := x.cps.toList.map fun c => D.str ⟨#[c]⟩
theorem isL_map {α : Type} {f : α → D} {h : α → V} {H : Hp} (q : ∀ a, Is K H (f a) (h a)) : ∀ xs : List α, IsL K H (xs.map f) (xs.map h)
  | [] => isL_nil.mpr rfl
  | a :: xs => IsL.mk (q a) (isL_map q xs)
theorem jrel_str {x : Str} : JRel K H1 (Its x) ⟨signs x, fun _ => True⟩ := by
  refine jrel_of (f := fun H vs => vs = x.cps.toList.map fun c => V.str ⟨#[c]⟩) (fun M H m f _ => ⟨_, rfl, isL_map (fun _ => ii_str) _⟩) (fun i H vs y h e => ?_) fun i H vs h e => ?_
  · subst h
    rw [List.getElem?_map] at e
    cases q : x.cps.toList[i]? with
    | none => rw [q] at e; cases e
    | some c =>
      rw [q] at e
      cases e
      have q' : x.cps[i]? = some c := by rw [← q, Array.getElem?_toList]
      refine ⟨(Array.getElem?_eq_some_iff.mp q').1, fun z H' w => ?_⟩
      obtain ⟨w1, c', w2, w3⟩ := w
      rw [q'] at w2
      cases w2
      exact ⟨w1, w3⟩
  · subst h
    rw [List.length_map] at e
    show x.cps.size ≤ i
    simpa using e
def rng (lo : Int) (n : Nat) : List D := (List.range n).map fun i : Nat => D.int (lo + (i : Int))
theorem jrel_range {lo : Int} {n : Nat} : JRel K H1 (Itr lo n) ⟨rng lo n, fun _ => True⟩ := by
  refine jrel_of (f := fun H vs => vs = (List.range n).map fun i : Nat => V.int (lo + (i : Int))) (fun M H m f _ => ⟨_, rfl, isL_map (fun _ => ii_int) _⟩) (fun i H vs y h e => ?_) fun i H vs h e => ?_
  · subst h
    rw [List.getElem?_map] at e
    by_cases hi : i < n
    · rw [List.getElem?_range hi] at e
      cases e
      exact ⟨hi, fun z H' w => w⟩
    · rw [List.getElem?_eq_none (by rw [List.length_range]; omega)] at e
      cases e
  · subst h
    rw [List.length_map, List.length_range] at e
    exact e
theorem jrel_new {J : It} {src : Src} {f : Hp → List (List V) → Prop} {ts : List (List D)} (hs : src.items = ts.map D.tup)
    (hl : ∀ M H, MRel K M H → Ext K H1 H → src.live M → ∃ vss : List (List V), f H vss ∧ vss.length = ts.length ∧ ∀ (i : Nat) (t : List D), ts[i]? = some t → ∃ vs : List V, vss[i]? = some vs ∧ IsL K H t vs)
    (go : ∀ i H vss vs, f H vss → vss[i]? = some vs → J.go i H ∧ ∀ y H', J.yld i H y H' → ∃ T, y = .ref T ∧ H T = none ∧ H' = upd H T (.tup vs)) (stop : ∀ i H vss, f H vss → vss.length ≤ i → J.stop i H) : JRel K H1 J src := fun i M H m fr lv => by
  obtain ⟨vss, h, hn, l⟩ := hl M H m fr lv
  rw [hs]
  refine ⟨fun d e => ?_, fun e => stop i H vss h (by rw [hn]; simpa using e)⟩
  rw [List.getElem?_map] at e
  cases q : ts[i]? with
  | none => rw [q] at e; cases e
  | some t =>
    rw [q] at e
    cases e
    obtain ⟨vs, e1, il⟩ := l i t q
    obtain ⟨g1, g2⟩ := go i H vss vs h e1
    refine ⟨g1, fun x H' y => ?_⟩
    obtain ⟨T, rfl, hT, rfl⟩ := g2 x H' y
    exact ⟨ii_tup upd_same (IsL.ext ((fr_new m hT).ext m) _ _ il), mr_new m hT, fr_new m hT⟩
def enumD (ds : List D) : List (List D) := (List.range ds.length).map fun i => [.int (i : Nat), ds.getD i .non]
theorem jrel_enum {a : Addr} {ds : List D} {P : Mem → Prop} (hl : ∀ M H, MRel K M H → Ext K H1 H → P M → ∃ vs, SqL K H a vs ∧ IsL K H ds vs) : JRel K H1 (Ite K a) ⟨(enumD ds).map D.tup, P⟩ := by
  refine jrel_new (ts := enumD ds) (f := fun H vss => ∃ vs, SqL K H a vs ∧ vss = (List.range vs.length).map fun i => [V.int (i : Nat), vs.getD i .non]) rfl (fun M H m f p => ?_) (fun i H vss ws h e => ?_) fun i H vss h e => ?_
  · obtain ⟨vs, h, l⟩ := hl M H m f p
    refine ⟨_, ⟨vs, h, rfl⟩, by simp [enumD, l.length], fun i t e => ?_⟩
    unfold enumD at e
    rw [List.getElem?_map] at e
    by_cases hi : i < ds.length
    · rw [List.getElem?_range hi] at e
      cases e
      have hi' : i < vs.length := by rw [l.length]; exact hi
      refine ⟨[.int (i : Nat), vs.getD i .non], by rw [List.getElem?_map, List.getElem?_range hi']; rfl, IsL.mk ii_int (IsL.mk ?_ (isL_nil.mpr rfl))⟩
      obtain ⟨v, e1, i1⟩ := l.get (List.getElem?_eq_getElem hi)
      rw [List.getD_eq_getElem?_getD, List.getD_eq_getElem?_getD, e1, List.getElem?_eq_getElem hi]
      exact i1
    · rw [List.getElem?_eq_none (by rw [List.length_range]; omega)] at e
      cases e
  · obtain ⟨vs, h, rfl⟩ := h
    rw [List.getElem?_map] at e
    by_cases hi : i < vs.length
    · rw [List.getElem?_range hi] at e
      cases e
      refine ⟨⟨vs, vs[i], h, List.getElem?_eq_getElem hi⟩, fun y H' q => ?_⟩
      obtain ⟨T, x, h1, h2, h3, h4⟩ := q
      refine ⟨T, h1, h2, ?_⟩
      have e5 : vs.getD i .non = x := by rw [List.getD_eq_getElem?_getD, h4 vs h]; rfl
      rw [h3]
      show _ = upd H T (HO.tup [V.int (i : Nat), vs.getD i .non])
      rw [e5]
    · rw [List.getElem?_eq_none (by rw [List.length_range]; omega)] at e
      cases e
  · obtain ⟨vs, h, rfl⟩ := h
    exact ⟨vs, h, by simpa using e⟩
theorem jrel_enumT {a : Addr} {ds : List D} {P : Mem → Prop} (hl : ∀ M H, MRel K M H → Ext K H1 H → P M → ∃ vs, SqT K H a vs ∧ IsL K H ds vs) : JRel K H1 (ItU K a) ⟨(enumD ds).map D.tup, P⟩ := by
  refine jrel_new (ts := enumD ds) (f := fun H vss => ∃ vs, SqT K H a vs ∧ vss = (List.range vs.length).map fun i => [V.int (i : Nat), vs.getD i .non]) rfl (fun M H m f p => ?_) (fun i H vss ws h e => ?_) fun i H vss h e => ?_
  · obtain ⟨vs, h, l⟩ := hl M H m f p
    refine ⟨_, ⟨vs, h, rfl⟩, by simp [enumD, l.length], fun i t e => ?_⟩
    unfold enumD at e
    rw [List.getElem?_map] at e
    by_cases hi : i < ds.length
    · rw [List.getElem?_range hi] at e
      cases e
      have hi' : i < vs.length := by rw [l.length]; exact hi
      refine ⟨[.int (i : Nat), vs.getD i .non], by rw [List.getElem?_map, List.getElem?_range hi']; rfl, IsL.mk ii_int (IsL.mk ?_ (isL_nil.mpr rfl))⟩
      obtain ⟨v, e1, i1⟩ := l.get (List.getElem?_eq_getElem hi)
      rw [List.getD_eq_getElem?_getD, List.getD_eq_getElem?_getD, e1, List.getElem?_eq_getElem hi]
      exact i1
    · rw [List.getElem?_eq_none (by rw [List.length_range]; omega)] at e
      cases e
  · obtain ⟨vs, h, rfl⟩ := h
    rw [List.getElem?_map] at e
    by_cases hi : i < vs.length
    · rw [List.getElem?_range hi] at e
      cases e
      refine ⟨⟨vs, vs[i], h, List.getElem?_eq_getElem hi⟩, fun y H' q => ?_⟩
      obtain ⟨T, x, h1, h2, h3, h4⟩ := q
      refine ⟨T, h1, h2, ?_⟩
      have e5 : vs.getD i .non = x := by rw [List.getD_eq_getElem?_getD, h4 vs h]; rfl
      rw [h3]
      show _ = upd H T (HO.tup [V.int (i : Nat), vs.getD i .non])
      rw [e5]
    · rw [List.getElem?_eq_none (by rw [List.length_range]; omega)] at e
      cases e
  · obtain ⟨vs, h, rfl⟩ := h
    exact ⟨vs, h, by simpa using e⟩
end
def keyV : Key → D
  | .inl i => .int i
  | .inr s => .str s
theorem ii_keyV {K : PySem.W.Frag} {H : Hp} (k : Key) : Is K H (keyV k) (kV k) := by
  cases k with
  | inl i => exact ii_int
  | inr s => exact ii_str
theorem jrel_keys {K : PySem.W.Frag} {H1 : Hp} {a : Addr} {o : Obj} {kvs : List (Key × V)} {P : Mem → Prop} (hl : ∀ M H, MRel K M H → Ext K H1 H → P M → H a = some (.frz o (.dK kvs))) : JRel K H1 (Itk a o kvs) ⟨kvs.map fun p => keyV p.1, P⟩ :=
  jrel_of (f := fun H vs => H a = some (.frz o (.dK kvs)) ∧ vs = kvs.map fun p => kV p.1) (fun M H m f p => ⟨_, ⟨hl M H m f p, rfl⟩, isL_map (fun p => ii_keyV p.1) kvs⟩)
    (fun i H vs x h e => by
      obtain ⟨h, rfl⟩ := h
      rw [List.getElem?_map] at e
      cases q : kvs[i]? with
      | none => rw [q] at e; cases e
      | some p =>
        rw [q] at e
        cases e
        obtain ⟨hi, _⟩ := List.getElem?_eq_some_iff.mp q
        refine ⟨⟨h, hi⟩, fun y H' z => ?_⟩
        obtain ⟨rfl, k, v, e1, rfl⟩ := z
        rw [q] at e1
        cases e1
        exact ⟨rfl, rfl⟩)
    fun i H vs h e => ⟨h.1, by obtain ⟨_, rfl⟩ := h; simpa using e⟩
def wAny (K : PySem.W.Frag) (te : TE) : TI := fun σ H R => te σ H fun v H1 => (∃ x, v = .str x ∧ R (Its x) H1) ∨ (∃ a xs, v = .ref a ∧ SqT K H1 a xs ∧ R (Itt K a) H1) ∨ (∃ a xs, v = .ref a ∧ SqL K H1 a xs ∧ R (Itl K a) H1) ∨ ∃ a o kvs, v = .ref a ∧ H1 a = some (.frz o (.dK kvs)) ∧ R (Itk a o kvs) H1
theorem pi_any {X : Cx} {tg x : Expr} {te : TE} (he : PE X x te) : PI X tg x (wAny X.K te) := ⟨fun pins s σ H R I h => thn (he.run pins s σ H _ I h) fun v s1 z => by
  obtain ⟨y, H1, J, r, q⟩ := z
  rcases q with ⟨z, rfl, q⟩ | ⟨a, vs, rfl, hs, q⟩ | ⟨a, vs, rfl, hs, q⟩ | ⟨a, o, kvs, rfl, hd, q⟩
  · obtain ⟨t, rfl⟩ := r
    cases ha : z.cps.all (· < 128) with
    | false => exact wpAny_pyIter_wide ha (pi_one (tk := s1.toks) J _ (turn_str _ z t _ (.inr rfl)) ⟨_, Heap.get?_push_size _ rfl, rfl, rfl⟩ q)
    | true => exact wpAny_pyIter_ascii ha (pi_one (tk := s1.toks) J _ (turn_str _ z t _ (.inl rfl)) ⟨_, Heap.get?_push_size _ rfl, rfl, rfl⟩ q)
  · cases r
    obtain ⟨its, rv, p, hz⟩ := J.tuple hs
    exact wpAny_pyIter_tuple (items := its.toArray) p (pi_one (tk := s1.toks) J _ (turn_tuple a _) ⟨_, Heap.get?_push_size _ rfl, rfl, rfl⟩ q)
  · cases r
    obtain ⟨its, rv, p, hz⟩ := J.list hs
    exact wpAny_pyIter_list p.isList (pi_one (tk := s1.toks) J _ (turn_list a _) ⟨_, Heap.get?_push_size _ rfl, rfl, rfl⟩ q)
  · cases r
    obtain ⟨hs, hgd, hx, es, ep, vs, hdt, hsz, kv, hm⟩ := J.frzK hd
    refine iter_keys hs hgd hx hdt (pi_one (tk := s1.toks) J _ (turn_keys _ hdt) ⟨_, Heap.get?_push_size _ rfl, rfl, ?_⟩ q)
    rw [hsz] <;> rfl⟩
def walkD (d : D) (M : Mem) (R : Src → Mem → Prop) : Prop := match d with
  | .str x => R ⟨signs x, fun _ => True⟩ M
  | .tup ds => R ⟨ds, fun _ => True⟩ M
  | .rl ds => R ⟨ds, fun _ => True⟩ M
  | .tx ds => R ⟨ds, fun _ => True⟩ M
  | .rk ks _ => R ⟨ks.map keyV, fun _ => True⟩ M
  | .ref a => ∃ ds, M a = some (.lst ds) ∧ R ⟨ds, fun M' => M' a = some (.lst ds)⟩ M
  | _ => False
def diAny (t : DTE) : DTI := fun e M R E => t e M (fun x M1 => walkD x M1 R) E
section
variable {g : Gd} {tg x : Expr} {t : DTE}
theorem di_any (h : DE g x t) : DI g tg x (diAny t) := by
  refine ⟨⟨_, pi_any h.pe, fun σ H e M R RV sl mr fr q k => ?_⟩⟩
  refine low_start sl mr fr q fun v d M1 H1 i m f q => ?_
  cases d with
  | str z => rw [is_str] at i; exact .inl ⟨z, i, k _ _ M1 H1 jrel_str m f q⟩
  | tup ds =>
    rw [is_tup] at i
    obtain ⟨a, vs, rfl, h1, l⟩ := i
    refine .inr (.inl ⟨a, vs, rfl, SqT.of h1, k _ _ M1 H1 (jrel_tup fun M' H' m' f' => ⟨vs, ?_, IsL.ext f' _ _ l⟩) m f q⟩)
    exact SqT.of (f'.1 _ _ h1)
  | rl ds =>
    rw [is_rl] at i
    obtain ⟨a, vs, rfl, h1, l⟩ := i
    refine .inr (.inr (.inl ⟨a, vs, rfl, h1.sq, k _ _ M1 H1 (jrel_list fun M' H' m' f' _ => ⟨vs, ?_, IsL.ext f' _ _ l⟩) m f q⟩))
    exact (f'.2.1 _ _ h1).sq
  | tx ds =>
    rw [is_tx] at i
    obtain ⟨a, vs, rfl, h1, l⟩ := i
    refine .inr (.inl ⟨a, vs, rfl, h1.sq, k _ _ M1 H1 (jrel_tup fun M' H' m' f' => ⟨vs, ?_, IsL.ext f' _ _ l⟩) m f q⟩)
    exact (f'.2.2.1 _ _ h1).sq
  | ref a =>
    rw [is_ref] at i
    subst i
    obtain ⟨ds, h1, q⟩ := q
    obtain ⟨vs, e1, l⟩ := m a _ h1
    refine .inr (.inr (.inl ⟨a, vs, rfl, SqL.of e1, k _ _ M1 H1 (jrel_list fun M' H' m' f' p => ?_) m f q⟩))
    obtain ⟨ws, e2, l2⟩ := m' a _ p
    exact ⟨ws, SqL.of e2, l2⟩
  | rk ks ds =>
    rw [is_rk] at i
    obtain ⟨a, ws, rfl, ⟨o, h1⟩, rfl, l⟩ := i
    refine .inr (.inr (.inr ⟨a, o, ws, rfl, h1, k _ _ M1 H1 ?_ m f q⟩))
    have := jrel_keys (K := g.X.K) (H1 := H1) (a := a) (o := o) (kvs := ws) (P := fun _ => True) fun M' H' m' f' _ => f'.2.2.2 _ _ _ h1
    rw [List.map_map]
    exact this
  | _ => exact q.elim
def diRng1 (r : DTA) : DTI := fun e M R E => r e M (fun ds M1 => match ds with | [.int j] => (-(2 ^ 62) ≤ j ∧ j < 2 ^ 62) ∧ R ⟨rng 0 j.toNat, fun _ => True⟩ M1 | _ => False) E
def diRng2 (r : DTA) : DTI := fun e M R E => r e M (fun ds M1 => match ds with | [.int i, .int j] => (-(2 ^ 62) ≤ i ∧ i < 2 ^ 62 ∧ -(2 ^ 62) ≤ j ∧ j < 2 ^ 62) ∧ R ⟨rng i (j - i).toNat, fun _ => True⟩ M1 | _ => False) E
theorem di_range1 {p pos : Pos} {r : DTA} (hg : Gl g.X "range") (hm : g.X.mg "range" = none) (h : DA g [x] r) (ns : isStar x = false) : DI g tg (.Call (.Name "range" p) [x] [] pos) (diRng1 r) := by
  obtain ⟨ta, pa, ka⟩ := h.pa
  refine ⟨⟨_, pi_range1 hg hm pa (star_cons ns), fun σ H e M R RV sl mr fr q k => ?_⟩⟩
  refine ka σ H e M _ _ sl mr fr q fun ds vs M1 H1 l m f q => ?_
  match ds, q with
  | [.int j], q =>
    rw [isL_cons] at l
    obtain ⟨v, rv, rfl, i, l⟩ := l
    rw [isL_nil] at l
    rw [is_int] at i
    subst l i
    exact ⟨j, rfl, q.1.1, q.1.2, k _ _ M1 H1 jrel_range m f q.2⟩
theorem di_range2 {y : Expr} {p pos : Pos} {r : DTA} (hg : Gl g.X "range") (hm : g.X.mg "range" = none) (h : DA g [x, y] r) (ns : isStar x = false) (ns2 : isStar y = false) : DI g tg (.Call (.Name "range" p) [x, y] [] pos) (diRng2 r) := by
  obtain ⟨ta, pa, ka⟩ := h.pa
  refine ⟨⟨_, pi_range2 hg hm pa (by rw [star_cons ns, star_cons ns2]; rfl) (star_cons ns2), fun σ H e M R RV sl mr fr q k => ?_⟩⟩
  refine ka σ H e M _ _ sl mr fr q fun ds vs M1 H1 l m f q => ?_
  match ds, q with
  | [.int i0, .int j], q =>
    rw [isL_cons] at l
    obtain ⟨v, rv, rfl, i, l⟩ := l
    rw [isL_cons] at l
    obtain ⟨v', rv', rfl, i', l⟩ := l
    rw [isL_nil] at l
    rw [is_int] at i i'
    subst l i i'
    exact ⟨i0, j, rfl, q.1, k _ _ M1 H1 jrel_range m f q.2⟩
def diEnum (r : DTA) : DTI := fun e M R E => r e M (fun ds M1 => match ds with
  | [.ref a] => ∃ xs, M1 a = some (.lst xs) ∧ R ⟨(enumD xs).map D.tup, fun M' => M' a = some (.lst xs)⟩ M1
  | [.rl xs] => R ⟨(enumD xs).map D.tup, fun _ => True⟩ M1
  | [.tup xs] => R ⟨(enumD xs).map D.tup, fun _ => True⟩ M1
  | [.tx xs] => R ⟨(enumD xs).map D.tup, fun _ => True⟩ M1
  | _ => False) E
theorem di_enum {elts : List Expr} {kk : Nat} {p pos tpos : Pos} {r : DTA} (hg : Gl g.X "enumerate") (hm : g.X.mg "enumerate" = none) (h : DA g [x] r) (ns : isStar x = false) : DI g (.Tuple elts kk tpos) (.Call (.Name "enumerate" p) [x] [] pos) (diEnum r) := by
  obtain ⟨ta, pa, ka⟩ := h.pa
  refine ⟨⟨_, piEnumT hg hm pa (star_cons ns), fun σ H e M R RV sl mr fr q k => ?_⟩⟩
  refine ka σ H e M _ _ sl mr fr q fun ds vs M1 H1 l m f q => ?_
  match ds, q with
  | [.ref a], q =>
    rw [isL_cons] at l
    obtain ⟨v, rv, rfl, i, l⟩ := l
    rw [isL_nil] at l
    rw [is_ref] at i
    subst l i
    obtain ⟨xs, h1, q⟩ := q
    obtain ⟨ws, e1, l1⟩ := m a _ h1
    refine ⟨a, ws, rfl, .inl ⟨SqL.of e1, k _ _ M1 H1 (jrel_enum fun M' H' m' f' p => ?_) m f q⟩⟩
    obtain ⟨ws', e2, l2⟩ := m' a _ p
    exact ⟨ws', SqL.of e2, l2⟩
  | [.rl xs], q =>
    rw [isL_cons] at l
    obtain ⟨v, rv, rfl, i, l⟩ := l
    rw [isL_nil] at l
    rw [is_rl] at i
    obtain ⟨a, ws, rfl, h1, l1⟩ := i
    subst l
    exact ⟨a, ws, rfl, .inl ⟨h1.sq, k _ _ M1 H1 (jrel_enum (P := fun _ => True) fun M' H' m' f' _ => ⟨ws, (f'.2.1 _ _ h1).sq, IsL.ext f' _ _ l1⟩) m f q⟩⟩
  | [.tup xs], q =>
    rw [isL_cons] at l
    obtain ⟨v, rv, rfl, i, l⟩ := l
    rw [isL_nil] at l
    rw [is_tup] at i
    obtain ⟨a, ws, rfl, h1, l1⟩ := i
    subst l
    exact ⟨a, ws, rfl, .inr ⟨SqT.of h1, k _ _ M1 H1 (jrel_enumT (P := fun _ => True) fun M' H' m' f' _ => ⟨ws, SqT.of (f'.1 _ _ h1), IsL.ext f' _ _ l1⟩) m f q⟩⟩
  | [.tx xs], q =>
    rw [isL_cons] at l
    obtain ⟨v, rv, rfl, i, l⟩ := l
    rw [isL_nil] at l
    rw [is_tx] at i
    obtain ⟨a, ws, rfl, h1, l1⟩ := i
    subst l
    exact ⟨a, ws, rfl, .inr ⟨h1.sq, k _ _ M1 H1 (jrel_enumT (P := fun _ => True) fun M' H' m' f' _ => ⟨ws, (f'.2.2.1 _ _ h1).sq, IsL.ext f' _ _ l1⟩) m f q⟩⟩
end
def dFor (w : DTI) (gt : DTG) (tb : DTS) : DTS := fun D E e M => w e M (fun src M1 => ∃ W : Nat → Sl → Mem → Prop, W 0 e M1 ∧
  (∀ i d e' M', src.items[i]? = some d → W i e' M' → src.live M' ∧ gt d e' M' (fun e2 M2 => tb ⟨W (i + 1), D.rt, D.nx, W (i + 1)⟩ E e2 M2) E) ∧
  ∀ e' M', W src.items.length e' M' → src.live M' ∧ D.nx e' M') E
theorem ds_for {g : Gd} {tg iter : Expr} {body : List Stmt} {w : DTI} {gt : DTG} {tb : DTS} {ns : List Nat} {pos : Pos} (hp : PassesOwn (model g.X.prog g.X.w) g.X.A g.X.env g.X.xe) (hc : g.X.calm = true) (hi : DI g tg iter w) (hg : DG g tg gt ns) (hb : DSs g body tb)
    (hs : ∀ x, foldedSetIterable iter g.X.env x = pure x) : DS g (.For tg iter body [] pos) (dFor w gt tb) := by
  obtain ⟨w', pi, ki⟩ := hi.pi
  obtain ⟨g', pg, kg⟩ := hg.pg
  obtain ⟨b', pb, kb⟩ := hb.ps
  refine ⟨⟨_, ps_for hp hc pi pg pb hs, fun P hP σ H e M D DV sl mr pm le q => ?_⟩⟩
  have fr := hP.base _ _ pm
  refine ki σ H e M _ _ sl mr fr q fun J src M1 H1 jr m1 f1 q => ?_
  obtain ⟨W, h0, turn, last⟩ := q
  have fr1 := fr.trans f1
  have pm1 := hP.step _ _ _ _ pm f1
  refine ⟨fun i n σ' H' => i + n = src.items.length ∧ ∃ e' M', SRel g.X.K H' e' σ' ∧ MRel g.X.K M' H' ∧ (P M' H' ∧ Fr M1 H1 M' H') ∧ W i e' M', ⟨src.items.length, by omega, e, M1, sl.ext (f1.ext mr), m1, ⟨pm1, Fr.refl⟩, h0⟩, fun i n σ' H' hw => ?_⟩
  obtain ⟨hn, e', M', sl', m', ⟨p', f'⟩, hw⟩ := hw
  cases n with
  | zero =>
    have hi : i = src.items.length := by omega
    subst hi
    obtain ⟨lv, q⟩ := last e' M' hw
    exact .inl ⟨(jr _ M' H' m' (f'.ext m1) lv).2 (Nat.le_refl _), le.nx _ _ _ _ sl' m' p' q⟩
  | succ n =>
    have hi : i < src.items.length := by omega
    have hd := List.getElem?_eq_getElem hi
    obtain ⟨lv, q⟩ := turn i _ e' M' hd hw
    obtain ⟨go, yl⟩ := (jr i M' H' m' (f'.ext m1) lv).1 _ hd
    refine .inr ⟨go, fun σ2 H2 => ∃ e2 M2, SRel g.X.K H2 e2 σ2 ∧ MRel g.X.K M2 H2 ∧ (P M2 H2 ∧ Fr M1 H1 M2 H2) ∧ W (i + 1) e2 M2, fun σ2 H2 z => ⟨n, by omega, by omega, z⟩, fun x H2 y => ?_⟩
    obtain ⟨ix, m2, f2⟩ := yl x H2 y
    refine kg σ' H2 e' M' x _ _ _ (sl'.ext (f2.ext m')) m2 (fr1.trans (f'.trans f2)) ix q fun σ3 H3 e3 M3 sl3 m3 f3 _ q => ?_
    have f23 := f2.trans f3
    refine kb (fun M H => P M H ∧ Fr M1 H1 M H) ⟨fun A B C E z f => ⟨hP.step _ _ _ _ z.1 f, z.2.trans f⟩, fun A B C z s => ⟨hP.sub _ _ _ z.1 s, z.2.sub s⟩, fun A B z => hP.base _ _ z.1⟩ σ3 H3 e3 M3 _ _ sl3 m3 ⟨hP.step _ _ _ _ p' f23, f'.trans f23⟩ ?_ q
    exact ⟨fun σ4 H4 e4 M4 s4 m4 p4 q4 => ⟨e4, M4, s4, m4, p4, q4⟩, fun v4 H4 d4 M4 i4 m4 p4 q4 => le.rt _ _ _ _ i4 m4 p4.1 q4, fun σ4 H4 e4 M4 s4 m4 p4 q4 => le.nx _ _ _ _ s4 m4 p4.1 q4, fun σ4 H4 e4 M4 s4 m4 p4 q4 => ⟨e4, M4, s4, m4, p4, q4⟩⟩
def dWhile (c : DTT) (tb : DTS) : DTS := fun D E e M => ∃ W : Nat → Sl → Mem → Prop, (∃ n, W n e M) ∧ ∀ n e' M', W n e' M' →
  c e' M' (fun b M1 => if b = true then tb ⟨fun e2 M2 => ∃ m, m < n ∧ W m e2 M2, D.rt, D.nx, fun e2 M2 => ∃ m, m < n ∧ W m e2 M2⟩ E e' M1 else D.nx e' M1) E
theorem ds_while {g : Gd} {c : Expr} {body : List Stmt} {tc : DTT} {tb : DTS} {pos : Pos} (hp : PassesOwn (model g.X.prog g.X.w) g.X.A g.X.env g.X.xe) (hc : DT g c tc) (hb : DSs g body tb) : DS g (.While c body [] pos) (dWhile tc tb) := by
  obtain ⟨b', pb, kb⟩ := hb.ps
  refine ⟨⟨_, ps_while hp hc.pt pb, fun P hP σ H e M D DV sl mr pm le q => ?_⟩⟩
  obtain ⟨W, ⟨n0, h0⟩, turn⟩ := q
  refine ⟨fun n σ' H' => ∃ e' M', SRel g.X.K H' e' σ' ∧ MRel g.X.K M' H' ∧ P M' H' ∧ W n e' M', ⟨n0, e, M, sl, mr, pm, h0⟩, fun n σ' H' hw => ?_⟩
  obtain ⟨e', M', sl', m', p', hw⟩ := hw
  refine low_startT sl' m' (hP.base _ _ p') (turn n e' M' hw) fun b M1 H1 m1 f1 q => ?_
  have p1 := hP.step _ _ _ _ p' f1
  cases b with
  | false => exact le.nx _ _ _ _ (sl'.ext (f1.ext m')) m1 p1 q
  | true =>
    refine ⟨fun σ2 H2 => ∃ m, m < n ∧ ∃ e2 M2, SRel g.X.K H2 e2 σ2 ∧ MRel g.X.K M2 H2 ∧ P M2 H2 ∧ W m e2 M2, fun σ2 H2 z => z, ?_⟩
    refine kb P hP σ' H1 e' M1 _ _ (sl'.ext (f1.ext m')) m1 p1 ?_ q
    exact ⟨fun σ4 H4 e4 M4 s4 m4 p4 ⟨m, hm, q4⟩ => ⟨m, hm, e4, M4, s4, m4, p4, q4⟩, le.rt, le.nx, fun σ4 H4 e4 M4 s4 m4 p4 ⟨m, hm, q4⟩ => ⟨m, hm, e4, M4, s4, m4, p4, q4⟩⟩
end DL

namespace DL
open PySem PySem.Spec PyProof.Rows L2
section
variable {K : PySem.W.Frag} {M M1 : Mem} {H H1 : Hp} {p : Addr} {acc acc' : List V}
theorem ext_out (h : H p = some (.lst acc)) : Ext K H (upd H p (.lst acc')) := by
  refine ⟨fun a xs e => ?_, fun a xs e => ?_, fun a xs ⟨o, e, hd⟩ => ⟨o, by
    have : a ≠ p := fun z => by subst z; rw [h] at e; cases e
    rw [upd_ne this]; exact e, hd⟩, fun a o xs e => by
    have : a ≠ p := fun z => by subst z; rw [h] at e; cases e
    rw [upd_ne this]; exact e⟩
  · have ne : a ≠ p := fun z => by subst z; rw [h] at e; cases e
    rw [upd_ne ne]; exact e
  · rcases e with ⟨o, e⟩ | e
    · have ne : a ≠ p := fun z => by subst z; rw [h] at e; cases e
      exact .inl ⟨o, by rw [upd_ne ne]; exact e⟩
    · exact .inr e
theorem mr_out (m : MRel K M H) (h : H p = some (.lst acc)) (n : M p = none) : MRel K M (upd H p (.lst acc')) := fun a o e => by
  have ne : a ≠ p := fun z => by subst z; rw [n] at e; cases e
  exact (m a o e).ext (ext_out h) (upd_ne ne)
theorem fr_out (f : Fr M1 H1 M H) (n1 : H1 p = none) {o : HO} : Fr M1 H1 M (upd H p o) := ⟨fun b u hb hm => by
  have ne : b ≠ p := ne_of_none hb n1
  obtain ⟨h1, h2⟩ := f.keep b u hb hm
  exact ⟨by rw [upd_ne ne]; exact h1, h2⟩, fun b h => f.there b (upd_none h)⟩
end
theorem set_none_mem {σ : L2.St} : ∀ {vs : List Nat} (i : Nat), i ∈ vs → (wipe σ vs).set i none = wipe σ vs
  | [], i, h => by simp at h
  | v :: vs, i, h => by
    show ((wipe σ vs).set v none).set i none = (wipe σ vs).set v none
    by_cases hv : v = i
    · subst hv; rw [List.set_set]
    · have hm : i ∈ vs := by
        rcases List.mem_cons.mp h with h | h
        · exact absurd h.symm hv
        · exact h
      rw [List.set_comm _ _ hv, set_none_mem i hm]
theorem wipe_sub (σ : L2.St) (vs : List Nat) : ∀ us : List Nat, (∀ i ∈ us, i ∈ vs) → wipe (wipe σ vs) us = wipe σ vs
  | [], _ => rfl
  | u :: us, h => by
    show (wipe (wipe σ vs) us).set u none = wipe σ vs
    rw [wipe_sub σ vs us fun i hi => h i (List.mem_cons_of_mem _ hi)]
    exact set_none_mem u (h u (by simp))
theorem wipe_wipe (σ : L2.St) (vs : List Nat) : wipe (wipe σ vs) vs = wipe σ vs := wipe_sub σ vs vs fun _ h => h
structure DTs (g : Gd) (ifs : List Expr) (t : DTT) : Prop where
  pt : ∃ t' : TT, PTs g.X ifs t' ∧ ∀ σ H e M Q (QV : Bool → Hp → Prop), SRel g.X.K H e σ → MRel g.X.K M H → Fr g.M0 g.H0 M H → t e M Q g.E → (∀ b M' H', MRel g.X.K M' H' → Fr M H M' H' → Q b M' → QV b H') → t' σ H QV
def dYes : DTT := fun _ M Q _ => Q true M
abbrev blkG (g : Gd) (scope : Scope) (s : Shared) (H : Hp) (C : Addr) (cl : List (Str × Addr)) (fp : List Addr) (M1 : Mem) (H1 : Hp) : Gd := ⟨g.X.blk s H scope (compEnvC scope cl C g.X.env) fp, M1, H1, EF⟩
def BlkE (g : Gd) (scope : Scope) (x : Expr) (t : DTE) : Prop := ∀ s H C cl fp M1 H1, DE (blkG g scope s H C cl fp M1 H1) x t
def BlkG (g : Gd) (scope : Scope) (x : Expr) (t : DTG) (ns : List Nat) : Prop := ∃ t' : TG, (∀ s H C cl fp, PG (g.X.blk s H scope (compEnvC scope cl C g.X.env) fp) x t') ∧
  ∀ σ H e M v d Q (QV : L2.St → Hp → Prop), SRel g.X.K H e σ → MRel g.X.K M H → Is g.X.K H d v → t d e M Q EF →
    (∀ σ' H' e' M', SRel g.X.K H' e' σ' → MRel g.X.K M' H' → Fr M H M' H' → (∀ vs, (∀ i ∈ ns, i ∈ vs) → L2.wipe σ' vs = L2.wipe σ vs) → Q e' M' → QV σ' H') → t' v σ H QV
def BlkT (g : Gd) (scope : Scope) (ifs : List Expr) (t : DTT) : Prop := ∃ t' : TT, (∀ s H C cl fp, PTs (g.X.blk s H scope (compEnvC scope cl C g.X.env) fp) ifs t') ∧
  ∀ σ H e M Q (QV : Bool → Hp → Prop), SRel g.X.K H e σ → MRel g.X.K M H → t e M Q EF → (∀ b M' H', MRel g.X.K M' H' → Fr M H M' H' → Q b M' → QV b H') → t' σ H QV
def lowAny (K : PySem.W.Frag) (t : DTE) : TE := fun σ H Q => ∃ M0 H0, lowK K M0 H0 EF t σ H Q
theorem BlkE.pe {g : Gd} {scope : Scope} {x : Expr} {t : DTE} (h : BlkE g scope x t) (s : Shared) (H : Hp) (C : Addr) (cl : List (Str × Addr)) (fp : List Addr) : PE (g.X.blk s H scope (compEnvC scope cl C g.X.env) fp) x (lowAny g.X.K t) :=
  ⟨fun pins s1 σ H1 Q I ⟨M0, H0, q⟩ => (h s H C cl fp M0 H0).pe.run pins s1 σ H1 Q I q⟩
theorem lowAny_start {K : PySem.W.Frag} {t : DTE} {σ : L2.St} {H : Hp} {e : Sl} {M : Mem} {R : QE} {Q : VK} (sl : SRel K H e σ) (mr : MRel K M H) (h : t e M R EF)
    (k : ∀ v d M' H', Is K H' d v → MRel K M' H' → Fr M H M' H' → R d M' → Q v H') : lowAny K t σ H Q :=
  ⟨M, H, e, M, R, sl, mr, Fr.refl, h, fun v H' ⟨d, M', i, m, f, q⟩ => k v d M' H' i m f q⟩
def lowAnyT (K : PySem.W.Frag) (t : DTT) : TT := fun σ H Q => ∃ M0 H0, lowTK K M0 H0 EF t σ H Q
theorem blkT_nil {g : Gd} {scope : Scope} : BlkT g scope [] dYes := ⟨_, fun _ _ _ _ _ => pts_nil, fun σ H e M Q QV sl mr q k => k true M H mr Fr.refl q⟩
theorem blkT_one {g : Gd} {scope : Scope} {c : Expr} {t : DTT} (h : ∀ s H C cl fp M1 H1, DT (blkG g scope s H C cl fp M1 H1) c t) : BlkT g scope [c] t := by
  refine ⟨lowAnyT g.X.K t, fun s H C cl fp => pts_one ⟨fun pins s1 σ H1 Q I ⟨M0, H0, q⟩ => (h s H C cl fp M0 H0).pt.run pins s1 σ H1 Q I q⟩, fun σ H e M Q QV sl mr q k => ?_⟩
  exact ⟨M, H, e, M, Q, sl, mr, Fr.refl, q, fun b H' ⟨M', m, f, q⟩ => k b M' H' m f q⟩
structure DLE (g : Gd) (x : Expr) (t : DTA) : Prop where
  pe : ∃ t' : TE, PE g.X x t' ∧ ∀ σ H e M Q (QV : VK), SRel g.X.K H e σ → MRel g.X.K M H → Fr g.M0 g.H0 M H → t e M Q g.E →
    (∀ a vs ds M' H', H' a = some (.lst vs) → IsL g.X.K H' ds vs → M' a = none → H a = none → MRel g.X.K M' H' → Fr M H M' H' → Q ds M' → QV (.ref a) H') → t' σ H QV
def dNew (t : DTA) : DTE := fun e M Q E => t e M (fun ds M1 => ∀ p, M1 p = none → Q (.ref p) (wr M1 p (.lst ds))) E
theorem new_in {K : PySem.W.Frag} {M M' : Mem} {H H' : Hp} {a : Addr} {vs : List V} {ds : List D} (h : H' a = some (.lst vs)) (l : IsL K H' ds vs) (n : M' a = none) (n0 : H a = none) (m : MRel K M' H') (f : Fr M H M' H') :
    MRel K (wr M' a (.lst ds)) H' ∧ Fr M H (wr M' a (.lst ds)) H' := by
  refine ⟨fun b o e => ?_, fun b o hb hm => ?_, f.there⟩
  · by_cases z : b = a
    · subst z; rw [wr_same] at e; cases e; exact ⟨vs, h, l⟩
    · rw [wr_ne z] at e; exact m b o e
  · have ne : b ≠ a := ne_of_none hb n0
    obtain ⟨h1, h2⟩ := f.keep b o hb hm
    exact ⟨h1, by rw [wr_ne ne]; exact h2⟩
theorem DLE.de {g : Gd} {x : Expr} {t : DTA} (h : DLE g x t) : DE g x (dNew t) := by
  obtain ⟨t', p, k⟩ := h.pe
  refine DE.of p fun σ H e M Q sl mr fr q => ?_
  refine k σ H e M _ _ sl mr fr q fun a vs ds M' H' h l n n0 m f q => ?_
  obtain ⟨m2, f2⟩ := new_in h l n n0 m f
  exact lowQ.mk ii_ref m2 f2 (q a n)
def dLc (w : DTI) (gt : DTG) (tt : DTT) (te : DTE) (vs : List Nat) : DTA := fun e M Q E => w e M (fun src M1 => ∃ I : Nat → List D → Mem → Prop, I 0 [] M1 ∧
  (∀ i d acc M', src.items[i]? = some d → I i acc M' → src.live M' ∧ gt d (wipeS e vs) M' (fun e2 M2 => tt e2 M2 (fun b M3 =>
    if b = true then te e2 M3 (fun y M4 => acc.length < sizeLine ∧ I (i + 1) (acc ++ [y]) M4) EF else I (i + 1) acc M3) EF) EF) ∧
  ∀ acc M', I src.items.length acc M' → src.live M' ∧ Q acc M') E
section
variable {g : Gd} {elt tg iter : Expr} {ifs : List Expr} {scope : Scope} {own : List (Str × Nat)} {pos : Pos} {w : DTI} {gt : DTG} {tt : DTT} {te : DTE} {ns : List Nat}
theorem lc_low {w' : TI} {g' : TG} {tt' : TT} (ki : ∀ σ H e M R (RV : It → Hp → Prop), SRel g.X.K H e σ → MRel g.X.K M H → Fr g.M0 g.H0 M H → w e M R g.E →
      (∀ J src M1 H1, JRel g.X.K H1 J src → MRel g.X.K M1 H1 → Fr M H M1 H1 → R src M1 → RV J H1) → w' σ H RV)
    (kg : ∀ σ H e M v d Q (QV : L2.St → Hp → Prop), SRel g.X.K H e σ → MRel g.X.K M H → Is g.X.K H d v → gt d e M Q EF →
      (∀ σ' H' e' M', SRel g.X.K H' e' σ' → MRel g.X.K M' H' → Fr M H M' H' → (∀ vs, (∀ i ∈ ns, i ∈ vs) → L2.wipe σ' vs = L2.wipe σ vs) → Q e' M' → QV σ' H') → g' v σ H QV)
    (kt : ∀ σ H e M Q (QV : Bool → Hp → Prop), SRel g.X.K H e σ → MRel g.X.K M H → tt e M Q EF → (∀ b M' H', MRel g.X.K M' H' → Fr M H M' H' → Q b M' → QV b H') → tt' σ H QV)
    (hns : ∀ i ∈ ns, i ∈ own.map (·.2)) {σ : L2.St} {H : Hp} {e : Sl} {M : Mem} {Q : List D → Mem → Prop} {QV : VK} (sl : SRel g.X.K H e σ) (mr : MRel g.X.K M H) (fr : Fr g.M0 g.H0 M H) (q : dLc w gt tt te (own.map (·.2)) e M Q g.E)
    (k : ∀ a vs ds M' H', H' a = some (.lst vs) → IsL g.X.K H' ds vs → M' a = none → H a = none → MRel g.X.K M' H' → Fr M H M' H' → Q ds M' → QV (.ref a) H') : tLc w' g' tt' (lowAny g.X.K te) (own.map (·.2)) σ H QV := by
  refine ki σ H e M _ _ sl mr fr q fun J src M1 H1 jr m1 f1 q => ?_
  obtain ⟨I, h0, turn, last⟩ := q
  intro p hp
  have np1 : M1 p = none := m1.none_of hp
  have h0p : H p = none := f1.there p hp
  have fr1 := fr.trans f1
  have e1 : Ext g.X.K H H1 := f1.ext mr
  have fn := fr_new (o := HO.lst []) m1 hp
  refine ⟨fun i n H' => i + n = src.items.length ∧ ∃ acc vs M', H' p = some (.lst vs) ∧ IsL g.X.K H' acc vs ∧ M' p = none ∧ MRel g.X.K M' H' ∧ Fr M1 H1 M' H' ∧ I i acc M',
    ⟨src.items.length, by omega, [], [], M1, upd_same, isL_nil.mpr rfl, np1, mr_new m1 hp, fn, h0⟩, fun i n H' hw => ?_⟩
  obtain ⟨hn, acc, vs, M', hp', il, np, m', f', hw⟩ := hw
  have ex : Ext g.X.K H H' := (f1.trans f').ext mr
  cases n with
  | zero =>
    have hi : i = src.items.length := by omega
    subst hi
    obtain ⟨lv, q⟩ := last acc M' hw
    exact .inl ⟨(jr _ M' H' m' (f'.ext m1) lv).2 (Nat.le_refl _), k p vs acc M' H' hp' il np h0p m' (f1.trans f') q⟩
  | succ n =>
    have hi : i < src.items.length := by omega
    have hd := List.getElem?_eq_getElem hi
    obtain ⟨lv, q⟩ := turn i _ acc M' hd hw
    obtain ⟨go, yl⟩ := (jr i M' H' m' (f'.ext m1) lv).1 _ hd
    refine .inr ⟨go, fun H2 => ∃ acc vs M', H2 p = some (.lst vs) ∧ IsL g.X.K H2 acc vs ∧ M' p = none ∧ MRel g.X.K M' H2 ∧ Fr M1 H1 M' H2 ∧ I (i + 1) acc M', fun H2 z => ⟨n, by omega, by omega, z⟩, fun x H2 y => ?_⟩
    obtain ⟨ix, m2, f2⟩ := yl x H2 y
    refine kg (wipe σ (own.map (·.2))) H2 (wipeS e (own.map (·.2))) M' x _ _ _ ((sl.ext ((f1.trans (f'.trans f2)).ext mr)).wipe _) m2 ix q fun σ3 H3 e3 M3 sl3 m3 f3 hwp q => ?_
    refine ⟨(hwp _ hns).trans (wipe_wipe σ _), ?_⟩
    refine kt σ3 H3 e3 M3 _ _ sl3 m3 q fun b M4 H4 m4 f4 q => ?_
    have f24 := f2.trans (f3.trans f4)
    cases b with
    | false =>
      obtain ⟨p4, np4⟩ := f24.keep p _ hp' np
      exact ⟨acc, vs, M4, p4, IsL.ext (f24.ext m') _ _ il, np4, m4, f'.trans f24, q⟩
    | true =>
      refine lowAny_start (sl3.ext (f4.ext m3)) m4 q fun v d M5 H5 i5 m5 f5 q => ?_
      have f25 := f24.trans f5
      obtain ⟨p5, np5⟩ := f25.keep p _ hp' np
      have il5 := IsL.ext (f25.ext m') _ _ il
      have eo : Ext g.X.K H5 (upd H5 p (.lst (vs ++ [v]))) := ext_out p5
      refine ⟨vs, p5, by rw [il5.length]; exact q.1, acc ++ [d], vs ++ [v], M5, upd_same, ?_, np5, mr_out m5 p5 np5, fr_out (f'.trans f25) hp, q.2⟩
      exact (IsL.ext eo _ _ il5).append (IsL.mk (Is.ext eo _ _ i5) (isL_nil.mpr rfl))
end
end DL

namespace DL
open PySem PySem.Spec PyProof.Rows L2
section
variable {g : Gd} {elt tg iter tg1 iter1 : Expr} {ifs ifs1 : List Expr} {scope : Scope} {own : List (Str × Nat)} {vs1 : List Nat} {pos spos py : Pos} {w w1 : DTI} {gt gt1 : DTG} {tt tt1 : DTT} {te : DTE} {ns ms : List Nat}
theorem dle_lc (hc : g.X.calm = true) (hN : g.X.N.Nodup) (hi : DI g tg iter w) (ok : BlkOk g.X.N g.X.env.scope scope own) (hg : BlkG g scope tg gt ns) (ht : BlkT g scope ifs tt) (he : BlkE g scope elt te) (hns : ∀ i ∈ ns, i ∈ own.map (·.2))
    (hs : ∀ x, foldedSetIterable iter g.X.env x = pure x) : DLE g (.ListComp elt [⟨tg, iter, ifs, 0⟩] scope pos) (dLc w gt tt te (own.map (·.2))) := by
  obtain ⟨w', pi, ki⟩ := hi.pi
  obtain ⟨g', pg, kg⟩ := hg
  obtain ⟨t', pt, kt⟩ := ht
  exact ⟨⟨_, pe_lc hc hN pi ok pg pt he.pe hs, fun σ H e M Q QV sl mr fr q k => lc_low ki kg kt hns sl mr fr q k⟩⟩
theorem ds_lc {i : Nat} {y : Str} (hc : g.X.calm = true) (hN : g.X.N.Nodup) (hy : g.X.N[i]? = some y) (hyl : g.X.env.scope.names.lookup y = some .local)
    (hsw : swapsWith (.ListComp elt [⟨tg, iter, ifs, 0⟩] scope pos) (some (.Name y py)) spos.line g.X.env = pure true) (hi : DI g tg iter w) (ok : BlkOk g.X.N g.X.env.scope scope own) (hg : BlkG g scope tg gt ns) (ht : BlkT g scope ifs tt) (he : BlkE g scope elt te) (hns : ∀ i ∈ ns, i ∈ own.map (·.2))
    (hs : ∀ x, foldedSetIterable iter g.X.env x = pure x) : DS g (.Assign [.Name y py] (.ListComp elt [⟨tg, iter, ifs, 0⟩] scope pos) spos) (dAsg (dNew (dLc w gt tt te (own.map (·.2)))) (dgName i)) := by
  obtain ⟨w', pi, ki⟩ := hi.pi
  obtain ⟨g', pg, kg⟩ := hg
  obtain ⟨t', pt, kt⟩ := ht
  refine ⟨⟨_, ps_setLc hc hN hy hyl hsw pi ok pg pt he.pe hs, fun P hP σ H e M D DV sl mr pm le q => ?_⟩⟩
  have fr := hP.base _ _ pm
  refine lc_low ki kg kt hns sl mr fr q fun a vs ds M' H' h l n n0 m f q => ?_
  obtain ⟨m2, f2⟩ := new_in h l n n0 m f
  exact le.nx _ _ _ _ (SRel.set ii_ref i (sl.ext (f2.ext mr))) m2 (hP.step _ _ _ _ pm f2) (q a n)
def BlkI (g : Gd) (scope : Scope) (tg x : Expr) (w : DTI) : Prop := ∃ w' : TI, (∀ s H C cl fp, PI (g.X.blk s H scope (compEnvC scope cl C g.X.env) fp) tg x w') ∧
  ∀ σ H e M R (RV : It → Hp → Prop), SRel g.X.K H e σ → MRel g.X.K M H → w e M R EF →
    (∀ J src M1 H1, JRel g.X.K H1 J src → MRel g.X.K M1 H1 → Fr M H M1 H1 → R src M1 → RV J H1) → w' σ H RV
def dLc2 (w : DTI) (gt : DTG) (tt : DTT) (w1 : DTI) (gt1 : DTG) (tt1 : DTT) (te : DTE) (vs vs1 : List Nat) : DTA := fun e M Q E => w e M (fun src M1 => ∃ I : Nat → List D → Mem → Prop, I 0 [] M1 ∧
  (∀ i d acc M', src.items[i]? = some d → I i acc M' → src.live M' ∧ gt d (wipeS e vs) M' (fun e2 M2 => tt e2 M2 (fun b M3 =>
    if b = true then w1 e2 M3 (fun src1 M4 => ∃ I1 : Nat → List D → Mem → Prop, I1 0 acc M4 ∧
      (∀ j d1 acc1 M5, src1.items[j]? = some d1 → I1 j acc1 M5 → src1.live M5 ∧ gt1 d1 (wipeS e2 vs1) M5 (fun e3 M6 => tt1 e3 M6 (fun b M7 =>
        if b = true then te e3 M7 (fun y M8 => acc1.length < sizeLine ∧ I1 (j + 1) (acc1 ++ [y]) M8) EF else I1 (j + 1) acc1 M7) EF) EF) ∧
      ∀ acc1 M5, I1 src1.items.length acc1 M5 → src1.live M5 ∧ I (i + 1) acc1 M5) EF
    else I (i + 1) acc M3) EF) EF) ∧
  ∀ acc M', I src.items.length acc M' → src.live M' ∧ Q acc M') E
theorem lc2_low {w' w1' : TI} {g' g1' : TG} {tt' tt1' : TT} (ki : ∀ σ H e M R (RV : It → Hp → Prop), SRel g.X.K H e σ → MRel g.X.K M H → Fr g.M0 g.H0 M H → w e M R g.E →
      (∀ J src M1 H1, JRel g.X.K H1 J src → MRel g.X.K M1 H1 → Fr M H M1 H1 → R src M1 → RV J H1) → w' σ H RV)
    (kg : ∀ σ H e M v d Q (QV : L2.St → Hp → Prop), SRel g.X.K H e σ → MRel g.X.K M H → Is g.X.K H d v → gt d e M Q EF →
      (∀ σ' H' e' M', SRel g.X.K H' e' σ' → MRel g.X.K M' H' → Fr M H M' H' → (∀ vs, (∀ i ∈ ns, i ∈ vs) → L2.wipe σ' vs = L2.wipe σ vs) → Q e' M' → QV σ' H') → g' v σ H QV)
    (kt : ∀ σ H e M Q (QV : Bool → Hp → Prop), SRel g.X.K H e σ → MRel g.X.K M H → tt e M Q EF → (∀ b M' H', MRel g.X.K M' H' → Fr M H M' H' → Q b M' → QV b H') → tt' σ H QV)
    (ki1 : ∀ σ H e M R (RV : It → Hp → Prop), SRel g.X.K H e σ → MRel g.X.K M H → w1 e M R EF →
      (∀ J src M1 H1, JRel g.X.K H1 J src → MRel g.X.K M1 H1 → Fr M H M1 H1 → R src M1 → RV J H1) → w1' σ H RV)
    (kg1 : ∀ σ H e M v d Q (QV : L2.St → Hp → Prop), SRel g.X.K H e σ → MRel g.X.K M H → Is g.X.K H d v → gt1 d e M Q EF →
      (∀ σ' H' e' M', SRel g.X.K H' e' σ' → MRel g.X.K M' H' → Fr M H M' H' → (∀ vs, (∀ i ∈ ms, i ∈ vs) → L2.wipe σ' vs = L2.wipe σ vs) → Q e' M' → QV σ' H') → g1' v σ H QV)
    (kt1 : ∀ σ H e M Q (QV : Bool → Hp → Prop), SRel g.X.K H e σ → MRel g.X.K M H → tt1 e M Q EF → (∀ b M' H', MRel g.X.K M' H' → Fr M H M' H' → Q b M' → QV b H') → tt1' σ H QV)
    (hns : ∀ i ∈ ns, i ∈ own.map (·.2)) (hms : ∀ i ∈ ms, i ∈ vs1) {σ : L2.St} {H : Hp} {e : Sl} {M : Mem} {Q : List D → Mem → Prop} {QV : VK} (sl : SRel g.X.K H e σ) (mr : MRel g.X.K M H) (fr : Fr g.M0 g.H0 M H)
    (q : dLc2 w gt tt w1 gt1 tt1 te (own.map (·.2)) vs1 e M Q g.E)
    (k : ∀ a vs ds M' H', H' a = some (.lst vs) → IsL g.X.K H' ds vs → M' a = none → H a = none → MRel g.X.K M' H' → Fr M H M' H' → Q ds M' → QV (.ref a) H') : tLc2 w' g' tt' w1' g1' tt1' (lowAny g.X.K te) (own.map (·.2)) vs1 σ H QV := by
  refine ki σ H e M _ _ sl mr fr q fun J src M1 H1 jr m1 f1 q => ?_
  obtain ⟨I, h0, turn, last⟩ := q
  intro p hp
  have np1 : M1 p = none := m1.none_of hp
  have h0p : H p = none := f1.there p hp
  have fn := fr_new (o := HO.lst []) m1 hp
  refine ⟨fun i n H' => i + n = src.items.length ∧ ∃ acc vs M', H' p = some (.lst vs) ∧ IsL g.X.K H' acc vs ∧ M' p = none ∧ MRel g.X.K M' H' ∧ Fr M1 H1 M' H' ∧ I i acc M',
    ⟨src.items.length, by omega, [], [], M1, upd_same, isL_nil.mpr rfl, np1, mr_new m1 hp, fn, h0⟩, fun i n H' hw => ?_⟩
  obtain ⟨hn, acc, vs, M', hp', il, np, m', f', hw⟩ := hw
  cases n with
  | zero =>
    have hi : i = src.items.length := by omega
    subst hi
    obtain ⟨lv, q⟩ := last acc M' hw
    exact .inl ⟨(jr _ M' H' m' (f'.ext m1) lv).2 (Nat.le_refl _), k p vs acc M' H' hp' il np h0p m' (f1.trans f') q⟩
  | succ n =>
    have hi : i < src.items.length := by omega
    have hd := List.getElem?_eq_getElem hi
    obtain ⟨lv, q⟩ := turn i _ acc M' hd hw
    obtain ⟨go, yl⟩ := (jr i M' H' m' (f'.ext m1) lv).1 _ hd
    refine .inr ⟨go, fun H2 => ∃ acc vs M', H2 p = some (.lst vs) ∧ IsL g.X.K H2 acc vs ∧ M' p = none ∧ MRel g.X.K M' H2 ∧ Fr M1 H1 M' H2 ∧ I (i + 1) acc M', fun H2 z => ⟨n, by omega, by omega, z⟩, fun x H2 y => ?_⟩
    obtain ⟨ix, m2, f2⟩ := yl x H2 y
    refine kg (wipe σ (own.map (·.2))) H2 (wipeS e (own.map (·.2))) M' x _ _ _ ((sl.ext ((f1.trans (f'.trans f2)).ext mr)).wipe _) m2 ix q fun σ3 H3 e3 M3 sl3 m3 f3 hwp q => ?_
    refine ⟨(hwp _ hns).trans (wipe_wipe σ _), ?_⟩
    refine kt σ3 H3 e3 M3 _ _ sl3 m3 q fun b M4 H4 m4 f4 q => ?_
    have f24 := f2.trans (f3.trans f4)
    obtain ⟨p4, np4⟩ := f24.keep p _ hp' np
    have il4 := IsL.ext (f24.ext m') _ _ il
    have sl4 := sl3.ext (f4.ext m3)
    cases b with
    | false => exact ⟨acc, vs, M4, p4, il4, np4, m4, f'.trans f24, q⟩
    | true =>
      refine ki1 σ3 H4 e3 M4 _ _ sl4 m4 q fun J1 src1 M5 H5 jr1 m5 f5 q => ?_
      obtain ⟨I1, k0, turn1, last1⟩ := q
      have f15 := f'.trans (f24.trans f5)
      obtain ⟨p5, np5⟩ := f5.keep p _ p4 np4
      refine ⟨fun j n H' => j + n = src1.items.length ∧ ∃ acc vs M', H' p = some (.lst vs) ∧ IsL g.X.K H' acc vs ∧ M' p = none ∧ MRel g.X.K M' H' ∧ Fr M1 H1 M' H' ∧ Ext g.X.K H5 H' ∧ I1 j acc M',
        ⟨src1.items.length, by omega, acc, vs, M5, p5, IsL.ext (f5.ext m4) _ _ il4, np5, m5, f15, Ext.refl, k0⟩, fun j n' H' hw => ?_⟩
      obtain ⟨hn1, ac, us, M6, p6, il6, np6, m6, f6, e6, hw⟩ := hw
      cases n' with
      | zero =>
        have hj : j = src1.items.length := by omega
        subst hj
        obtain ⟨lv, q⟩ := last1 ac M6 hw
        exact .inl ⟨(jr1 _ M6 H' m6 e6 lv).2 (Nat.le_refl _), ac, us, M6, p6, il6, np6, m6, f6, q⟩
      | succ n' =>
        have hj : j < src1.items.length := by omega
        have hd1 := List.getElem?_eq_getElem hj
        obtain ⟨lv, q⟩ := turn1 j _ ac M6 hd1 hw
        obtain ⟨go1, yl1⟩ := (jr1 j M6 H' m6 e6 lv).1 _ hd1
        refine .inr ⟨go1, fun H2 => ∃ acc vs M', H2 p = some (.lst vs) ∧ IsL g.X.K H2 acc vs ∧ M' p = none ∧ MRel g.X.K M' H2 ∧ Fr M1 H1 M' H2 ∧ Ext g.X.K H5 H2 ∧ I1 (j + 1) acc M', fun H2 z => ⟨n', by omega, by omega, z⟩, fun x1 H7 y1 => ?_⟩
        obtain ⟨ix1, m7, f7⟩ := yl1 x1 H7 y1
        have e57 : Ext g.X.K H5 H7 := e6.trans (f7.ext m6)
        refine kg1 (wipe σ3 vs1) H7 (wipeS e3 vs1) M6 x1 _ _ _ ((sl4.ext ((f5.ext m4).trans e57)).wipe _) m7 ix1 q fun σ8 H8 e8 M8 sl8 m8 f8 hw8 q => ?_
        refine ⟨(hw8 _ hms).trans (wipe_wipe σ3 _), ?_⟩
        refine kt1 σ8 H8 e8 M8 _ _ sl8 m8 q fun b M9 H9 m9 f9 q => ?_
        have f79 := f7.trans (f8.trans f9)
        cases b with
        | false =>
          obtain ⟨p9, np9⟩ := f79.keep p _ p6 np6
          exact ⟨ac, us, M9, p9, IsL.ext (f79.ext m6) _ _ il6, np9, m9, f6.trans f79, e6.trans (f79.ext m6), q⟩
        | true =>
          refine lowAny_start (sl8.ext (f9.ext m8)) m9 q fun v d Ma Ha ia ma fa q => ?_
          have f7a := f79.trans fa
          obtain ⟨pa, npa⟩ := f7a.keep p _ p6 np6
          have ila := IsL.ext (f7a.ext m6) _ _ il6
          have eo : Ext g.X.K Ha (upd Ha p (.lst (us ++ [v]))) := ext_out pa
          refine ⟨us, pa, by rw [ila.length]; exact q.1, ac ++ [d], us ++ [v], Ma, upd_same, ?_, npa, mr_out ma pa npa, fr_out (f6.trans f7a) hp, (e6.trans (f7a.ext m6)).trans eo, q.2⟩
          exact (IsL.ext eo _ _ ila).append (IsL.mk (Is.ext eo _ _ ia) (isL_nil.mpr rfl))
theorem dle_lc2 (hc : g.X.calm = true) (hN : g.X.N.Nodup) (hi : DI g tg iter w) (ok : BlkOk g.X.N g.X.env.scope scope own) (hv : ∀ i ∈ vs1, i ∈ own.map (·.2)) (hg : BlkG g scope tg gt ns) (ht : BlkT g scope ifs tt) (hi1 : BlkI g scope tg1 iter1 w1) (hg1 : BlkG g scope tg1 gt1 ms) (ht1 : BlkT g scope ifs1 tt1)
    (he : BlkE g scope elt te) (hns : ∀ i ∈ ns, i ∈ own.map (·.2)) (hms : ∀ i ∈ ms, i ∈ vs1) (hs : ∀ x, foldedSetIterable iter g.X.env x = pure x) (hs1 : ∀ env x, foldedSetIterable iter1 env x = pure x) :
    DLE g (.ListComp elt [⟨tg, iter, ifs, 0⟩, ⟨tg1, iter1, ifs1, 0⟩] scope pos) (dLc2 w gt tt w1 gt1 tt1 te (own.map (·.2)) vs1) := by
  obtain ⟨w', pi, ki⟩ := hi.pi
  obtain ⟨g', pg, kg⟩ := hg
  obtain ⟨t', pt, kt⟩ := ht
  obtain ⟨w1', pi1, ki1⟩ := hi1
  obtain ⟨g1', pg1, kg1⟩ := hg1
  obtain ⟨t1', pt1, kt1⟩ := ht1
  exact ⟨⟨_, pe_lc2 hc hN pi ok hv pg pt pi1 pg1 pt1 he.pe hs hs1, fun σ H e M Q QV sl mr fr q k => lc2_low ki kg kt ki1 kg1 kt1 hns hms sl mr fr q k⟩⟩
theorem ds_lc2 {i : Nat} {y : Str} (hc : g.X.calm = true) (hN : g.X.N.Nodup) (hy : g.X.N[i]? = some y) (hyl : g.X.env.scope.names.lookup y = some .local)
    (hsw : swapsWith (.ListComp elt [⟨tg, iter, ifs, 0⟩, ⟨tg1, iter1, ifs1, 0⟩] scope pos) (some (.Name y py)) spos.line g.X.env = pure true) (hi : DI g tg iter w) (ok : BlkOk g.X.N g.X.env.scope scope own) (hv : ∀ i ∈ vs1, i ∈ own.map (·.2)) (hg : BlkG g scope tg gt ns) (ht : BlkT g scope ifs tt) (hi1 : BlkI g scope tg1 iter1 w1) (hg1 : BlkG g scope tg1 gt1 ms) (ht1 : BlkT g scope ifs1 tt1)
    (he : BlkE g scope elt te) (hns : ∀ i ∈ ns, i ∈ own.map (·.2)) (hms : ∀ i ∈ ms, i ∈ vs1) (hs : ∀ x, foldedSetIterable iter g.X.env x = pure x) (hs1 : ∀ env x, foldedSetIterable iter1 env x = pure x) :
    DS g (.Assign [.Name y py] (.ListComp elt [⟨tg, iter, ifs, 0⟩, ⟨tg1, iter1, ifs1, 0⟩] scope pos) spos) (dAsg (dNew (dLc2 w gt tt w1 gt1 tt1 te (own.map (·.2)) vs1)) (dgName i)) := by
  obtain ⟨w', pi, ki⟩ := hi.pi
  obtain ⟨g', pg, kg⟩ := hg
  obtain ⟨t', pt, kt⟩ := ht
  obtain ⟨w1', pi1, ki1⟩ := hi1
  obtain ⟨g1', pg1, kg1⟩ := hg1
  obtain ⟨t1', pt1, kt1⟩ := ht1
  refine ⟨⟨_, ps_setLc2 hc hN hy hyl hsw pi ok hv pg pt pi1 pg1 pt1 he.pe hs hs1, fun P hP σ H e M D DV sl mr pm le q => ?_⟩⟩
  have fr := hP.base _ _ pm
  refine lc2_low ki kg kt ki1 kg1 kt1 hns hms sl mr fr q fun a vs ds M' H' h l n n0 m f q => ?_
  obtain ⟨m2, f2⟩ := new_in h l n n0 m f
  exact le.nx _ _ _ _ (SRel.set ii_ref i (sl.ext (f2.ext mr))) m2 (hP.step _ _ _ _ pm f2) (q a n)
end
end DL

namespace DL
open PySem PySem.Spec PyProof.Rows L2
abbrev DSp := List D → Mem → QE → EX → Prop
structure FnG (P : Program) (w : World) (K : PySem.W.Frag) (mg : Str → Option Value) (base : Heap) (k : Nat) (f : Addr) (fd : FuncData) (ps : List Str) (sp : DSp) : Prop where
  len : ∀ ds M Q E, sp ds M Q E → ds.length = ps.length
  run : ∀ (A : Around) (outer : List PySem.Env) (s : Shared) (H : Hp) (args : Args) (us : List Value) (vs : List V) (ds : List D) (M : Mem) (Q : QE) (E : EX) (QV : VK) (XV : XK), Room k A → A.guards = some [] → Env0 P w K mg base A outer s H →
    BindsTo s fd args (ps.zip us) → Vals vs us → IsL K H ds vs → MRel K M H → Fin K M H Q QV → (∀ c d H', wxOf K M H E c d H' → XV c d H') → sp ds M Q E → codeAny (model P w) A (.call (.ref f) args) (CR (CX P w) outer P w H s QV XV) s
def startD (n : Nat) (ds : List D) : Sl := ds.map some ++ List.replicate (n - ds.length) none
theorem start_rel {K : PySem.W.Frag} {H : Hp} (N : List Str) : ∀ {ds : List D} {vs : List V}, IsL K H ds vs → SRel K H (startD N.length ds) (L2.start N vs) := by
  intro ds vs h
  have hl := h.length
  unfold startD L2.start
  rw [hl]
  have tail : ∀ n : Nat, SRel K H (List.replicate n none) (List.replicate n none) := fun n => by
    induction n with
    | zero => rfl
    | succ n ih => exact ⟨none, _, rfl, (fun d e => nomatch e), ih⟩
  generalize N.length - ds.length = n
  clear hl
  induction ds generalizing vs with
  | nil => rw [isL_nil] at h; subst h; exact tail n
  | cons d ds ih =>
    rw [isL_cons] at h
    obtain ⟨v, r, rfl, i, t⟩ := h
    exact ⟨some v, _, rfl, fun d' e => by cases e; exact ⟨v, rfl, i⟩, ih t⟩
abbrev bodyG (P : Program) (w : World) (K : PySem.W.Frag) (mg : Str → Option Value) (base : Heap) (N : List Str) (qual : Str) (scope : Scope) (f : Addr) (cd : Value) (A : Around) (outer : List PySem.Env) (s : Shared) (H : Hp) (XV : XK) (M : Mem) (E : EX) : Gd :=
  ⟨cxOf (CX P w) P w K mg base N qual scope f cd A outer s H XV, M, H, E⟩
theorem fnG_of {P : Program} {w : World} {K : PySem.W.Frag} {mg : Str → Option Value} {base : Heap} {k : Nat} {f : Addr} {name qual : Str} {params : Arguments} {body : List Stmt} {scope : Scope} {dV kV doc pm cdv ct oc : Value} {an od : Option Addr} {osl : Array (Option Value)} {N ps : List Str} {sp : DSp}
    (lk : K.lookup f = some ⟨oc, od, .func (PySem.W.fnOf name qual params body scope dV kV doc pm an cdv ct), osl⟩) (hcd : PySem.W.codeIn K cdv qual = true) (S : FnScope N ps scope) (len : ∀ ds M Q E, sp ds M Q E → ds.length = ps.length)
    (hbody : ∀ (A : Around) (outer : List PySem.Env) (s : Shared) (H : Hp) (ds : List D) (M : Mem) (Q : QE) (E : EX) (XV : XK), Room k (A.deeper (envOfC qual scope s.heap.objs.size f cdv)) → (A.deeper (envOfC qual scope s.heap.objs.size f cdv)).units + 16 * k + 210 < cLine → A.guards = some [] → (∀ c d H', wxOf K M H E c d H' → XV c d H') → sp ds M Q E →
      ∃ t, DSs (bodyG P w K mg base N qual scope f cdv A outer s H XV M E) body t ∧ t { nx := fun _ M' => ∃ M2, Sub M2 M' ∧ Q .non M2, rt := fun d M' => ∃ M2, Sub M2 M' ∧ Q d M2 } E (startD N.length ds) M) :
    FnG P w K mg base (k + 1) f (PySem.W.fnOf name qual params body scope dV kV doc pm an cdv ct) ps sp where
  len := len
  run := fun A outer s H args us vs ds M Q E QV XV hr hg e0 hb r il mr fin hX hsp => by
    have dl := len _ _ _ _ hsp
    have vl : vs.length = ps.length := by rw [il.length]; exact dl
    have K1 : K.In s.heap := e0.mod.kin.keeps fun b o e => (e0.bs b o e).1
    have L1 : s.heap.NoLimit := e0.mod.nolimit.keeps fun b o e => (e0.bs b o e).1
    refine codeAny_call_function hr.depth (K1 _ _ lk) rfl S.co S.gen rfl (PySem.W.codeRec_of K1 hcd) (hb _ _ _ _ ?_)
    refine wpAny_newFunctionEnv_cells S.kind (fun y hy => ?_) fun env he s1 x => ?_
    · obtain ⟨n, u⟩ := y
      rcases S.par n (List.of_mem_zip hy).1 with q | q
      · exact .inl q
      · exact .inr ⟨q, PySem.W.cellsFrom_some _ _ _ (.inl q)⟩
    · subst he
      refine ⟨L1.keeps x.toInCall.keep, codeAny_func ?_⟩
      obtain ⟨t, hs, ht⟩ := hbody A outer s H ds M Q E XV (hr.deeper _) (by have := hr.un; show A.units + 3 + 16 * k + 210 < _; omega) hg hX hsp
      obtain ⟨t', ps', kk⟩ := hs.ps
      have I := inv_start (CX := CX P w) (E := XV) S hr.hd e0 vl r x
      have q := kk (fun M' H' => Fr M H M' H') ⟨fun _ _ _ _ a b => a.trans b, fun _ _ _ a b => a.sub b, fun _ _ a => a⟩ (L2.start N vs) H (startD N.length ds) M (⟨fun _ M' => ∃ M2, Sub M2 M' ∧ Q .non M2, fun d M' => ∃ M2, Sub M2 M' ∧ Q d M2, fun _ _ => False, fun _ _ => False⟩ : DEnds) { nx := fun _ H' => QV .non H', rt := QV } (start_rel N il) mr Fr.refl
        ⟨fun σ' H' e' M' s' m' f' ⟨M2, s2, q⟩ => fin _ _ _ _ ii_non (m'.sub s2) (f'.sub s2) q, fun v' H' d' M' i' m' f' ⟨M2, s2, q⟩ => fin _ _ _ _ i' (m'.sub s2) (f'.sub s2) q, fun _ _ _ _ _ _ _ q => q.elim, fun _ _ _ _ _ _ _ q => q.elim⟩ ht
      refine wpAny_mono (ps'.run [] s1 _ H _ I q) (fun fl s' z => ?_) fun e s' z => z
      have done : ∀ {σ' : L2.St} {H' : Hp} {v : V} {u : Value}, L2.Inv (cxOf (CX P w) P w K mg base N qual scope f cdv A outer s H XV) [] σ' H' s' → RelV v u → QV v H' → CE outer P w H s QV u s' :=
        fun J rv q => ⟨_, _, J.os, J.bare, J.base, J.hok, rv, q⟩
      cases fl with
      | next => obtain ⟨σ', H', J, z⟩ := z; exact done (v := V.non) (u := Value.none) J rfl z
      | ret u => obtain ⟨v, σ', H', J, rv, z⟩ := z; exact done J rv z
      | brk => obtain ⟨_, _, _, z⟩ := z; exact z.elim
      | cont => obtain ⟨_, _, _, z⟩ := z; exact z.elim
structure Gok (g : Gd) (k : Nat) : Prop where
  room : Room k g.X.A
  gu : g.X.A.guards = some []
  tk : Takes g.X (fun c d _ H => wxOf g.X.K g.M0 g.H0 g.E c d H)
section
variable {g : Gd} {k : Nat} {f : Addr} {fd : FuncData} {ps : List Str} {sp : DSp} {n : Str} {p pos : Pos} {x : Expr} {xs : List Expr} {r : DTA}
theorem fnG_run {pins : List (Addr × Obj)} {σ : L2.St} {H : Hp} {s : Shared} {e : Sl} {M : Mem} {us : List Value} {vs : List V} {ds : List D} {Q : QE} {pos : List Value} {kw : List (Str × Value)} (F : FnG g.X.prog g.X.w g.X.K g.X.mg g.X.base k f fd ps sp) (G : Gok g k) (I : SI g pins σ H s e M)
    (hb : BindsTo s fd ⟨pos, kw⟩ (ps.zip us)) (r : Vals vs us) (il : IsL g.X.K H ds vs) (h : sp ds M Q g.E) : wpAny (model g.X.prog g.X.w) g.X.A (call (.ref f) pos kw) (DEP g pins σ e M H Q) g.X.xe s := by
  refine wpAny_call (codeAny_mono (F.run g.X.A g.X.stack s H ⟨pos, kw⟩ us vs ds M Q g.E (lowQ g.X.K M H Q) (wxOf g.X.K M H g.E) G.room G.gu I.inv.env0 hb r il I.mr fin_low (fun _ _ _ z => z) h) fun q s' hq => ?_)
  cases q with
  | error err => exact passes_call G.tk (fun c d σ' H' z => by
      obtain ⟨M', fs, f', m', x', q⟩ := z
      exact ⟨M', fs, I.fr.trans f', m', x', q⟩) pins σ H s err s' I.inv hq
  | ok fl =>
    cases fl with
    | ret u =>
      obtain ⟨v, H', J, rv, d, M', i, m, f, q⟩ := I.inv.after hq
      exact ⟨v, d, H', M', rv, i, I.next J m f, f, q⟩
    | next => exact False.elim hq
    | brk => exact False.elim hq
    | cont => exact False.elim hq
theorem DA.run {t : DTA} (h : DA g xs t) (pos : Pos) {pins : List (Addr × Obj)} {s : Shared} {σ : L2.St} {H : Hp} {e : Sl} {M : Mem} {Q : List D → Mem → Prop} (I : SI g pins σ H s e M) (q : t e M Q g.E) :
    wpAny (model g.X.prog g.X.w) g.X.A (spliced (backTo pos (starEach xs g.X.env))) (DAP g pins σ e M H Q) g.X.xe s := by
  obtain ⟨t', pa, ka⟩ := h.pa
  refine thn (pa.run pos pins s σ H (fun vs H' => ∃ ds M', IsL g.X.K H' ds vs ∧ MRel g.X.K M' H' ∧ Fr M H M' H' ∧ Q ds M') I.inv (ka σ H e M Q _ I.sl I.mr I.fr q fun ds vs M' H' l m f q => ⟨ds, M', l, m, f, q⟩)) fun us s' z => ?_
  obtain ⟨vs, H', J, r, ds, M', l, m, f, q⟩ := z
  exact ⟨vs, ds, H', M', r, l, I.next J m f, f, q⟩
end
theorem lawG_call {P : Program} {w : World} {K : PySem.W.Frag} {mg mb : Str → Option Value} {k : Nat} {fa a : Addr} {fd : FuncData} {x : Str} {sp : DSp} {s1 : Shared} {vs : List Value} {ns : List Int}
    (KX : K.In s1.heap) (hns : s1.heap.Ns mainGlobals mg) (hb : s1.heap.Ns builtinsNs mb) (hbb : ∀ x : Str, x ≠ "__name__" → mb x = bootBuiltins x) (hlim : s1.heap.NoLimit) (hg : s1.gens = #[])
    (ha : s1.heap.get? a = some { cls := .type "list", data := .seq vs.toArray }) (hi : IntsAre vs ns) (hl : ns.length ≤ sizeLine) (hr : Room k callerA)
    (F : ∀ base : Heap, K.In base → base.Ns mainGlobals mg → FnG P w K mg base k fa fd [x] sp) (hbind : ∀ (s : Shared) (u : Value), BindsTo s fd ⟨[u], []⟩ [(x, u)])
    (hsp : sp [.rl (ns.map D.int)] (fun _ => none) (fun d _ => d = .bl true) EF) :
    codeAny (model P w) callerA (.call (.ref fa) ⟨[.ref a], []⟩) (fun r s' => r = .ok (.ret (.bool true)) ∧ OldK s1.heap s'.heap ∧ s'.os = s1.os ∧ AllBare s'.gens) s1 := by
  have rv : Vals (ns.map V.int) vs := vals_of_ints hi
  have main : ∀ H : Hp, RdL K H a (ns.map V.int) → HOk P w H s1.heap → (∀ b u, H b = some u → b = a ∧ ∃ o, u = .frz o (.lst (ns.map V.int))) → (∀ b o, K.lookup b = some o → H b = none) →
      codeAny (model P w) callerA (.call (.ref fa) ⟨[.ref a], []⟩) (fun r s' => r = .ok (.ret (.bool true)) ∧ OldK s1.heap s'.heap ∧ s'.os = s1.os ∧ AllBare s'.gens) s1 := by
    intro H hR hok hA hK
    have clear : ∀ {b : Addr} {o : Obj} {es : Array DictEntry} {ep : Nat}, s1.heap.get? b = some o → o.data = .dict es ep → H b = none := fun {b o es ep} e d => by
      cases q : H b with
      | none => rfl
      | some u =>
        obtain ⟨rfl, _⟩ := hA b u q
        rw [ha] at e
        cases e
        cases (show Data.seq vs.toArray _ = Data.dict es ep from d)
    have nsB : ∀ {b : Addr} {m : Str → Option Value}, s1.heap.Ns b m → (hidT s1.heap H).Ns b m := fun {b m} z => by
      obtain ⟨o, es, ep, e, d, z⟩ := z
      exact ⟨o, es, ep, hidT_get e (clear e d), d, z⟩
    have kB : K.In (hidT s1.heap H) := fun b o e => hidT_get (KX b o e) (hK b o e)
    have mB : Mod K mg (hidT s1.heap H) := ⟨kB, nsB hns, ⟨mb, nsB hb, hbb⟩, let ⟨m, h1, h2⟩ := hlim; ⟨m, nsB h1, h2⟩⟩
    have e0 : Env0 P w K mg (hidT s1.heap H) callerA [] s1 H := ⟨rfl, mB, fun b o e => of_hidT e, Nat.le_of_eq (hidT_size _ _), trivial, (fun b z => by cases z), hok, .of_eq hg⟩
    have mr : MRel K (fun _ => none) H := fun b o e => by cases e
    have il : IsL K H [D.rl (ns.map D.int)] [V.ref a] := IsL.mk (is_rl.mpr ⟨a, _, rfl, hR, isL_map (fun _ => ii_int) ns⟩) (isL_nil.mpr rfl)
    have run := (F _ kB (nsB hns)).run callerA [] s1 H ⟨[.ref a], []⟩ [.ref a] [.ref a] [D.rl (ns.map D.int)] (fun _ => none) (fun d _ => d = .bl true) EF (fun v _ => v = .bl true) (fun _ _ _ => False) hr rfl e0 (hbind s1 (.ref a)) (.cons rfl .nil) il mr
      (fun v d M' H' i _ _ q => by subst q; exact is_bl.mp i) (fun c d H' z => by obtain ⟨_, _, _, _, _, z⟩ := z; exact z) hsp
    refine codeAny_mono run fun r s' z => ?_
    cases r with
    | error e => obtain ⟨_, _, _, _, _, _, _, _, _, _, _, _, z⟩ := z; exact z.elim
    | ok fl =>
      cases fl with
      | next => exact False.elim z
      | brk => exact False.elim z
      | cont => exact False.elim z
      | ret u =>
        obtain ⟨v, H', os, bare, un, hok', r', q⟩ := z
        obtain rfl : v = .bl true := q
        obtain rfl : u = Value.bool true := r'
        refine ⟨rfl, OldK.of_keep fun b o e => ?_, os, bare⟩
        cases q : H b with
        | none => exact un.keep b o e q (fun y => by cases y) (fun y => by cases y)
        | some u =>
          obtain ⟨rfl, ob, rfl⟩ := hA b u q
          obtain ⟨e1, _⟩ := hok b _ q
          obtain ⟨e2, _⟩ := hok' b _ (un.frzs b ob _ q)
          rw [e] at e1
          cases e1
          exact e2
  have lv : vs.length = ns.length := hi.length
  cases hk : K.lookup a with
  | some o =>
    have e := KX a o hk
    rw [ha] at e
    cases e
    exact main (fun _ => none) (.inr ⟨_, vs.toArray, _, hk, rfl, rfl, rfl, by rw [List.size_toArray, lv]; exact hl, by simpa using rv⟩) (fun b u z => by cases z) (fun b u z => by cases z) fun _ _ _ => rfl
  | none =>
    refine main (fun b => if b = a then some (.frz { cls := .type "list", data := .seq vs.toArray } (.lst (ns.map V.int))) else none) (.inl ⟨_, if_pos rfl⟩) (fun b u z => ?_) (fun b u z => ?_) fun b o e => ?_
    · dsimp only at z
      split at z
      · rename_i hb
        cases z
        subst hb
        exact ⟨ha, by rw [List.length_map]; exact hl, vs, _, rv, ha⟩
      · cases z
    · split at z
      · rename_i hb
        cases z
        exact ⟨hb, _, rfl⟩
      · cases z
    · exact if_neg fun z => by rw [z, hk] at e; cases e
theorem walkG {l : PySem.W.OpenLaw} {n k : Nat} {q : Program} {loose : List Str} {XP : (Str → Option Value) → Heap → Prop} {YP : World → Heap → Prop} {d : DefRec} {x : Str}
    (hn : l.most = some n) (hn2 : n ≤ sizeLine) (hdf : d.params.defaults = []) (hr : Room k callerA)
    (F : ∀ (w : World) (mg : Str → Option Value) (fa : Addr) (h : Heap), YP w h → h.Ns mainGlobals mg → mg d.name = some (.ref fa) →
      ∃ (K : PySem.W.Frag) (fd : FuncData) (sp : DSp), K.In h ∧ (∀ (s : Shared) (u : Value), BindsTo s fd ⟨[u], []⟩ [(x, u)]) ∧
        (∀ ns : List Int, ns.length ≤ n → sp [.rl (ns.map D.int)] (fun _ => none) (fun d _ => d = .bl true) EF) ∧
        ∀ base : Heap, K.In base → base.Ns mainGlobals mg → FnG l.prog w K mg base k fa fd [x] sp) :
    PySem.W.WalkO q loose XP YP l.row.toRowW d [] (fun f vs => PySem.call f vs) := by
  refine Att.attach_call hn hdf fun w s0 s1 mg mb fa o pm cd doc a vs ns G Y ho hd hcd hmg hobj hints hlen hg => ?_
  obtain ⟨K, fd, sp, KX, hb, hsp, hF⟩ := F w mg fa _ Y G.T.g hmg
  exact lawG_call KX G.T.g G.T.b G.T.builtins G.T.nolimit hg hobj hints (Nat.le_trans hlen hn2) hr hF hb (hsp ns hlen)
end DL

namespace DL
open PySem PySem.Spec PyProof.Rows L2
section
variable {K : PySem.W.Frag} {H : Hp}
theorem isL_one {d : D} {vs : List V} (l : IsL K H [d] vs) : ∃ v, vs = [v] ∧ Is K H d v := by
  rw [isL_cons] at l
  obtain ⟨v, r, rfl, i, l⟩ := l
  rw [isL_nil] at l
  subst l
  exact ⟨v, rfl, i⟩
theorem isL_two {d e : D} {vs : List V} (l : IsL K H [d, e] vs) : ∃ v u, vs = [v, u] ∧ Is K H d v ∧ Is K H e u := by
  rw [isL_cons] at l
  obtain ⟨v, r, rfl, i, l⟩ := l
  obtain ⟨u, rfl, j⟩ := isL_one l
  exact ⟨v, u, rfl, i, j⟩
theorem isL_ints {xs : List Int} {vs : List V} (l : IsL K H (xs.map D.int) vs) : vs = xs.map V.int := by
  induction xs generalizing vs with
  | nil => rw [List.map_nil, isL_nil] at l; exact l
  | cons x xs ih =>
    rw [List.map_cons, isL_cons] at l
    obtain ⟨v, r, rfl, i, l⟩ := l
    rw [is_int] at i
    rw [i, ih l]; rfl
theorem isL_strs {xs : List Str} {vs : List V} (l : IsL K H (xs.map D.str) vs) : vs = xs.map V.str := by
  induction xs generalizing vs with
  | nil => rw [List.map_nil, isL_nil] at l; exact l
  | cons x xs ih =>
    rw [List.map_cons, isL_cons] at l
    obtain ⟨v, r, rfl, i, l⟩ := l
    rw [is_str] at i
    rw [i, ih l]; rfl
theorem isL_bls {xs : List Bool} {vs : List V} (l : IsL K H (xs.map D.bl) vs) : vs = xs.map V.bl := by
  induction xs generalizing vs with
  | nil => rw [List.map_nil, isL_nil] at l; exact l
  | cons x xs ih =>
    rw [List.map_cons, isL_cons] at l
    obtain ⟨v, r, rfl, i, l⟩ := l
    rw [is_bl] at i
    rw [i, ih l]; rfl
end
section
variable {X : Cx}
def rAbs : RnD := fun ds M Q => match ds with | [.int i] => Q (.int (if i < 0 then -i else i)) M | _ => False
theorem cd_abs : CallD X (.builtin "abs") rAbs := by
  refine ⟨_, call_abs, fun M H Mo Ho vs ds Q QV m f l fin q => ?_⟩
  match ds, q with
  | [.int i], q =>
    obtain ⟨v, rfl, j⟩ := isL_one l
    rw [is_int] at j
    exact ⟨i, by rw [j], fin _ _ _ _ ii_int m f q⟩
def rLenD : RnD := fun ds M Q => match ds with
  | [.str z] => z.length ≤ sizeLine ∧ Q (.int z.length) M
  | [.tup xs] => Q (.int xs.length) M
  | [.rl xs] => Q (.int xs.length) M
  | [.tx xs] => Q (.int xs.length) M
  | [.ref a] => (∃ xs, M a = some (.lst xs) ∧ Q (.int xs.length) M) ∨ ∃ kvs, M a = some (.dK kvs) ∧ Q (.int kvs.length) M
  | _ => False
theorem call_lenDict : CallR X (.builtin "len") (fun xs H Q => ∃ a kvs, xs = [.ref a] ∧ H a = some (.dK kvs) ∧ Q (.int kvs.length) H) := by
  intro pins s σ H xs us Q I r h
  obtain ⟨a, kvs, rfl, h, q⟩ := h
  rw [Vals.ref1 r]
  exact d_len I (.inl h) fun t s' I' => ⟨.int kvs.length, H, I', ⟨t, rfl⟩, q⟩
theorem cd_len : CallD X (.builtin "len") rLenD := by
  refine ⟨_, call_len.or call_lenDict, fun M H Mo Ho vs ds Q QV m f l fin q => ?_⟩
  match ds, q with
  | [.str z], q =>
    obtain ⟨v, rfl, j⟩ := isL_one l
    rw [is_str] at j
    subst j
    exact .inl ⟨_, z.length, rfl, ⟨q.1, rfl⟩, fin _ _ _ _ ii_int m f q.2⟩
  | [.tup xs], q =>
    obtain ⟨v, rfl, j⟩ := isL_one l
    rw [is_tup] at j
    obtain ⟨a, ws, rfl, e, l1⟩ := j
    exact .inl ⟨_, xs.length, rfl, .inr ⟨ws, SqT.of e, l1.length.symm⟩, fin _ _ _ _ ii_int m f q⟩
  | [.rl xs], q =>
    obtain ⟨v, rfl, j⟩ := isL_one l
    rw [is_rl] at j
    obtain ⟨a, ws, rfl, e, l1⟩ := j
    exact .inl ⟨_, xs.length, rfl, .inl ⟨ws, e.sq, l1.length.symm⟩, fin _ _ _ _ ii_int m f q⟩
  | [.tx xs], q =>
    obtain ⟨v, rfl, j⟩ := isL_one l
    rw [is_tx] at j
    obtain ⟨a, ws, rfl, e, l1⟩ := j
    exact .inl ⟨_, xs.length, rfl, .inr ⟨ws, e.sq, l1.length.symm⟩, fin _ _ _ _ ii_int m f q⟩
  | [.ref a], q =>
    obtain ⟨v, rfl, j⟩ := isL_one l
    rw [is_ref] at j
    subst j
    rcases q with ⟨xs, h, q⟩ | ⟨kvs, h, q⟩
    · obtain ⟨ws, e, l1⟩ := m a _ h
      exact .inl ⟨_, xs.length, rfl, .inl ⟨ws, SqL.of e, l1.length.symm⟩, fin _ _ _ _ ii_int m f q⟩
    · obtain ⟨ws, e, r⟩ := m a _ h
      exact .inr ⟨a, ws, rfl, e, by rw [KRel.length r]; exact fin _ _ _ _ ii_int m f q⟩
def rInt : RnD := fun ds M Q => match ds with
  | [.int i] => Q (.int i) M
  | [.bl b] => Q (.int (if b = true then 1 else 0)) M
  | _ => False
theorem cd_int : CallD X (.type "int") rInt := by
  refine ⟨_, call_int1, fun M H Mo Ho vs ds Q QV m f l fin q => ?_⟩
  match ds, q with
  | [.int i], q =>
    obtain ⟨v, rfl, j⟩ := isL_one l
    rw [is_int] at j
    exact .inl ⟨i, by rw [j], fin _ _ _ _ ii_int m f q⟩
  | [.bl b], q =>
    obtain ⟨v, rfl, j⟩ := isL_one l
    rw [is_bl] at j
    exact .inr ⟨b, by rw [j], fin _ _ _ _ ii_int m f q⟩
theorem cmp_strs_lt {P : Program} {w : World} {A : Around} {R : Nat → Value → Prop} (x : Nat → Str) (h : ∀ i v, R i v → ∃ t, v = .str (x i) t) : CmpOf P w A .Lt R (fun i j => ltS (x i) (x j)) := fun i j vi vj s Q E hi hj q => by
  obtain ⟨t, rfl⟩ := h i vi hi
  obtain ⟨u, rfl⟩ := h j vj hj
  have := PySem.P.lt_str (prog := P) (w := w) (A := A) (E := E) (s := s) (x := x i) (y := x j) (t := t) (u := u) (Q := Q) q
  exact this
theorem cmp_strs_gt {P : Program} {w : World} {A : Around} {R : Nat → Value → Prop} (x : Nat → Str) (h : ∀ i v, R i v → ∃ t, v = .str (x i) t) : CmpOf P w A .Gt R (fun i j => ltS (x j) (x i)) := fun i j vi vj s Q E hi hj q => by
  obtain ⟨t, rfl⟩ := h i vi hi
  obtain ⟨u, rfl⟩ := h j vj hj
  have := PySem.P.gt_str (prog := P) (w := w) (A := A) (E := E) (s := s) (x := x i) (y := x j) (t := t) (u := u) (Q := Q)
  exact this q
theorem two_strs (mx : Bool) (hc : X.calm = true) : CallR X (.builtin (if mx then "max" else "min")) (fun xs H Q => ∃ a b, xs = [.str a, .str b] ∧ Q (.str (if (if mx then ltS a b else ltS b a) = true then b else a)) H) := by
  intro pins s σ H xs us Q I r h
  obtain ⟨a, b, rfl, q⟩ := h
  obtain ⟨u1, u2, rfl, ⟨t, rfl⟩, ⟨u, rfl⟩⟩ := vals2 r
  have hh : X.A.in1.handled = none := I.ok.hd hc
  have hT : (s.heap.push { cls := .type "tuple", data := .seq #[.str a t, .str b u] }).IsTuple s.heap.objs.size #[.str a t, .str b u] := ⟨_, Heap.get?_push_size _ rfl, rfl, 0, rfl⟩
  have hsz : (s.heap.push { cls := .type "tuple", data := .seq #[.str a t, .str b u] }).objs.size = s.heap.objs.size + 1 := Heap.size_push ..
  have at_ : ∀ (i : Nat) (v : Value), (#[Value.str a t, .str b u] : Array Value)[i]? = some v → ∃ t', v = .str (if i = 0 then a else b) t' := fun i v e => by
    match i, e with
    | 0, e => simp at e; exact ⟨t, by rw [← e]; rfl⟩
    | 1, e => simp at e; exact ⟨u, by rw [← e]; rfl⟩
    | i + 2, e => simp at e
  have fpok : ∀ c ∈ [(s.heap.push { cls := .type "tuple", data := .seq #[.str a t, .str b u] }).objs.size, s.heap.objs.size], c < ((s.heap.push { cls := .type "tuple", data := .seq #[.str a t, .str b u] }).push { cls := .type "tuple_iterator", data := .fields #[.ref s.heap.objs.size, rawInt 0] }).objs.size := fun c h => by
    rw [Heap.size_push, hsz]
    simp only [List.mem_cons, List.not_mem_nil, or_false] at h
    rcases h with rfl | rfl
    · rw [hsz]; exact Nat.lt_succ_self _
    · exact Nat.lt_succ_of_lt (Nat.lt_succ_self _)
  have old : ∀ (h' : Heap), (∀ c o, c ∉ [(s.heap.push { cls := .type "tuple", data := .seq #[.str a t, .str b u] }).objs.size] → ((s.heap.push { cls := .type "tuple", data := .seq #[.str a t, .str b u] }).push { cls := .type "tuple_iterator", data := .fields #[.ref s.heap.objs.size, rawInt 0] }).get? c = some o → h'.get? c = some o) →
      ∀ c o, s.heap.get? c = some o → h'.get? c = some o := fun h' hk c o e => by
    refine hk c o (fun hm => ?_) (Heap.get?_push_of_some _ (Heap.get?_push_of_some _ e))
    have e1 := List.mem_singleton.mp hm
    have l := Heap.lt_size e
    rw [e1, hsz] at l
    exact Nat.lt_irrefl _ (Nat.lt_of_succ_lt l)
  have st0 : ∀ (o : Obj), o = { cls := .type "tuple_iterator", data := .fields #[.ref s.heap.objs.size, rawInt 0] } → ((s.heap.push { cls := .type "tuple", data := .seq #[.str a t, .str b u] }).push o).IsTupleIter (s.heap.push { cls := .type "tuple", data := .seq #[.str a t, .str b u] }).objs.size s.heap.objs.size 0 := fun o e => by
    subst e
    exact ⟨_, Heap.get?_push_size _ rfl, rfl, rfl⟩
  have ne : s.heap.objs.size ≠ (s.heap.push { cls := .type "tuple", data := .seq #[.str a t, .str b u] }).objs.size := by rw [hsz]; exact Nat.ne_of_lt (Nat.lt_succ_self _)
  cases mx with
  | true =>
    refine call_max_two (wpAny_pyIter_tuple hT ⟨_, _, _, _, _, _, _, rfl, Walks.tuple hh _ s.heap.objs.size ne #[.str a t, .str b u], ⟨st0 _ rfl, hT.push _⟩, fpok, by simp, cmp_strs_gt (fun i => if i = 0 then a else b) at_, fun v h' tk hP hk => ?_⟩)
    refine ⟨.str (if ltS a b = true then b else a), H, I.kept (old h' hk), ?_, by simpa using q⟩
    by_cases c : ltS a b = true
    · have e : argBest (fun i j => ltS (if j = 0 then a else b) (if i = 0 then a else b)) 1 = 1 := by simp [argBest, c]
      have hP' : (#[Value.str a t, .str b u] : Array Value)[argBest (fun i j => ltS (if j = 0 then a else b) (if i = 0 then a else b)) 1]? = some v := hP
      rw [e] at hP'
      simp at hP'
      rw [if_pos c, ← hP']
      exact ⟨u, rfl⟩
    · have e : argBest (fun i j => ltS (if j = 0 then a else b) (if i = 0 then a else b)) 1 = 0 := by simp [argBest, c]
      have hP' : (#[Value.str a t, .str b u] : Array Value)[argBest (fun i j => ltS (if j = 0 then a else b) (if i = 0 then a else b)) 1]? = some v := hP
      rw [e] at hP'
      simp at hP'
      rw [if_neg c, ← hP']
      exact ⟨t, rfl⟩
  | false =>
    refine call_min_two (wpAny_pyIter_tuple hT ⟨_, _, _, _, _, _, _, rfl, Walks.tuple hh _ s.heap.objs.size ne #[.str a t, .str b u], ⟨st0 _ rfl, hT.push _⟩, fpok, by simp, cmp_strs_lt (fun i => if i = 0 then a else b) at_, fun v h' tk hP hk => ?_⟩)
    refine ⟨.str (if ltS b a = true then b else a), H, I.kept (old h' hk), ?_, by simpa using q⟩
    by_cases c : ltS b a = true
    · have e : argBest (fun i j => ltS (if i = 0 then a else b) (if j = 0 then a else b)) 1 = 1 := by simp [argBest, c]
      have hP' : (#[Value.str a t, .str b u] : Array Value)[argBest (fun i j => ltS (if i = 0 then a else b) (if j = 0 then a else b)) 1]? = some v := hP
      rw [e] at hP'
      simp at hP'
      rw [if_pos c, ← hP']
      exact ⟨u, rfl⟩
    · have e : argBest (fun i j => ltS (if i = 0 then a else b) (if j = 0 then a else b)) 1 = 0 := by simp [argBest, c]
      have hP' : (#[Value.str a t, .str b u] : Array Value)[argBest (fun i j => ltS (if i = 0 then a else b) (if j = 0 then a else b)) 1]? = some v := hP
      rw [e] at hP'
      simp at hP'
      rw [if_neg c, ← hP']
      exact ⟨t, rfl⟩
def rMin2 : RnD := fun ds M Q => match ds with
  | [.int i, .int j] => Q (.int (if j < i then j else i)) M
  | [.str a, .str b] => Q (.str (if ltS b a = true then b else a)) M
  | _ => False
def rMax2 : RnD := fun ds M Q => match ds with
  | [.int i, .int j] => Q (.int (if j > i then j else i)) M
  | [.str a, .str b] => Q (.str (if ltS a b = true then b else a)) M
  | _ => False
theorem cd_min2 (hc : X.calm = true) : CallD X (.builtin "min") rMin2 := by
  refine ⟨_, (call_min2 hc).or (two_strs false hc), fun M H Mo Ho vs ds Q QV m f l fin q => ?_⟩
  match ds, q with
  | [.int i, .int j], q =>
    obtain ⟨v, u, rfl, h1, h2⟩ := isL_two l
    rw [is_int] at h1 h2
    exact .inl ⟨i, j, by rw [h1, h2], fin _ _ _ _ ii_int m f q⟩
  | [.str i, .str j], q =>
    obtain ⟨v, u, rfl, h1, h2⟩ := isL_two l
    rw [is_str] at h1 h2
    exact .inr ⟨i, j, by rw [h1, h2], fin _ _ _ _ ii_str m f q⟩
theorem cd_max2 (hc : X.calm = true) : CallD X (.builtin "max") rMax2 := by
  refine ⟨_, (call_max2 hc).or (two_strs true hc), fun M H Mo Ho vs ds Q QV m f l fin q => ?_⟩
  match ds, q with
  | [.int i, .int j], q =>
    obtain ⟨v, u, rfl, h1, h2⟩ := isL_two l
    rw [is_int] at h1 h2
    exact .inl ⟨i, j, by rw [h1, h2], fin _ _ _ _ ii_int m f q⟩
  | [.str i, .str j], q =>
    obtain ⟨v, u, rfl, h1, h2⟩ := isL_two l
    rw [is_str] at h1 h2
    exact .inr ⟨i, j, by rw [h1, h2], fin _ _ _ _ ii_str m f q⟩
def rTuple : RnD := fun ds M Q => match ds with
  | [.tup xs] => Q (.tup xs) M
  | [.rl xs] => Q (.tup xs) M
  | [.tx xs] => Q (.tx xs) M
  | [.ref a] => ∃ xs, M a = some (.lst xs) ∧ Q (.tup xs) M
  | _ => False
theorem cd_tuple : CallD X (.type "tuple") rTuple := by
  refine ⟨_, call_tuple_of, fun M H Mo Ho vs ds Q QV m f l fin q => ?_⟩
  match ds, q with
  | [.tup xs], q =>
    obtain ⟨v, rfl, j⟩ := isL_one l
    have j0 := j
    rw [is_tup] at j
    obtain ⟨a, ws, rfl, e, l1⟩ := j
    exact ⟨a, ws, rfl, .inr ⟨SqT.of e, fin _ _ _ _ j0 m f q⟩⟩
  | [.rl xs], q =>
    obtain ⟨v, rfl, j⟩ := isL_one l
    rw [is_rl] at j
    obtain ⟨a, ws, rfl, e, l1⟩ := j
    exact ⟨a, ws, rfl, .inl ⟨e.sq, fin.newT m f l1 q⟩⟩
  | [.tx xs], q =>
    obtain ⟨v, rfl, j⟩ := isL_one l
    have j0 := j
    rw [is_tx] at j
    obtain ⟨a, ws, rfl, e, l1⟩ := j
    exact ⟨a, ws, rfl, .inr ⟨e.sq, fin _ _ _ _ j0 m f q⟩⟩
  | [.ref a], q =>
    obtain ⟨v, rfl, j⟩ := isL_one l
    rw [is_ref] at j
    subst j
    obtain ⟨xs, h, q⟩ := q
    obtain ⟨ws, e, l1⟩ := m a _ h
    exact ⟨a, ws, rfl, .inl ⟨SqL.of e, fin.newT m f l1 q⟩⟩
def rList : RnD := fun ds M Q => match ds with
  | [.tup xs] => ∀ p, M p = none → Q (.ref p) (wr M p (.lst xs))
  | [.rl xs] => ∀ p, M p = none → Q (.ref p) (wr M p (.lst xs))
  | [.tx xs] => ∀ p, M p = none → Q (.ref p) (wr M p (.lst xs))
  | [.ref a] => ∃ xs, M a = some (.lst xs) ∧ ∀ p, M p = none → Q (.ref p) (wr M p (.lst xs))
  | [.str x] => x.length ≤ sizeLine ∧ ∀ p, M p = none → Q (.ref p) (wr M p (.lst (signs x)))
  | _ => False
theorem call_listStr (hc : X.calm = true) : CallR X (.type "list") (fun xs H Q => ∃ x : Str, xs = [.str x] ∧ x.length ≤ sizeLine ∧ ∀ p, H p = none → Q (.ref p) (upd H p (.lst (x.cps.toList.map fun c => V.str ⟨#[c]⟩)))) := by
  intro pins s σ H xs us Q I r h
  obtain ⟨x, rfl, hx, q⟩ := h
  obtain ⟨u1, rfl, ⟨t, rfl⟩⟩ := vals1 r
  refine call_list_str (I.ok.hd hc) x t (hn := hx) fun h' tk acc c hk hS hacc => ?_
  have hlen : acc.size = x.cps.size := by rw [hacc.1]
  have rel : Vals (x.cps.toList.map fun c => V.str ⟨#[c]⟩) acc.toList := by
    refine vals_of_at (by simp [hlen]) fun j y u h1 h2 => ?_
    obtain ⟨c', u', h3, rfl⟩ := hacc.2 j u (by simpa using h2)
    rw [List.getElem?_map, Array.getElem?_toList, h3] at h1
    cases h1
    exact ⟨u', rfl⟩
  refine ⟨.ref _, _, I.laid (a := s.heap.objs.size) (o := .lst (x.cps.toList.map fun c => V.str ⟨#[c]⟩)) hk (Nat.le_refl _) ⟨by simpa [Str.length] using hx, acc.toList, c, rel, by simpa using hS⟩, rfl, q _ (I.hok.fresh (Nat.le_refl _))⟩
theorem cd_list (hc : X.calm = true) : CallD X (.type "list") rList := by
  refine ⟨_, call_list_of.or (call_listStr hc), fun M H Mo Ho vs ds Q QV m f l fin q => ?_⟩
  match ds, q with
  | [.tup xs], q =>
    obtain ⟨v, rfl, j⟩ := isL_one l
    rw [is_tup] at j
    obtain ⟨a, ws, rfl, e, l1⟩ := j
    exact .inl ⟨a, ws, rfl, .inr (SqT.of e), fin.newL m f l1 q⟩
  | [.rl xs], q =>
    obtain ⟨v, rfl, j⟩ := isL_one l
    rw [is_rl] at j
    obtain ⟨a, ws, rfl, e, l1⟩ := j
    exact .inl ⟨a, ws, rfl, .inl e.sq, fin.newL m f l1 q⟩
  | [.tx xs], q =>
    obtain ⟨v, rfl, j⟩ := isL_one l
    rw [is_tx] at j
    obtain ⟨a, ws, rfl, e, l1⟩ := j
    exact .inl ⟨a, ws, rfl, .inr e.sq, fin.newL m f l1 q⟩
  | [.ref a], q =>
    obtain ⟨v, rfl, j⟩ := isL_one l
    rw [is_ref] at j
    subst j
    obtain ⟨xs, h, q⟩ := q
    obtain ⟨ws, e, l1⟩ := m a _ h
    exact .inl ⟨a, ws, rfl, .inl (SqL.of e), fin.newL m f l1 q⟩
  | [.str x], q =>
    obtain ⟨v, rfl, j⟩ := isL_one l
    rw [is_str] at j
    subst j
    exact .inr ⟨x, rfl, q.1, fin.newL m f (isL_map (fun _ => ii_str) _) q.2⟩
end
end DL

namespace DL
open PySem PySem.Spec PyProof.Rows L2
theorem extend_tup (l : Addr) (items : Array Value) (n : Nat) (b : Addr) (d : Option Addr) (sl : Array (Option Value)) (items2 : Array Value) (n2 : Nat) (hs0 : ¬(!items.isEmpty && Builtin.List.listTooLong (items.size + items2.size)) = true) (hs1 : items.size ≤ sizeLine) (hs2 : items.size + items2.size ≤ sizeLine + 1) :
    Meets (Builtin.«list.extend» ⟨[.ref l, .ref b], []⟩) (fun _ R s => s.heap.get? l = some { cls := .type "list", dict := none, data := .seq items n, slots := #[] } ∧ s.heap.get? b = some { cls := .type "tuple", dict := d, data := .seq items2 n2, slots := sl } ∧ R (.ok (.ret Value.none)) { s with heap := s.heap.update l (Obj.mapSeq fun x => x ++ items2), toks := s.toks }) :=
  .of_wp fun prog w A R s h => by
    obtain ⟨hp, g, d, tk, os⟩ := s
    obtain ⟨hl, hb, h⟩ := h
    have f1 := AutoSeq1.idx_int
    have f2 := AutoSeq1.sub_tuple_tuple
    have f3 := AutoSeq1.sub_list_list
    have f4 := AutoSeq1.sub_tuple_list
    have f5 := AutoSeq1.sub_list_tuple
    have hz' : (items ++ items2).size ≤ sizeLine + 1 := by rw [Array.size_append]; exact hs2
    wp_walk using (wpAny_updateSeq hl rfl (hz := hs1) (_hz' := hz')), AutoSeq1.wpAny_loadPart' hl, AutoSeq1.wpAny_loadPart' hb
    exact ⟨_, rfl, h⟩
theorem extend_lst (l : Addr) (items : Array Value) (n : Nat) (b : Addr) (d : Option Addr) (sl : Array (Option Value)) (items2 : Array Value) (n2 : Nat) (hs0 : ¬(!items.isEmpty && Builtin.List.listTooLong (items.size + items2.size)) = true) (hs1 : items.size ≤ sizeLine) (hs2 : items.size + items2.size ≤ sizeLine + 1) :
    Meets (Builtin.«list.extend» ⟨[.ref l, .ref b], []⟩) (fun _ R s => s.heap.get? l = some { cls := .type "list", dict := none, data := .seq items n, slots := #[] } ∧ s.heap.get? b = some { cls := .type "list", dict := d, data := .seq items2 n2, slots := sl } ∧ R (.ok (.ret Value.none)) { s with heap := s.heap.update l (Obj.mapSeq fun x => x ++ items2), toks := s.toks }) :=
  .of_wp fun prog w A R s h => by
    obtain ⟨hp, g, d, tk, os⟩ := s
    obtain ⟨hl, hb, h⟩ := h
    have f1 := AutoSeq1.idx_int
    have f2 := AutoSeq1.sub_tuple_tuple
    have f3 := AutoSeq1.sub_list_list
    have f4 := AutoSeq1.sub_tuple_list
    have f5 := AutoSeq1.sub_list_tuple
    have hz' : (items ++ items2).size ≤ sizeLine + 1 := by rw [Array.size_append]; exact hs2
    wp_walk using (wpAny_updateSeq hl rfl (hz := hs1) (_hz' := hz')), AutoSeq1.wpAny_loadPart' hl, AutoSeq1.wpAny_loadPart' hb
    exact ⟨_, rfl, h⟩
section
variable {X : Cx}
def rExtendT : V → List V → Hp → VK → Prop := fun x vs H Q => ∃ l b xs zs, x = .ref l ∧ vs = [.ref b] ∧ H l = some (.lst xs) ∧ SqT X.K H b zs ∧ xs.length + zs.length ≤ sizeLine ∧ Q .non (upd H l (.lst (xs ++ zs)))
theorem mt_extendT : MtM X "list.extend" (rExtendT (X := X)) := by
  intro pins s σ H x vs v us Q I rx rv h
  obtain ⟨l, b, xs, zs, rfl, rfl, hH, hB, hz, q⟩ := h
  cases rx
  obtain ⟨u, rfl, ru⟩ := rv.one
  cases ru
  obtain ⟨z, its, n, r, hl, e⟩ := I.lstM hH
  obtain ⟨its2, r2, ⟨⟨c2, d2, s2, l2⟩, e2, hc2, n2, hd2⟩, z2⟩ := I.tuple hB
  simp only at hc2 hd2
  subst hc2 hd2
  have hl2 := r2.length
  have hsz : its.toArray.size + its2.toArray.size ≤ sizeLine := by rw [List.size_toArray, List.size_toArray]; omega
  have hlong : ¬ (!its.toArray.isEmpty && Builtin.List.listTooLong (its.toArray.size + its2.toArray.size)) = true := by
    rw [notLongL hsz, Bool.and_false]
    exact Bool.false_ne_true
  refine call_meets F.slot_list_extend ⟨_, e, rfl⟩ F.entry_list_extend (F.args_list_extend_2 _ _)
    (extend_tup l its.toArray n b d2 l2 its2.toArray n2 hlong (by rw [List.size_toArray]; omega) (by omega)) ⟨e, e2, ?_⟩
  refine ⟨.non, _, I.lset (its' := its ++ its2) hH e (by simp) (r.append r2) ?_, rfl, q⟩
  rw [List.length_append]
  omega
def rExtendL : V → List V → Hp → VK → Prop := fun x vs H Q => ∃ l b xs zs, x = .ref l ∧ vs = [.ref b] ∧ H l = some (.lst xs) ∧ SqL X.K H b zs ∧ xs.length + zs.length ≤ sizeLine ∧ Q .non (upd H l (.lst (xs ++ zs)))
theorem mt_extendL : MtM X "list.extend" (rExtendL (X := X)) := by
  intro pins s σ H x vs v us Q I rx rv h
  obtain ⟨l, b, xs, zs, rfl, rfl, hH, hB, hz, q⟩ := h
  cases rx
  obtain ⟨u, rfl, ru⟩ := rv.one
  cases ru
  obtain ⟨z, its, n, r, hl, e⟩ := I.lstM hH
  obtain ⟨its2, r2, ⟨⟨c2, d2, s2, l2⟩, n2, e2, hc2, hn2, hd2⟩, z2⟩ := I.list hB
  simp only at hc2 hd2
  subst hc2 hd2
  have hl2 := r2.length
  have hsz : its.toArray.size + its2.toArray.size ≤ sizeLine := by rw [List.size_toArray, List.size_toArray]; omega
  have hlong : ¬ (!its.toArray.isEmpty && Builtin.List.listTooLong (its.toArray.size + its2.toArray.size)) = true := by
    rw [notLongL hsz, Bool.and_false]
    exact Bool.false_ne_true
  refine call_meets F.slot_list_extend ⟨_, e, rfl⟩ F.entry_list_extend (F.args_list_extend_2 _ _)
    (extend_lst l its.toArray n b d2 l2 its2.toArray n2 hlong (by rw [List.size_toArray]; omega) (by omega)) ⟨e, e2, ?_⟩
  refine ⟨.non, _, I.lset (its' := its ++ its2) hH e (by simp) (r.append r2) ?_, rfl, q⟩
  rw [List.length_append]
  omega
end
end DL

namespace DL
open PySem PySem.Spec PyProof.Rows L2
mutual
inductive RdN (h : Heap) : Value → PyData → Prop
  | non : RdN h .none .none
  | bl (b : Bool) : RdN h (.bool b) (.bool b)
  | int (i : Int) (t : Tok) : RdN h (.int i t) (.int i)
  | str (x : Str) (t : Tok) : RdN h (.str x t) (.str x)
  | lst {a : Addr} {o : Obj} {vs : Array Value} {n : Nat} {xs : List PyData} (e : h.get? a = some o) (c : o.cls = .type "list") (d : o.data = .seq vs n) (r : RdNs h vs.toList xs) : RdN h (.ref a) (.list xs)
  | tup {a : Addr} {o : Obj} {vs : Array Value} {n : Nat} {xs : List PyData} (e : h.get? a = some o) (c : o.cls = .type "tuple") (d : o.data = .seq vs n) (r : RdNs h vs.toList xs) : RdN h (.ref a) (.tuple xs)
  | dct {a : Addr} {o : Obj} {es : Array DictEntry} {n : Nat} {kvs : List (PyData × PyData)} (e : h.get? a = some o) (c : o.cls = .type "dict") (d : o.data = .dict es n) (z : (a == sysModules) = false)
      (r1 : RdNs h (es.toList.map fun x => x.key) (kvs.map Prod.fst)) (r2 : RdNs h (es.toList.map fun x => x.val) (kvs.map Prod.snd)) : RdN h (.ref a) (.dict kvs)
inductive RdNs (h : Heap) : List Value → List PyData → Prop
  | nil : RdNs h [] []
  | cons {v : Value} {vs : List Value} {d : PyData} {ds : List PyData} (r1 : RdN h v d) (r2 : RdNs h vs ds) : RdNs h (v :: vs) (d :: ds)
end
mutual
theorem RdN.rd {h : Heap} : ∀ {v : Value} {d : PyData}, RdN h v d → ∃ as, Reads h v d as
  | _, _, .non => ⟨_, .none⟩
  | _, _, .bl b => ⟨_, .bool b⟩
  | _, _, .int i t => ⟨_, .int i t⟩
  | _, _, .str x t => ⟨_, .str x t⟩
  | _, _, .lst e c d r => let ⟨_, q⟩ := RdNs.rd r; ⟨_, .list e c d q⟩
  | _, _, .tup e c d r => let ⟨_, q⟩ := RdNs.rd r; ⟨_, .tuple e c d q⟩
  | _, _, .dct e c d _ r1 r2 => let ⟨_, q1⟩ := RdNs.rd r1; let ⟨_, q2⟩ := RdNs.rd r2; ⟨_, .dict e c d q1 q2⟩
theorem RdNs.rd {h : Heap} : ∀ {vs : List Value} {ds : List PyData}, RdNs h vs ds → ∃ as, ReadsAll h vs ds as
  | _, _, .nil => ⟨_, .nil⟩
  | _, _, .cons r1 r2 => let ⟨_, q1⟩ := RdN.rd r1; let ⟨_, q2⟩ := RdNs.rd r2; ⟨_, .cons q1 q2⟩
end
section
variable {prog : Program} {w : World} {h : Heap}
theorem RdN.fresh {a : Addr} {d : PyData} {n : Nat} {bs : List Addr} (r : RdN h (.ref a) d) (l : n < d.depth) (hb : ReadAtMost h n bs) : a ∉ bs := by
  obtain ⟨as, q⟩ := r.rd
  exact not_mem_of_deeper q l hb
theorem RdN.top {a : Addr} {d : PyData} {n : Nat} {bs : List Addr} (r : RdN h (.ref a) d) (l : n ≤ d.depth) (hb : ReadAtMost h n bs) : ReadAtMost h d.depth (a :: bs) := by
  obtain ⟨as, q⟩ := r.rd
  exact hb.cons q l
theorem two_entries {bs cs : List Addr} {es : List DictEntry} {kvs : List (PyData × PyData)} (k1 : ReprAllK prog w bs h (PyData.depthAll (kvs.map Prod.fst)) (es.map fun x => x.key) (PyData.shownAll (kvs.map Prod.fst))) (k2 : ReprAllK prog w cs h (PyData.depthAll (kvs.map Prod.snd)) (es.map fun x => x.val) (PyData.shownAll (kvs.map Prod.snd))) :
    ReprEntriesK prog w (bs ++ cs) h (PyData.depthKv kvs) es (PyData.shownKv kvs) := by
  rw [PyData.shownKv_eq]
  refine ReprEntriesK.of_two es _ _ (k1.more_le (fun b hb => ?_) (PyData.depthAll_keys_le kvs)) (k2.more_le (fun b hb => ?_) (PyData.depthAll_vals_le kvs))
  · exact List.mem_append.mpr (.inl hb)
  · exact List.mem_append.mpr (.inr hb)
mutual
theorem RdN.rk : ∀ {v : Value} {d : PyData}, RdN h v d → d.showable = true → d.shown.length ≤ sizeLine → ∃ bs, ReadAtMost h d.depth bs ∧ ReprK prog w bs h d.depth v d.shown
  | _, _, .non, _, _ => ⟨[], fun _ z => (nomatch z), by rw [PyData.shown]; exact ReprK.of_is ReprIs.none [] h _⟩
  | _, _, .bl b, _, _ => ⟨[], fun _ z => (nomatch z), by rw [PyData.shown]; exact ReprK.of_is (ReprIs.bool b) [] h _⟩
  | _, _, .int i t, s, _ => ⟨[], fun _ z => (nomatch z), by rw [PyData.shown]; exact ReprK.of_is (ReprIs.int t (by simpa [PyData.showable] using s)) [] h _⟩
  | _, _, .str x t, _, l => ⟨[], fun _ z => (nomatch z), by rw [PyData.shown] at l ⊢; exact ReprK.of_is (ReprIs.str x t l) [] h _⟩
  | _, .list xs, .lst (vs := vs) e c d r, s, l => by
    have l' : (listText (PyData.shownAll xs)).length ≤ sizeLine := by rw [PyData.shown] at l; exact l
    obtain ⟨bs, hb, k⟩ := RdNs.rk r (by rw [PyData.showable] at s; exact s) fun t ht => Nat.le_trans (listText_mem_le ht) l'
    have q := RdN.lst e c d r
    refine ⟨_, q.top (by rw [PyData.depth]; omega) hb, ?_⟩
    have no := q.fresh (by rw [PyData.depth]; omega) hb
    rw [PyData.depth, PyData.shown]
    obtain ⟨vl⟩ := vs
    cases vl with
    | cons y l => exact ReprK.list e c d no (by simpa using k.length_eq) fun i y z => k.item i y (by simpa using z)
    | nil =>
      cases (show RdNs h [] xs from r)
      rw [PyData.shownAll, listText_nil]
      exact ReprK.listEmpty e c d
  | _, .tuple xs, .tup e c d r, s, l => by
    have l' : (tupleText (PyData.shownAll xs)).length ≤ sizeLine := by rw [PyData.shown] at l; exact l
    obtain ⟨bs, hb, k⟩ := RdNs.rk r (by rw [PyData.showable] at s; exact s) fun t ht => Nat.le_trans (tupleText_mem_le ht) l'
    have q := RdN.tup e c d r
    refine ⟨_, q.top (by rw [PyData.depth]; omega) hb, ?_⟩
    rw [PyData.depth, PyData.shown]
    exact ReprK.tuple e c d (q.fresh (by rw [PyData.depth]; omega) hb) k
  | _, .dict kvs, .dct e c d z r1 r2, s, l => by
    have l' : (dictText (PyData.shownKv kvs)).length ≤ sizeLine := by rw [PyData.shown] at l; exact l
    rw [PyData.showable] at s
    obtain ⟨s1, s2⟩ := PyData.showableKv_split kvs s
    obtain ⟨b1, h1, k1⟩ := RdNs.rk r1 s1 fun t ht => by
      obtain ⟨p, hp, lp⟩ := PyData.shownKv_key_le kvs t ht
      have := dictText_mem_le hp
      omega
    obtain ⟨b2, h2, k2⟩ := RdNs.rk r2 s2 fun t ht => by
      obtain ⟨p, hp, lp⟩ := PyData.shownKv_val_le kvs t ht
      have := dictText_mem_le hp
      omega
    have hb := (h1.mono (PyData.depthAll_keys_le kvs)).append (h2.mono (PyData.depthAll_vals_le kvs))
    have q := RdN.dct e c d z r1 r2
    refine ⟨_, q.top (by rw [PyData.depth]; omega) hb, ?_⟩
    have no := q.fresh (by rw [PyData.depth]; omega) hb
    rw [PyData.depth, PyData.shown]
    exact ReprK.dict e c d z no (two_entries k1 k2)
theorem RdNs.rk : ∀ {vs : List Value} {ds : List PyData}, RdNs h vs ds → PyData.showableAll ds = true → (∀ t ∈ PyData.shownAll ds, t.length ≤ sizeLine) →
    ∃ bs, ReadAtMost h (PyData.depthAll ds) bs ∧ ReprAllK prog w bs h (PyData.depthAll ds) vs (PyData.shownAll ds)
  | _, _, .nil, _, _ => ⟨[], fun _ z => (nomatch z), by rw [PyData.shownAll]; exact .nil⟩
  | _, _, .cons (d := d) (ds := ds) r1 r2, s, l => by
    rw [PyData.showableAll, Bool.and_eq_true] at s
    obtain ⟨b1, h1, k1⟩ := RdN.rk r1 s.1 (l _ (by rw [PyData.shownAll]; exact List.mem_cons_self))
    obtain ⟨b2, h2, k2⟩ := RdNs.rk r2 s.2 fun t ht => l t (by rw [PyData.shownAll]; exact List.mem_cons_of_mem _ ht)
    rw [PyData.depthAll, PyData.shownAll]
    refine ⟨b1 ++ b2, (h1.mono (Nat.le_max_left _ _)).append (h2.mono (Nat.le_max_right _ _)), .cons ((k1.more fun b hb => ?_).level_le (Nat.le_max_left _ _)) (k2.more_le (fun b hb => ?_) (Nat.le_max_right _ _))⟩
    · exact List.mem_append.mpr (.inl hb)
    · exact List.mem_append.mpr (.inr hb)
end
theorem call_reprN {A : Around} {E : Value → Shared → Prop} {s : Shared} {Q : Value → Shared → Prop} {a : Addr} : ∀ {d : PyData}, RdN s.heap (.ref a) d → d.showable = true → d.shown.length ≤ sizeLine → A.guards = some [] → A.units + (d.depth + 1) < cLine →
    (∀ h' u tk, (∀ b o, s.heap.get? b = some o → h'.get? b = some o) → Q (.str d.shown u) { s with heap := h', toks := tk }) → wpAny (model prog w) A (call (.builtin "repr") [.ref a]) Q E s
  | .list xs, .lst (vs := vs) e c d r, hs, l, hg, hu, q => by
    have l' : (listText (PyData.shownAll xs)).length ≤ sizeLine := by rw [PyData.shown] at l; exact l
    obtain ⟨bs, hb, k⟩ := RdNs.rk (prog := prog) (w := w) r (by rw [PyData.showable] at hs; exact hs) fun t ht => Nat.le_trans (listText_mem_le ht) l'
    have no := (RdN.lst e c d r).fresh (by rw [PyData.depth]; omega) hb
    rw [PyData.depth] at hu
    rw [PyData.shown] at q
    refine call_repr_slot (by omega) ⟨_, e, c⟩ F.slot_list_repr.toG ?_
    obtain ⟨vl⟩ := vs
    cases vl with
    | nil =>
      cases (show RdNs s.heap [] xs from r)
      rw [PyData.shownAll, listText_nil] at q
      exact call_list_repr_empty ⟨_, e, c⟩ e d ⟨_, _, rfl, q s.heap _ _ fun _ _ z => z⟩
    | cons y vl =>
      exact call_list_reprK e c d no (by simpa using k.length_eq) (fun i y z => k.item i y (by simpa using z)) hg (fun b _ => Clear.nil b) (by show A.units + 1 + _ < cLine; omega) (fun _ _ z => z) (fun h' u tk hk => ⟨_, _, rfl, q h' u tk hk⟩) l'
  | .tuple xs, .tup e c d r, hs, l, hg, hu, q => by
    have l' : (tupleText (PyData.shownAll xs)).length ≤ sizeLine := by rw [PyData.shown] at l; exact l
    obtain ⟨bs, hb, k⟩ := RdNs.rk (prog := prog) (w := w) r (by rw [PyData.showable] at hs; exact hs) fun t ht => Nat.le_trans (tupleText_mem_le ht) l'
    have no := (RdN.tup e c d r).fresh (by rw [PyData.depth]; omega) hb
    rw [PyData.depth] at hu
    rw [PyData.shown] at q
    refine call_repr_slot (by omega) ⟨_, e, c⟩ F.slot_tuple_repr ?_
    exact call_tuple_reprK e c d no k hg (fun b _ => Clear.nil b) (by show A.units + 1 + _ < cLine; omega) (fun _ _ z => z) (fun h' u tk hk => ⟨_, _, rfl, q h' u tk hk⟩) l'
  | .dict kvs, .dct e c d z r1 r2, hs, l, hg, hu, q => by
    have l' : (dictText (PyData.shownKv kvs)).length ≤ sizeLine := by rw [PyData.shown] at l; exact l
    obtain ⟨bs, hb, k⟩ := (RdN.dct e c d z r1 r2).rk (prog := prog) (w := w) hs l
    rw [PyData.showable] at hs
    obtain ⟨s1, s2⟩ := PyData.showableKv_split kvs hs
    obtain ⟨b1, h1, k1⟩ := RdNs.rk (prog := prog) (w := w) r1 s1 fun t ht => by
      obtain ⟨p, hp, lp⟩ := PyData.shownKv_key_le kvs t ht
      have := dictText_mem_le hp
      omega
    obtain ⟨b2, h2, k2⟩ := RdNs.rk (prog := prog) (w := w) r2 s2 fun t ht => by
      obtain ⟨p, hp, lp⟩ := PyData.shownKv_val_le kvs t ht
      have := dictText_mem_le hp
      omega
    have no := (RdN.dct e c d z r1 r2).fresh (by rw [PyData.depth]; omega) ((h1.mono (PyData.depthAll_keys_le kvs)).append (h2.mono (PyData.depthAll_vals_le kvs)))
    rw [PyData.depth] at hu
    rw [PyData.shown] at q
    refine call_repr_slot (by omega) ⟨_, e, c⟩ F.slot_dict_repr ?_
    exact call_dict_reprK e c d z no (two_entries k1 k2) hg (fun b _ => Clear.nil b) (by show A.units + 1 + _ < cLine; omega) (fun _ _ z => z) (fun h' u tk hk => ⟨_, _, rfl, q h' u tk hk⟩) l'
end
theorem kvs_zip {X : Cx} {kvs : List (Key × V)} {vs : List (Key × Value)} (r : KV kvs vs) : vs.map Prod.fst = kvs.map Prod.fst ∧ Vals (kvs.map Prod.snd) (vs.map Prod.snd) := by
  unfold KV at r
  induction r with
  | nil => exact ⟨rfl, .nil⟩
  | cons h t ih => exact ⟨by rw [List.map_cons, List.map_cons, ih.1, h.1], .cons h.2 ih.2⟩
theorem pairs_keys {P : Program} {w : World} {h : Heap} {es : List DictEntry} {vs : List (Key × Value)} (p : Pairs (mixKind P w) es vs) : RdNs h (es.map fun x => x.key) ((vs.map Prod.fst).map kPy) ∧ (es.map fun x => x.val) = vs.map Prod.snd := by
  induction p with
  | nil => exact ⟨.nil, rfl⟩
  | @cons e kv es kvs h1 h2 _ ih =>
    refine ⟨.cons ?_ ih.1, by rw [List.map_cons, List.map_cons, h2, ih.2]⟩
    obtain ⟨k, v⟩ := kv
    rcases keyIs_shape (show keyIs k e.key = true from h1) with ⟨i, t, e1, e2⟩ | ⟨x, t, e1, e2⟩
    · show RdN h e.key (kPy k); rw [e2, e1]; exact .int i t
    · show RdN h e.key (kPy k); rw [e2, e1]; exact .str x t
theorem pdl_len {M : Mem} : ∀ {ds : List D} {ps : List PyData}, PDL M ds ps → ds.length = ps.length
  | _, _, .nil => rfl
  | _, _, .cons _ r => by rw [List.length_cons, List.length_cons, pdl_len r]
theorem isL_len {K : PySem.W.Frag} {H : Hp} : ∀ {ds : List D} {vs : List V}, IsL K H ds vs → ds.length = vs.length
  | [], vs, h => by rw [isL_nil] at h; subst h; rfl
  | d :: ds, vs, h => by
    rw [isL_cons] at h
    obtain ⟨v, r, rfl, _, h⟩ := h
    rw [List.length_cons, List.length_cons, isL_len h]
section
variable {X : Cx} {pins : List (Addr × Obj)} {σ : L2.St} {H : Hp} {s : Shared} {M : Mem}
mutual
theorem PD.rdN (I : Inv X pins σ H s) (m : MRel X.K M H) : ∀ {d : D} {p : PyData} {v : V} {u : Value}, PD M d p → Is X.K H d v → RelV v u → RdN s.heap u p
  | _, _, _, _, .non, i, r => by rw [is_non] at i; subst i; cases r; exact .non
  | _, _, _, _, .bl b, i, r => by rw [is_bl] at i; subst i; cases r; exact .bl b
  | _, _, _, _, .int k, i, r => by rw [is_int] at i; subst i; obtain ⟨t, rfl⟩ := r; exact .int k t
  | _, _, _, _, .str x, i, r => by rw [is_str] at i; subst i; obtain ⟨t, rfl⟩ := r; exact .str x t
  | _, _, _, _, .tup hl, i, r => by
    rw [is_tup] at i
    obtain ⟨a, vs, rfl, hs, il⟩ := i
    cases r
    obtain ⟨its, rv, ⟨o, ho, hc, n, hd⟩, _⟩ := I.tuple (SqT.of (K := X.K) hs)
    exact .tup ho hc hd (PDL.rdN I m hl il rv)
  | _, _, _, _, .tx hl, i, r => by
    rw [is_tx] at i
    obtain ⟨a, vs, rfl, hs, il⟩ := i
    cases r
    obtain ⟨its, rv, ⟨o, ho, hc, n, hd⟩, _⟩ := I.tuple (hs.sq (K := X.K))
    exact .tup ho hc hd (PDL.rdN I m hl il rv)
  | _, _, _, _, .rl hl, i, r => by
    rw [is_rl] at i
    obtain ⟨a, vs, rfl, hs, il⟩ := i
    cases r
    obtain ⟨its, rv, ⟨o, n, ho, hc, _, hd⟩, _⟩ := I.list hs.sq
    exact .lst ho hc hd (PDL.rdN I m hl il rv)
  | _, _, _, _, .lst (a := a) hM hl, i, r => by
    rw [is_ref] at i
    subst i; cases r
    obtain ⟨vs, hs, il⟩ := m a _ hM
    obtain ⟨its, rv, ⟨o, n, ho, hc, _, hd⟩, _⟩ := I.list (SqL.of (K := X.K) hs)
    exact .lst ho hc hd (PDL.rdN I m hl il rv)
  | _, _, _, _, .dK (a := a) (kvs := kvs) hM hl, i, r => by
    rw [is_ref] at i
    subst i; cases r
    obtain ⟨ws, hs, ek, il⟩ := m a _ hM
    obtain ⟨_, hz, vs, kv, o, es, ep, ho, hc, hd, _, hp, _⟩ := dk_of I.hok hs
    obtain ⟨e1, rv⟩ := kvs_zip (X := X) kv
    obtain ⟨p1, p2⟩ := pairs_keys (h := s.heap) hp
    have ln := pdl_len hl
    refine .dct ho hc.1 hd hz ?_ ?_
    · rw [List.map_fst_zip (by rw [List.length_map, ← ln, List.length_map]; exact Nat.le_refl _)]
      rw [e1, ek, List.map_map] at p1
      exact p1
    · rw [List.map_snd_zip (by rw [List.length_map, ← ln, List.length_map]; exact Nat.le_refl _), p2]
      exact PDL.rdN I m hl il rv
  | _, _, _, _, .rk (ks := ks) (ds := ds) hl, i, r => by
    rw [is_rk] at i
    obtain ⟨a, ws, rfl, ⟨fo, hs⟩, ek, il⟩ := i
    cases r
    obtain ⟨_, hz, vs, kv, o, es, ep, ho, hc, hd, _, hp, _⟩ := dk_rd I.hok (.inr ⟨fo, hs⟩)
    obtain ⟨e1, rv⟩ := kvs_zip (X := X) kv
    obtain ⟨p1, p2⟩ := pairs_keys (h := s.heap) hp
    have ln := pdl_len hl
    have ln2 := isL_len il
    have lk : ks.length = ds.length := by rw [← ek, List.length_map, ln2, List.length_map]
    refine .dct ho hc.1 hd hz ?_ ?_
    · rw [List.map_fst_zip (by rw [List.length_map, ← ln, lk]; exact Nat.le_refl _)]
      rw [e1, ek] at p1
      exact p1
    · rw [List.map_snd_zip (by rw [List.length_map, ← ln, lk]; exact Nat.le_refl _), p2]
      exact PDL.rdN I m hl il rv
theorem PDL.rdN (I : Inv X pins σ H s) (m : MRel X.K M H) : ∀ {ds : List D} {ps : List PyData} {vs : List V} {us : List Value}, PDL M ds ps → IsL X.K H ds vs → Vals vs us → RdNs s.heap us ps
  | _, _, _, _, .nil, i, r => by rw [isL_nil] at i; subst i; cases r; exact .nil
  | _, _, _, _, .cons h1 h2, i, r => by
    rw [isL_cons] at i
    obtain ⟨v, rr, rfl, i1, i2⟩ := i
    cases r with
    | cons r1 r2 => exact .cons (PD.rdN I m h1 i1 r1) (PDL.rdN I m h2 i2 r2)
end
end
end DL

namespace DL
open PySem PySem.Spec PyProof.Rows L2
section
variable {X : Cx}
def listAt (M : Mem) (d : D) (R : List D → Prop) : Prop := match d with
  | .rl xs => R xs
  | .ref a => ∃ xs, M a = some (.lst xs) ∧ R xs
  | _ => False
theorem listAt_low {M : Mem} {H : Hp} {d : D} {v : V} {R : List D → Prop} (m : MRel X.K M H) (i : Is X.K H d v) (q : listAt M d R) : ∃ a vs xs, v = .ref a ∧ SqL X.K H a vs ∧ IsL X.K H xs vs ∧ R xs := by
  cases d with
  | rl xs =>
    rw [is_rl] at i
    obtain ⟨a, ws, rfl, e, l⟩ := i
    exact ⟨a, ws, xs, rfl, e.sq, l, q⟩
  | ref a =>
    rw [is_ref] at i
    obtain ⟨xs, h, q⟩ := q
    obtain ⟨ws, e, l⟩ := m a _ h
    exact ⟨a, ws, xs, i, SqL.of e, l, q⟩
  | _ => exact q.elim
def rBools (c : List Bool → Bool) : RnD := fun ds M Q => match ds with | [d] => listAt M d fun xs => ∃ bs, xs = bs.map D.bl ∧ Q (.bl (c bs)) M | _ => False
theorem cd_all (hc : X.calm = true) : CallD X (.builtin "all") (rBools fun bs => bs.all id) := by
  refine ⟨_, cr_all hc, fun M H Mo Ho vs ds Q QV m f l fin q => ?_⟩
  match ds, q with
  | [d], q =>
    obtain ⟨v, rfl, j⟩ := isL_one l
    obtain ⟨a, ws, xs, rfl, s, l1, bs, rfl, q⟩ := listAt_low m j q
    exact ⟨a, bs, rfl, by rw [← isL_bls l1]; exact s, fin _ _ _ _ ii_bl m f q⟩
theorem cd_any (hc : X.calm = true) : CallD X (.builtin "any") (rBools fun bs => bs.any id) := by
  refine ⟨_, cr_any hc, fun M H Mo Ho vs ds Q QV m f l fin q => ?_⟩
  match ds, q with
  | [d], q =>
    obtain ⟨v, rfl, j⟩ := isL_one l
    obtain ⟨a, ws, xs, rfl, s, l1, bs, rfl, q⟩ := listAt_low m j q
    exact ⟨a, bs, rfl, by rw [← isL_bls l1]; exact s, fin _ _ _ _ ii_bl m f q⟩
def rSumD : RnD := fun ds M Q => match ds with | [d] => listAt M d fun xs => ∃ ns : List Int, xs = ns.map D.int ∧ Q (.int ns.sum) M | _ => False
theorem cd_sum (hc : X.calm = true) : CallD X (.builtin "sum") rSumD := by
  refine ⟨_, cr_sum hc, fun M H Mo Ho vs ds Q QV m f l fin q => ?_⟩
  match ds, q with
  | [d], q =>
    obtain ⟨v, rfl, j⟩ := isL_one l
    obtain ⟨a, ws, xs, rfl, s, l1, ns, rfl, q⟩ := listAt_low m j q
    exact ⟨a, ns, rfl, by rw [← isL_ints l1]; exact s, fin _ _ _ _ ii_int m f q⟩
def rSortedD : RnD := fun ds M Q => match ds with
  | [d] => listAt M d fun xs => (∃ ss : List Str, xs = ss.map D.str ∧ ss.length < 64 ∧ ∀ ys : List Str, ys.Perm ss → sortedS ys = true → ∀ p, M p = none → Q (.ref p) (wr M p (.lst (ys.map D.str)))) ∨
      ∃ ns : List Int, xs = ns.map D.int ∧ ns.length < 64 ∧ ∀ ys : List Int, ys.Perm ns → ys.Pairwise (· ≤ ·) → ∀ p, M p = none → Q (.ref p) (wr M p (.lst (ys.map D.int)))
  | _ => False
theorem cd_sorted : CallD X (.builtin "sorted") rSortedD := by
  refine ⟨_, cr_sortedS.or cr_sorted, fun M H Mo Ho vs ds Q QV m f l fin q => ?_⟩
  match ds, q with
  | [d], q =>
    obtain ⟨v, rfl, j⟩ := isL_one l
    obtain ⟨a, ws, xs, rfl, s, l1, q⟩ := listAt_low m j q
    rcases q with ⟨ss, rfl, h64, q⟩ | ⟨ns, rfl, h64, q⟩
    · refine .inl ⟨a, ss, rfl, by rw [← isL_strs l1]; exact s, h64, fun ys p h1 h2 hp => ?_⟩
      exact fin.newL m f (isL_map (fun _ => ii_str) ys) (q ys h1 h2) p hp
    · refine .inr ⟨a, ns, rfl, by rw [← isL_ints l1]; exact s, h64, fun ys p h1 h2 hp => ?_⟩
      exact fin.newL m f (isL_map (fun _ => ii_int) ys) (q ys h1 h2) p hp
def rRepr : RnD := fun ds M Q => match ds with
  | [d] => ∃ p, PD M d p ∧ p.showable = true ∧ p.shown.length ≤ sizeLine ∧ p.depth ≤ 64 ∧ Q (.str p.shown) M
  | _ => False
theorem call_reprP (hg : X.A.guards = some []) (hu : X.A.units + 70 < cLine) : CallR X (.builtin "repr") (fun xs H Q => ∃ v M d p, xs = [v] ∧ MRel X.K M H ∧ Is X.K H d v ∧ PD M d p ∧ p.showable = true ∧ p.shown.length ≤ sizeLine ∧ p.depth ≤ 64 ∧ Q (.str p.shown) H) := by
  intro pins s σ H xs us Q I r h
  obtain ⟨v, M, d, p, rfl, m, i, hp, h1, h2, h3, q⟩ := h
  obtain ⟨u, rfl, ru⟩ := vals1 r
  have hr := PD.rdN I m hp i ru
  have viaRef : ∀ a, u = .ref a → wpAny (model X.prog X.w) X.A (call (.builtin "repr") [u]) (EP X pins σ Q) X.xe s := fun a e => by
    subst e
    exact call_reprN hr h1 h2 hg (by omega) (fun h' t tk k => ⟨.str _, H, I.kept k, ⟨_, rfl⟩, q⟩)
  cases hr with
  | non => exact PySem.P.repr_of_none ⟨.str "None", H, I.tok _, ⟨_, rfl⟩, q⟩
  | bl b => exact PySem.P.repr_of_bool ⟨.str (if b then "True" else "False"), H, I.tok _, ⟨_, rfl⟩, q⟩
  | int k t => exact PySem.P.repr_of_int (by simpa [PyData.showable] using h1) ⟨.str (toString k), H, I.tok _, ⟨_, rfl⟩, q⟩
  | str x t => exact PySem.P.repr_of_str ⟨.str (reprText x), H, I.tok _, ⟨_, rfl⟩, q⟩ h2
  | lst _ _ _ _ => exact viaRef _ rfl
  | tup _ _ _ _ => exact viaRef _ rfl
  | dct _ _ _ _ _ _ => exact viaRef _ rfl
theorem cd_repr (hg : X.A.guards = some []) (hu : X.A.units + 70 < cLine) : CallD X (.builtin "repr") rRepr := by
  refine ⟨_, call_reprP hg hu, fun M H Mo Ho vs ds Q QV m f l fin q => ?_⟩
  match ds, q with
  | [d], q =>
    obtain ⟨v, rfl, j⟩ := isL_one l
    obtain ⟨p, h1, h3, h4, h5, q⟩ := q
    exact ⟨v, M, d, p, rfl, m, j, h1, h3, h4, h5, fin _ _ _ _ ii_str m f q⟩
def tyName : D → Option String
  | .non => some "NoneType"
  | .bl _ => some "bool"
  | .int _ => some "int"
  | .str _ => some "str"
  | .tup _ => some "tuple"
  | .rl _ => some "list"
  | .tx _ => some "tuple"
  | .rk _ _ => some "dict"
  | _ => none
def hasTy (M : Mem) (d : D) (T : String) : Prop := match d with
  | .ref a => (T = "list" ∧ ∃ xs, M a = some (.lst xs)) ∨ (T = "dict" ∧ ∃ kvs, M a = some (.dK kvs)) ∨ (T = "#ins" ∧ ∃ C fs, M a = some (.ins C fs))
  | _ => tyName d = some T
theorem kitD_low {K : PySem.W.Frag} {T c : String} {b : Bool} (n : T ≠ "#ins") (e : kitD T c = some b) : PySem.W.kitOne K (.type T) (.type c) = some b := by
  unfold kitD at e
  rw [if_neg n] at e
  exact kit_ty e
theorem hasTy_low {M : Mem} {H : Hp} {d : D} {v : V} {T : String} (m : MRel X.K M H) (i : Is X.K H d v) (h : hasTy M d T) : ∃ t, TyX X.K H v t ∧ ∀ c b, kitD T c = some b → PySem.W.kitOne X.K t (.type c) = some b := by
  have st : ∀ n : String, n ≠ "#ins" → TyX X.K H v (.type n) → n = T → ∃ t, TyX X.K H v t ∧ ∀ c b, kitD T c = some b → PySem.W.kitOne X.K t (.type c) = some b := fun n hn z e => by
    subst e
    exact ⟨_, z, fun c b => kitD_low hn⟩
  cases d with
  | non => rw [is_non] at i; subst i; exact st _ (by decide) (.base .non) (Option.some.inj h)
  | bl b => rw [is_bl] at i; subst i; exact st _ (by decide) (.base (.bl b)) (Option.some.inj h)
  | int b => rw [is_int] at i; subst i; exact st _ (by decide) (.base (.int b)) (Option.some.inj h)
  | str b => rw [is_str] at i; subst i; exact st _ (by decide) (.base (.str b)) (Option.some.inj h)
  | tup xs => rw [is_tup] at i; obtain ⟨a, vs, rfl, e, l⟩ := i; exact st _ (by decide) (.base (.tup e)) (Option.some.inj h)
  | rl xs =>
    rw [is_rl] at i
    obtain ⟨a, vs, rfl, e, l⟩ := i
    rcases e with ⟨o, e⟩ | ⟨o, its, n, e, c, _⟩
    · exact st _ (by decide) (.base (.frz e)) (Option.some.inj h)
    · exact st _ (by decide) (.kList e c) (Option.some.inj h)
  | tx xs => rw [is_tx] at i; obtain ⟨a, vs, rfl, ⟨o, e, _⟩, l⟩ := i; exact st _ (by decide) (.fTuple e) (Option.some.inj h)
  | rk ks xs => rw [is_rk] at i; obtain ⟨a, ws, rfl, ⟨o, e⟩, _, l⟩ := i; exact st _ (by decide) (.fDict e) (Option.some.inj h)
  | ref a =>
    rw [is_ref] at i
    subst i
    rcases h with ⟨rfl, xs, h⟩ | ⟨rfl, kvs, h⟩ | ⟨rfl, C, fs, h⟩
    · obtain ⟨ws, e, _⟩ := m a _ h
      exact st _ (by decide) (.base (.lst e)) rfl
    · obtain ⟨ws, e, _⟩ := m a _ h
      exact st _ (by decide) (.base (.dK e)) rfl
    · obtain ⟨dx, ws, e, _, _, it⟩ := m a _ h
      refine ⟨_, it.ty e, fun c b z => ?_⟩
      unfold kitD at z
      rw [if_pos rfl] at z
      split at z
      · rename_i hc
        cases z
        exact it.kit hc
      · cases z
  | ty n => cases h
def rIsiD : RnD := fun ds M Q => match ds with
  | [d, .ty c] => ∃ T, hasTy M d T ∧ ∃ b, kitD T c = some b ∧ Q (.bl b) M
  | _ => False
theorem cd_isi : CallD X (.builtin "isinstance") rIsiD := by
  refine ⟨_, call_isi, fun M H Mo Ho vs ds Q QV m f l fin q => ?_⟩
  match ds, q with
  | [d, .ty c], q =>
    obtain ⟨v, u, rfl, i, j⟩ := isL_two l
    rw [is_ty] at j
    subst j
    obtain ⟨T, h, b, e, q⟩ := q
    obtain ⟨t, ht, hk⟩ := hasTy_low m i h
    exact ⟨v, .ty c, t, _, b, rfl, .ty c, ht, hk _ _ e, fin _ _ _ _ ii_bl m f q⟩
def mJoin : RmD := fun x ds M Q => match x with
  | .str a => (match ds with
    | [d] => (match d with
      | .tup xs => ∃ ys : List Str, xs = ys.map D.str ∧ (ys.map (·.length)).sum + ys.length * a.length ≤ 16777216 ∧ Q (.str (Txt.join a ys)) M
      | d => listAt M d fun xs => ∃ ys : List Str, xs = ys.map D.str ∧ (ys.map (·.length)).sum + ys.length * a.length ≤ 16777216 ∧ Q (.str (Txt.join a ys)) M)
    | _ => False)
  | _ => False
theorem md_join : MtD X "str" "join" "str.join" mJoin := by
  refine ⟨PySem.F.plainAttrs_str, PySem.F.slot_str_join, PySem.F.type_str_join, _, mt_join, fun M H Mo Ho x a vs ds Q QV m f i l fin q => ?_⟩
  cases a with
  | str a =>
    rw [is_str] at i
    match ds, q with
    | [d], q =>
      obtain ⟨v, rfl, j⟩ := isL_one l
      cases d with
      | tup xs =>
        obtain ⟨ys, rfl, hz, q⟩ := q
        rw [is_tup] at j
        obtain ⟨p, ws, rfl, e, l1⟩ := j
        exact ⟨a, p, ys, i, rfl, .inr (by rw [← isL_strs l1]; exact SqT.of e), hz, fin _ _ _ _ ii_str m f q⟩
      | rl xs =>
        have q : listAt M (.rl xs) fun xs => ∃ ys : List Str, xs = ys.map D.str ∧ (ys.map (·.length)).sum + ys.length * a.length ≤ 16777216 ∧ Q (.str (Txt.join a ys)) M := q
        obtain ⟨p, ws, zs, rfl, s, l1, ys, rfl, hz, q⟩ := listAt_low m j q
        exact ⟨a, p, ys, i, rfl, .inl (by rw [← isL_strs l1]; exact s), hz, fin _ _ _ _ ii_str m f q⟩
      | ref b =>
        have q : listAt M (.ref b) fun xs => ∃ ys : List Str, xs = ys.map D.str ∧ (ys.map (·.length)).sum + ys.length * a.length ≤ 16777216 ∧ Q (.str (Txt.join a ys)) M := q
        obtain ⟨p, ws, zs, rfl, s, l1, ys, rfl, hz, q⟩ := listAt_low m j q
        exact ⟨a, p, ys, i, rfl, .inl (by rw [← isL_strs l1]; exact s), hz, fin _ _ _ _ ii_str m f q⟩
      | _ => exact q.elim
  | _ => exact q.elim
def mUpper : RmD := fun x ds M Q => match x with
  | .str a => ds = [] ∧ a.length ≤ 5592405 ∧ Q (.str (Txt.upper a)) M
  | _ => False
theorem md_upper : MtD X "str" "upper" "str.upper" mUpper := by
  refine ⟨PySem.F.plainAttrs_str, PySem.F.slot_str_upper, PySem.F.type_str_upper, _, mt_upper, fun M H Mo Ho x a vs ds Q QV m f i l fin q => ?_⟩
  cases a with
  | str a =>
    rw [is_str] at i
    obtain ⟨rfl, hz, q⟩ := q
    rw [isL_nil] at l
    exact ⟨a, i, l, hz, fin _ _ _ _ ii_str m f q⟩
  | _ => exact q.elim
def mAppend : RmD := fun x ds M Q => match x with
  | .ref a => (match ds with | [d] => ∃ xs, M a = some (.lst xs) ∧ xs.length < sizeLine ∧ Q .non (wr M a (.lst (xs ++ [d]))) | _ => False)
  | _ => False
theorem md_append : MtD X "list" "append" "list.append" mAppend := by
  refine ⟨PySem.F.plainAttrs_list, PySem.F.slot_list_append, PySem.F.type_list_append, _, mt_append, fun M H Mo Ho x a vs ds Q QV m f i l fin q => ?_⟩
  cases a with
  | ref a =>
    rw [is_ref] at i
    match ds, q with
    | [d], q =>
      obtain ⟨v, rfl, j⟩ := isL_one l
      obtain ⟨xs, h, hz, q⟩ := q
      obtain ⟨ws, e, l1⟩ := m a _ h
      exact ⟨a, ws, v, i, rfl, e, by rw [l1.length]; exact hz, fin.setL m f h (l1.append (IsL.mk j (isL_nil.mpr rfl))) ii_non q⟩
  | _ => exact q.elim
def mExtend : RmD := fun x ds M Q => match x with
  | .ref a => (match ds with
    | [.ref b] => ∃ xs zs, M a = some (.lst xs) ∧ M b = some (.lst zs) ∧ xs.length + zs.length ≤ sizeLine ∧ Q .non (wr M a (.lst (xs ++ zs)))
    | [.tup zs] => ∃ xs, M a = some (.lst xs) ∧ xs.length + zs.length ≤ sizeLine ∧ Q .non (wr M a (.lst (xs ++ zs)))
    | [.tx zs] => ∃ xs, M a = some (.lst xs) ∧ xs.length + zs.length ≤ sizeLine ∧ Q .non (wr M a (.lst (xs ++ zs)))
    | [.rl zs] => ∃ xs, M a = some (.lst xs) ∧ xs.length + zs.length ≤ sizeLine ∧ Q .non (wr M a (.lst (xs ++ zs)))
    | _ => False)
  | _ => False
theorem md_extend : MtD X "list" "extend" "list.extend" mExtend := by
  refine ⟨PySem.F.plainAttrs_list, PySem.F.slot_list_extend, PySem.F.type_list_extend, _, MtR.or mt_extend (MtR.or mt_extendT mt_extendL), fun M H Mo Ho x a vs ds Q QV m f i l fin q => ?_⟩
  cases a with
  | ref a =>
    rw [is_ref] at i
    match ds, q with
    | [.ref b], q =>
      obtain ⟨v, rfl, j⟩ := isL_one l
      rw [is_ref] at j
      subst j
      obtain ⟨xs, zs, h, h2, hz, q⟩ := q
      obtain ⟨ws, e, l1⟩ := m a _ h
      obtain ⟨us, e2, l2⟩ := m b _ h2
      exact .inl ⟨a, b, ws, us, i, rfl, e, e2, by rw [l1.length, l2.length]; exact hz, fin.setL m f h (l1.append l2) ii_non q⟩
    | [.tup zs], q =>
      obtain ⟨v, rfl, j⟩ := isL_one l
      rw [is_tup] at j
      obtain ⟨b, us, rfl, e2, l2⟩ := j
      obtain ⟨xs, h, hz, q⟩ := q
      obtain ⟨ws, e, l1⟩ := m a _ h
      exact .inr (.inl ⟨a, b, ws, us, i, rfl, e, .inl (.inl e2), by rw [l1.length, l2.length]; exact hz, fin.setL m f h (l1.append l2) ii_non q⟩)
    | [.tx zs], q =>
      obtain ⟨v, rfl, j⟩ := isL_one l
      rw [is_tx] at j
      obtain ⟨b, us, rfl, e2, l2⟩ := j
      obtain ⟨xs, h, hz, q⟩ := q
      obtain ⟨ws, e, l1⟩ := m a _ h
      exact .inr (.inl ⟨a, b, ws, us, i, rfl, e, e2.sq, by rw [l1.length, l2.length]; exact hz, fin.setL m f h (l1.append l2) ii_non q⟩)
    | [.rl zs], q =>
      obtain ⟨v, rfl, j⟩ := isL_one l
      rw [is_rl] at j
      obtain ⟨b, us, rfl, e2, l2⟩ := j
      obtain ⟨xs, h, hz, q⟩ := q
      obtain ⟨ws, e, l1⟩ := m a _ h
      exact .inr (.inr ⟨a, b, ws, us, i, rfl, e, e2.sq, by rw [l1.length, l2.length]; exact hz, fin.setL m f h (l1.append l2) ii_non q⟩)
  | _ => exact q.elim
def mPop : RmD := fun x ds M Q => match x with
  | .ref a => (match ds with
    | [] => ∃ xs d, M a = some (.lst xs) ∧ xs[xs.length - 1]? = some d ∧ Q d (wr M a (.lst xs.dropLast))
    | [.int i] => ∃ xs k d, M a = some (.lst xs) ∧ -(2 ^ 63) ≤ i ∧ i < 2 ^ 63 ∧ seqIndex? i xs.length = some k ∧ xs[k]? = some d ∧ Q d (wr M a (.lst (xs.eraseIdx k)))
    | _ => False)
  | _ => False
theorem md_pop : MtD X "list" "pop" "list.pop" mPop := by
  refine ⟨PySem.F.plainAttrs_list, PySem.F.slot_list_pop, PySem.F.type_list_pop, _, MtR.or mt_pop mt_popAt, fun M H Mo Ho x a vs ds Q QV m f i l fin q => ?_⟩
  cases a with
  | ref a =>
    rw [is_ref] at i
    match ds, q with
    | [], q =>
      rw [isL_nil] at l
      obtain ⟨xs, d, h, e1, q⟩ := q
      obtain ⟨ws, e, l1⟩ := m a _ h
      obtain ⟨v, e2, j⟩ := l1.get e1
      refine .inl ⟨a, ws, v, i, l, e, by rw [l1.length]; exact e2, fin.setL m f h l1.dropLast j q⟩
    | [.int k], q =>
      obtain ⟨v, rfl, j⟩ := isL_one l
      rw [is_int] at j
      subst j
      obtain ⟨xs, n, d, h, b1, b2, e1, e3, q⟩ := q
      obtain ⟨ws, e, l1⟩ := m a _ h
      obtain ⟨u, e2, j⟩ := l1.get e3
      exact .inr ⟨a, ws, k, n, u, i, rfl, e, b1, b2, by rw [l1.length]; exact e1, e2, fin.setL m f h (l1.eraseIdx n) j q⟩
  | _ => exact q.elim
end
abbrev RtD := List D → Mem → QE → Prop
def TmpOk (r : RnD) (rt : RtD) : Prop := ∀ ds M Q, rt ds M Q → ∀ p, M p = none → r [.ref p] (wr M p (.lst ds)) (fun d M3 => ∃ M4, Sub M4 M3 ∧ Q d M4)
def dTmp (rt : RtD) (t : DTA) : DTE := fun e M Q E => t e M (fun ds M1 => rt ds M1 Q) E
theorem sub_wr {M : Mem} {p : Addr} {o : MO} (h : M p = none) : Sub M (wr M p o) := fun a u e => by
  have ne : a ≠ p := fun z => by subst z; rw [h] at e; cases e
  rw [wr_ne ne]; exact e
section
variable {g : Gd} {x : Expr} {t : DTA} {pos p apos : Pos} {n : Str} {id T : String} {r : RnD} {rt : RtD}
theorem tmp_low {r' : List V → Hp → VK → Prop} (k : CallK g.X.K r r') (ht : TmpOk r rt) {M M' : Mem} {H H' : Hp} {a : Addr} {vs : List V} {ds : List D} {Q : QE} (h : H' a = some (.lst vs)) (l : IsL g.X.K H' ds vs) (n : M' a = none) (n0 : H a = none) (m : MRel g.X.K M' H') (f : Fr M H M' H') (q : rt ds M' Q) :
    r' [.ref a] H' (lowQ g.X.K M H Q) := by
  obtain ⟨m2, f2⟩ := new_in h l n n0 m f
  refine k _ H' M H [.ref a] [.ref a] _ _ m2 f2 (IsL.mk ii_ref (isL_nil.mpr rfl)) (fun v d M3 H3 i3 m3 f3 q3 => ?_) (ht ds M' Q q a n)
  obtain ⟨M4, s4, q4⟩ := q3
  exact lowQ.mk i3 (m3.sub s4) (f3.sub s4) q4
theorem de_tmpB (hc : CallD g.X (.builtin id) r) (ht : TmpOk r rt) (hg : Gl g.X n) (hm : g.X.mg n = none) (hv : bootBuiltins n = some (.builtin id)) (hx : DLE g x t) (ns : isStar x = false) (hn : n ≠ "__name__") (hdb : (n == ("__debug__" : Str)) = false) :
    DE g (.Call (.Name n p) [x] [] pos) (dTmp rt t) := by
  obtain ⟨r', h, k⟩ := hc
  obtain ⟨t', pe, kk⟩ := hx.pe
  refine DE.of (pe_callB h hg hm hv (pa_cons pe pa_nil (star_cons ns)) hn hdb (star_cons ns) rfl) fun σ H e M Q sl mr fr q => ?_
  exact kk σ H e M _ _ sl mr fr q fun a vs ds M' H' h1 l n n0 m f q => tmp_low k ht h1 l n n0 m f q
theorem de_tmpT (hc : CallD g.X (.type T) r) (ht : TmpOk r rt) (hg : Gl g.X n) (hm : g.X.mg n = none) (hv : bootBuiltins n = some (.type T)) (hx : DLE g x t) (ns : isStar x = false) (hn : n ≠ "__name__") (hdb : (n == ("__debug__" : Str)) = false) :
    DE g (.Call (.Name n p) [x] [] pos) (dTmp rt t) := by
  obtain ⟨r', h, k⟩ := hc
  obtain ⟨t', pe, kk⟩ := hx.pe
  refine DE.of (pe_callTy h hg hm hv (pa_cons pe pa_nil (star_cons ns)) hn hdb (star_cons ns) rfl) fun σ H e M Q sl mr fr q => ?_
  exact kk σ H e M _ _ sl mr fr q fun a vs ds M' H' h1 l n n0 m f q => tmp_low k ht h1 l n n0 m f q
end
def tTuple : RtD := fun ds M Q => Q (.tup ds) M
theorem ok_tTuple : TmpOk rTuple tTuple := fun ds M Q q p hp => ⟨ds, wr_same, M, sub_wr hp, q⟩
def tBools (c : List Bool → Bool) : RtD := fun ds M Q => ∃ bs, ds = bs.map D.bl ∧ Q (.bl (c bs)) M
theorem ok_tBools {c : List Bool → Bool} : TmpOk (rBools c) (tBools c) := fun ds M Q ⟨bs, e, q⟩ p hp => ⟨ds, wr_same, bs, e, M, sub_wr hp, q⟩
def tLen : RtD := fun ds M Q => Q (.int ds.length) M
theorem ok_tLen : TmpOk rLenD tLen := fun ds M Q q p hp => .inl ⟨ds, wr_same, M, sub_wr hp, q⟩
def tSum : RtD := fun ds M Q => ∃ ns : List Int, ds = ns.map D.int ∧ Q (.int ns.sum) M
theorem ok_tSum : TmpOk rSumD tSum := fun ds M Q ⟨bs, e, q⟩ p hp => ⟨ds, wr_same, bs, e, M, sub_wr hp, q⟩
end DL

namespace DL
open PySem PySem.Spec PyProof.Rows L2
def isSlice : Expr → Bool
  | .Slice .. => true
  | _ => false
theorem plainIx_of {b : Expr} (h : isSlice b = false) : PlainIx b := fun o i => by cases b <;> first | rfl | cases h
def plainT : Expr → Bool
  | .UnaryOp .Not _ _ => false
  | .BoolOp .. => false
  | .IfExp .. => false
  | .Compare .. => false
  | _ => true
theorem truth_of {a : Expr} (h : plainT a = true) (env : PySem.Env) (whole : Sem Value) : isTrue a env whole = (do let v ← whole; standAt a.pos; holding [v] (truthy v)) := by
  cases a with
  | UnaryOp op _ _ => cases op <;> first | rfl | cases h
  | BoolOp => cases h
  | IfExp => cases h
  | Compare => cases h
  | _ => rfl
def noSup : Expr → Bool
  | .Call _ [] [] _ => false
  | _ => true
theorem base_of {o : Expr} {n : Str} {env : PySem.Env} {w : Sem Value} (h : noSup o = true) : attributeBase o n env w = w := by
  cases o with
  | Call f xs ks p =>
    cases xs with
    | cons => cases f <;> rfl
    | nil =>
      cases ks with
      | cons => cases f <;> rfl
      | nil => cases h
  | _ => rfl
def notComp : Expr → Bool
  | .ListComp .. => false
  | .SetComp .. => false
  | .DictComp .. => false
  | _ => true
theorem swaps_of {x : Expr} {t : Option Expr} {l : Nat} {env : PySem.Env} (h : notComp x = true) : swapsWith x t l env = pure false := by
  cases x <;> first | rfl | cases h
theorem sole_of {t x : Expr} {l : Nat} {env : PySem.Env} (h : notComp x = true) : swapsWithSole [t] x l env = pure false := swaps_of h
def noPair : Expr → Expr → Bool
  | .Tuple .., .Tuple .. => false
  | .List .., .Tuple .. => false
  | _, _ => true
theorem stores_of {t x : Expr} {env : PySem.Env} (h : noPair t x = true) : swappedStores [t] x env = pure none := by
  cases t <;> first | rfl | (cases x <;> first | rfl | cases h)
def isSetD : Expr → Bool
  | .Set .. => true
  | _ => false
theorem folded_of {x : Expr} (h : isSetD x = false) (env : PySem.Env) (v : Value) : foldedSetIterable x env v = pure v := by
  cases x <;> first | rfl | cases h
theorem behind_of {x : Expr} {op : CmpOp} (h : isSetD x = false) : behindInMarks op x = false := by
  cases x <;> first | rfl | cases h
theorem sub_of {o i : Expr} {pos : Pos} {env : PySem.Env} (h : isSlice i = false) (v : Value) : assign (.Subscript o i pos) env v = (do
      let ov ← holding [v] (eval o env)
      let iv ← holding [v, ov] (eval i env)
      standAt pos
      holding [v, ov, iv] (setItem ov iv v)
      release [v, ov, iv] []) := by
  cases i <;> first | rfl | cases h
theorem sw_false {elt : Expr} {gs : List Comprehension} {scope : Scope} {pos py : Pos} {y : Str} {l : Nat} {env : PySem.Env} (hl : (py.line == pos.line) = false) : swapsWith (.ListComp elt gs scope pos) (some (.Name y py)) l env = pure false := by
  unfold swapsWith
  simp only [Expr.pos, hl, Bool.and_false, Bool.false_and]
theorem kind_of {env : PySem.Env} (h : env.scope.kind = .function) : env.blockKind = .function := by
  unfold Env.blockKind
  rw [h]
  rfl
theorem star_match (a : Expr) : (match a with | .Starred .. => true | _ => false) = isStar a := by cases a <;> rfl
def dPar (i j : Nat) (ta tb : DTE) : DTS := fun D E e M => ta e M (fun x M1 => tb e M1 (fun y M2 => D.nx (setS (setS e i (some x)) j (some y)) M2) E) E
theorem pair_of {x y : Str} {px py pt pt2 : Pos} {kt k2 : Nat} {a b : Expr} {env : PySem.Env} (hk : env.scope.kind = .function) (hx : env.scope.names.lookup x = some .local) (hy : env.scope.names.lookup y = some .local) (hl : (py.line == px.line) = true) (hne : x ≠ y)
    (sa : isStar a = false) (sb : isStar b = false) (hf : (foldedForSure 8 a && foldedForSure 8 b) = false) (hc : (constantsAlone 8 a && constantsAlone 8 b) = false) :
    swappedStores [.Tuple [.Name x px, .Name y py] kt pt] (.Tuple [a, b] k2 pt2) env = pure (some [x, y]) := by
  have h1 : env.kindOf x = some .local := hx
  have h2 : env.kindOf y = some .local := hy
  have hyx : (y == x) = false := by simpa using fun z : y = x => hne z.symm
  have hf' : [a, b].all (foldedForSure 8) = false := by simpa using hf
  have hc' : [a, b].all (constantsAlone 8) = false := by simpa using hc
  have hxy : (x == y) = false := by simpa using hne
  unfold swappedStores
  have hl' : py.line = px.line := by simpa using hl
  have ne2 : y ≠ x := fun z => hne z.symm
  simp [kind_of hk, h1, h2, Expr.pos, hl', List.eraseDups_cons, ne2, hyx, star_match, sa, sb, hf', hc', List.filterMap_cons]
  intro z
  rcases z with z | z
  · cases a <;> first | (exact nomatch (show false = true from z)) | cases sa
  · cases b <;> first | (exact nomatch (show false = true from z)) | cases sb
theorem nopair_of {x y : Str} {px py pt : Pos} {kt : Nat} {v : Expr} {env : PySem.Env} (h : (decide (env.kindOf x = some .local) && decide (env.kindOf y = some .local)) = false) : swappedStores [.Tuple [.Name x px, .Name y py] kt pt] v env = pure none := by
  unfold swappedStores
  cases v with
  | Tuple vs k p =>
    show (if _ then _ else _) = _
    split
    · rfl
    · show (if _ then _ else _) = _
      split
      · rfl
      · refine if_pos ?_
        rw [Bool.or_eq_true]
        left
        by_cases hx : env.kindOf x = some .local
        · have h2 : ¬ env.kindOf y = some .local := fun z => by simp [hx, z] at h
          by_cases hl : py.line = px.line <;> simp [List.filterMap_cons, hx, hl, h2, Expr.pos]
        · by_cases hy : env.kindOf y = some .local <;> by_cases hl : py.line = px.line <;> simp [List.filterMap_cons, hx, hl, hy, Expr.pos]
  | _ => rfl
section
variable {g : Gd} {a b : Expr} {ta tb : DTE}
theorem ds_par {i j : Nat} {x y : Str} {px py pt pt2 pos : Pos} {kt k2 : Nat} (hc : g.X.calm = true) (hN : g.X.N.Nodup) (hi : g.X.N[i]? = some x) (hj : g.X.N[j]? = some y) (hij : i ≠ j)
    (hx : g.X.env.scope.names.lookup x = some .local) (hy : g.X.env.scope.names.lookup y = some .local) (ha : DE g a ta) (hb : DE g b tb) (sa : isStar a = false) (sb : isStar b = false)
    (hw : swappedStores [.Tuple [.Name x px, .Name y py] kt pt] (.Tuple [a, b] k2 pt2) g.X.env = pure (some [x, y])) :
    DS g (.Assign [.Tuple [.Name x px, .Name y py] kt pt] (.Tuple [a, b] k2 pt2) pos) (dPar i j ta tb) := by
  obtain ⟨t', pa, ka⟩ := (da_cons ha (da_cons hb da_nil sb) sa).pa
  refine ⟨⟨_, ps_par hc hN hi hj hij hx hy pa hw, fun P hP σ H e M D DV sl mr hp le q => ?_⟩⟩
  refine ka σ H e M (fun ds M2 => match ds with | [d1, d2] => D.nx (setS (setS e i (some d1)) j (some d2)) M2 | _ => False) _ sl mr (hP.base _ _ hp) q fun ds vs M2 H2 l m f q => ?_
  match ds, q with
  | [d1, d2], q =>
    obtain ⟨v1, v2, rfl, i1, i2⟩ := isL_two l
    exact ⟨v1, v2, rfl, le.nx _ _ _ _ (SRel.set i2 j (SRel.set i1 i (sl.ext (f.ext mr)))) m (hP.step _ _ _ _ hp f) q⟩
end
section
variable {g : Gd} {a b c : Expr} {ta tb tc : DTE} {pos : Pos}
theorem dt_chain {op op' : CmpOp} {r r' : R2D} (ho : OpD g.X (compareOp op) r) (ho' : OpD g.X (compareOp op') r') (ha : DE g a ta) (hb : DE g b tb) (hc : DE g c tc)
    (hm : lastMarks [op, op'] [b, c] = false) : DT g (.Compare a [op, op'] [b, c] pos) (dTest (dChain r r' ta tb tc)) := by
  obtain ⟨s, o1, k1⟩ := ho
  obtain ⟨s', o2, k2⟩ := ho'
  refine DT.of (pt_chain o1 o2 ha.pe hb.pe hc.pe hm) fun σ H e M Q sl mr fr q => ?_
  refine low_start sl mr fr q fun v d M1 H1 i m f q => ?_
  refine low_start (sl.ext (f.ext mr)) m (fr.trans f) q fun v2 d2 M2 H2 i2 m2 f2 q => ?_
  have f12 := f.trans f2
  refine k1 M2 H2 M2 H2 v v2 d d2 _ _ m2 Fr.refl (Is.ext (f2.ext m) _ _ i) i2 ?_ q
  intro v3 d3 M3 H3 i3 m3 f3 q
  cases d3 with
  | bl b =>
    rw [is_bl] at i3
    refine ⟨b, i3, ?_⟩
    have f13 := f12.trans f3
    cases b with
    | true =>
      refine low_start (sl.ext (f13.ext mr)) m3 (fr.trans f13) q fun v4 d4 M4 H4 i4 m4 f4 q => ?_
      exact k2 M4 H4 M H v2 v4 d2 d4 _ _ m4 (f13.trans f4) (Is.ext ((f3.trans f4).ext m2) _ _ i2) i4 (bQ_out fun b M' H' m f q => ⟨M', m, f, q⟩) q
    | false => exact ⟨false, rfl, M3, m3, f13, q⟩
  | _ => exact q.elim
end
end DL

namespace DL
open PySem PySem.Spec PyProof.Rows L2
section
variable {X : Cx} {pins : List (Addr × Obj)} {σ : L2.St} {H : Hp} {s : Shared}
theorem inv_freeze (I : Inv X pins σ H s) {p : Addr} {xs : List V} (h : H p = some (.lst xs)) : ∃ o, Inv X pins σ (upd H p (.frz o (.lst xs))) s := by
  have hk : ObjOk X.prog X.w H s.heap p (.lst xs) := I.hok p _ h
  obtain ⟨z, its, n, r, e⟩ := hk
  refine ⟨_, I.un (t' := s.toks) (H' := upd H p (.frz { cls := .type "list", data := .seq its.toArray n } (.lst xs))) (h' := s.heap) ?_ ?_⟩
  · have ne : ∀ {b : Addr} {u : HO}, H b = some u → (∀ ys, u ≠ .lst ys) → b ≠ p := fun {b u} q k z => by
      subst z; rw [h] at q; cases q; exact k _ rfl
    refine ⟨fun b o q _ _ _ => q, fun b o q _ _ _ => ⟨o.slots, q⟩, fun b o q nb _ => ?_, fun b o q _ => ⟨o, q⟩, fun b ys q => ?_, fun b o u q => ?_, fun b ps q => ⟨#[], ?_⟩⟩
    · have : b ≠ p := fun z => by subst z; rw [h] at nb; cases nb
      rw [upd_ne this]; exact nb
    · rw [upd_ne (ne q fun _ z => by cases z)]; exact q
    · rw [upd_ne (ne q fun _ z => by cases z)]; exact q
    · rw [upd_ne (ne q fun _ z => by cases z), q]; simp
  · intro a o q
    by_cases ha : a = p
    · subst ha
      rw [upd_same] at q
      cases q
      exact ⟨e, z, its, n, r, e⟩
    · rw [upd_ne ha] at q
      refine (show ObjOk X.prog X.w H s.heap a o from I.hok a o q).stay (fun b u _ k => k) (fun b k => ?_) fun b ys k => ?_
      · have : b ≠ p := fun z => by subst z; rw [h] at k; cases k
        rw [upd_ne this]; exact k
      · have : b ≠ p := fun z => by subst z; rw [h] at k; cases k
        rw [upd_ne this]; exact k
end
section
variable {K : PySem.W.Frag} {M : Mem} {H : Hp} {p : Addr} {ds : List D} {vs : List V} {o : Obj}
theorem mdel_same : mdel M p p = none := by unfold mdel; rw [if_pos rfl]
theorem mdel_ne {b : Addr} (h : b ≠ p) : mdel M p b = M b := by unfold mdel; rw [if_neg h]
theorem ext_frz (h : H p = some (.lst vs)) : Ext K H (upd H p (.frz o (.lst vs))) := by
  refine ⟨fun a xs q => ?_, fun a xs q => ?_, fun a xs ⟨u, q, hd⟩ => ⟨u, by
    have : a ≠ p := fun z => by subst z; rw [h] at q; cases q
    rw [upd_ne this]; exact q, hd⟩, fun a u xs q => by
    have : a ≠ p := fun z => by subst z; rw [h] at q; cases q
    rw [upd_ne this]; exact q⟩
  · have : a ≠ p := fun z => by subst z; rw [h] at q; cases q
    rw [upd_ne this]; exact q
  · rcases q with ⟨u, q⟩ | q
    · have : a ≠ p := fun z => by subst z; rw [h] at q; cases q
      exact .inl ⟨u, by rw [upd_ne this]; exact q⟩
    · exact .inr q
theorem fr_frz (h : M p = some (.lst ds)) : Fr M H (mdel M p) (upd H p (.frz o (.lst vs))) := by
  refine ⟨fun b u q n => ?_, fun b q => ?_⟩
  · have : b ≠ p := fun z => by subst z; rw [h] at n; cases n
    exact ⟨by rw [upd_ne this]; exact q, by rw [mdel_ne this]; exact n⟩
  · exact upd_none q
theorem mr_frz (r : MRel K M H) (hH : H p = some (.lst vs)) : MRel K (mdel M p) (upd H p (.frz o (.lst vs))) := fun a u e => by
  have ne : a ≠ p := fun z => by subst z; rw [mdel_same] at e; cases e
  rw [mdel_ne ne] at e
  exact (r a u e).ext (ext_frz hH) (upd_ne ne)
theorem is_frz (l : IsL K H ds vs) (hH : H p = some (.lst vs)) : Is K (upd H p (.frz o (.lst vs))) (.rl ds) (.ref p) :=
  is_rl.mpr ⟨p, vs, rfl, .inl ⟨o, upd_same⟩, IsL.ext (ext_frz hH) _ _ l⟩
end
def dFz (t : DTE) : DTE := fun e M Q E => t e M (fun x M1 => match x with | .ref p => ∃ xs, M1 p = some (.lst xs) ∧ Q (.rl xs) (mdel M1 p) | _ => False) E
theorem de_fz {g : Gd} {x : Expr} {t : DTE} (h : DE g x t) : DE g x (dFz t) := by
  refine ⟨fun pins s σ H e M Q I q => thn (h.run pins s σ H e M _ I q) fun u s' z => ?_⟩
  obtain ⟨v, d, H', M', r, i, J, f, q⟩ := z
  cases d with
  | ref p =>
    obtain ⟨xs, hM, q⟩ := q
    obtain ⟨vs, hH, l⟩ := J.mr p _ hM
    obtain ⟨o, J2⟩ := inv_freeze J.inv hH
    rw [is_ref] at i
    subst i
    exact ⟨.ref p, .rl xs, _, mdel M' p, r, is_frz l hH, J.next J2 (mr_frz J.mr hH) (fr_frz hM), f.trans (fr_frz hM), q⟩
  | _ => exact q.elim
def dLcF (t : DTA) : DTE := fun e M Q E => t e M (fun ds M1 => Q (.rl ds) M1) E
theorem mdel_wr {M : Mem} {p : Addr} {o : MO} (h : M p = none) : mdel (wr M p o) p = M := by
  funext b
  by_cases e : b = p
  · subst e; rw [mdel_same, h]
  · rw [mdel_ne e, wr_ne e]
theorem de_lcF {g : Gd} {x : Expr} {t : DTA} (h : DLE g x t) : DE g x (dLcF t) := by
  obtain ⟨t', pe, k⟩ := h.pe
  refine ⟨fun pins s σ H e M Q I q => ?_⟩
  refine thn (pe.run pins s σ H _ I.inv (k σ H e M (fun ds M1 => Q (.rl ds) M1) (fun v H' => ∃ a vs ds M', v = V.ref a ∧ H' a = some (.lst vs) ∧ IsL g.X.K H' ds vs ∧ M' a = none ∧ MRel g.X.K M' H' ∧ Fr M H M' H' ∧ H a = none ∧ Q (.rl ds) M') I.sl I.mr I.fr q fun a vs ds M' H' h l n n0 m f q => ⟨a, vs, ds, M', rfl, h, l, n, m, f, n0, q⟩)) fun u s' z => ?_
  obtain ⟨v, H', J, r, a, vs, ds, M', rfl, hH, l, n, m, f, n0, q⟩ := z
  obtain ⟨o, J2⟩ := inv_freeze J hH
  have m2 : MRel g.X.K M' (upd H' a (.frz o (.lst vs))) := fun b u e => by
    have ne : b ≠ a := fun z => by subst z; rw [n] at e; cases e
    exact (m b u e).ext (ext_frz hH) (upd_ne ne)
  have f2 : Fr M H M' (upd H' a (.frz o (.lst vs))) := ⟨fun b u q nb => by
    have ne : b ≠ a := fun z => by subst z; rw [n0] at q; cases q
    obtain ⟨q1, q2⟩ := f.keep b u q nb
    exact ⟨by rw [upd_ne ne]; exact q1, q2⟩, fun b q => f.there b (upd_none q)⟩
  exact ⟨.ref a, .rl ds, _, M', r, is_frz l hH, I.next J2 m2 f2, f2, q⟩
def dFrz (i : Nat) (t : DTS) : DTS := fun D E e M => match getS e i with
  | some (.ref p) => ∃ xs, M p = some (.lst xs) ∧ t D E (setS e i (some (.rl xs))) (mdel M p)
  | _ => False
def tFrz (t : TS) : TS := fun D σ H => ∃ p xs, H p = some (.lst xs) ∧ ∀ o, t D σ (upd H p (.frz o (.lst xs)))
theorem pss_frz {X : Cx} {sts : List Stmt} {t : TS} (h : PSs X sts t) : PSs X sts (tFrz t) := ⟨fun pins s σ H D I q => by
  obtain ⟨p, xs, hp, q⟩ := q
  obtain ⟨o, J⟩ := inv_freeze I hp
  exact h.run pins s σ _ D J (q o)⟩
theorem set_id {α : Type} : ∀ {l : List α} {i : Nat} {x : α}, l[i]? = some x → l.set i x = l
  | [], _, _, e => by simp at e
  | y :: l, 0, x, e => by simp at e; subst e; rfl
  | y :: l, i + 1, x, e => by
    rw [List.getElem?_cons_succ] at e
    rw [List.set_cons_succ, set_id e]
theorem ds_frz {g : Gd} {sts : List Stmt} {t : DTS} (i : Nat) (h : DSs g sts t) : DSs g sts (dFrz i t) := by
  obtain ⟨t', ps, k⟩ := h.ps
  refine ⟨⟨tFrz t', pss_frz ps, fun P hP σ H e M D DV sl mr pm le q => ?_⟩⟩
  have q : (match getS e i with
    | some (.ref p) => ∃ xs, M p = some (.lst xs) ∧ t D g.E (setS e i (some (.rl xs))) (mdel M p)
    | _ => False) := q
  cases eg : getS e i with
  | none => rw [eg] at q; exact q.elim
  | some d =>
    rw [eg] at q
    cases d with
    | ref p =>
      obtain ⟨xs, hM, q⟩ := q
      obtain ⟨vs, hH, l⟩ := mr p _ hM
      obtain ⟨v, hv, iv⟩ := sl.get eg
      rw [is_ref] at iv
      subst iv
      refine ⟨p, vs, hH, fun o => k P hP σ _ _ _ D DV ?_ (mr_frz mr hH) (hP.step _ _ _ _ pm (fr_frz hM)) le q⟩
      have s2 := SRel.set (is_frz (o := o) l hH) i (sl.ext (ext_frz (o := o) hH))
      rwa [set_id hv] at s2
    | _ => exact q.elim
def dBadE : DTE := fun _ _ _ _ => False
def dBadS : DTS := fun _ _ _ _ => False
theorem de_bad {g : Gd} {x : Expr} : DE g x dBadE := ⟨fun _ _ _ _ _ _ _ _ q => q.elim⟩
theorem ds_bad {g : Gd} {st : Stmt} : DS g st dBadS := ⟨⟨fun _ _ _ => False, ⟨fun _ _ _ _ _ _ q => q.elim⟩, fun _ _ _ _ _ _ _ _ _ _ _ _ q => q.elim⟩⟩
end DL

namespace DL
open PySem PySem.Spec PyProof.Rows L2
def CallOk (P : Program) (w : World) (K : PySem.W.Frag) (mg : Str → Option Value) (base : Heap) (k : Nat) (fv : Value) (n : Nat) (ks : List Str) (sp : DSp) : Prop :=
  ∀ (g : Gd), g.X.prog = P → g.X.w = w → g.X.K = K → g.X.mg = mg → g.X.base = base → Gok g k →
    ∀ (pins : List (Addr × Obj)) (σ : L2.St) (H : Hp) (s : Shared) (e : Sl) (M : Mem) (us ws : List Value) (vs zs : List V) (ds cs : List D) (Q : QE), SI g pins σ H s e M → Vals vs us → Vals zs ws → IsL g.X.K H ds vs → IsL g.X.K H cs zs →
      ds.length = n → cs.length = ks.length → sp (ds ++ cs) M Q g.E → wpAny (model g.X.prog g.X.w) g.X.A (call fv us (ks.zip ws)) (DEP g pins σ e M H Q) g.X.xe s
theorem CallOk.mono {P : Program} {w : World} {K : PySem.W.Frag} {mg : Str → Option Value} {base : Heap} {k k' : Nat} {fv : Value} {n : Nat} {ks : List Str} {sp : DSp} (h : CallOk P w K mg base k fv n ks sp) (l : k ≤ k') : CallOk P w K mg base k' fv n ks sp :=
  fun g e1 e2 e3 e4 e5 G => h g e1 e2 e3 e4 e5 ⟨G.room.mono l, G.gu, G.tk⟩
theorem CallOk.imp {P : Program} {w : World} {K : PySem.W.Frag} {mg : Str → Option Value} {base : Heap} {k : Nat} {fv : Value} {n : Nat} {ks : List Str} {sp sp' : DSp} (h : CallOk P w K mg base k fv n ks sp) (l : ∀ ds M Q E, sp' ds M Q E → sp ds M Q E) : CallOk P w K mg base k fv n ks sp' :=
  fun g e1 e2 e3 e4 e5 G pins σ H s e M us ws vs zs ds cs Q I r rz il iz hn hk q => h g e1 e2 e3 e4 e5 G pins σ H s e M us ws vs zs ds cs Q I r rz il iz hn hk (l _ _ _ _ q)
structure KBd (K : PySem.W.Frag) (fd : FuncData) (ps : List Str) (n : Nat) (ks : List Str) (gD : List D → List D → List D) : Prop where
  ex : ∃ (g : List Value → List Value → List Value) (gV : List V → List V → List V), KBn K fd ps n ks g gV ∧ ∀ H ds vs cs zs, IsL K H ds vs → IsL K H cs zs → ds.length = n → cs.length = ks.length → IsL K H (gD ds cs) (gV vs zs)
theorem callOk_fn {P : Program} {w : World} {K : PySem.W.Frag} {mg : Str → Option Value} {base : Heap} {k : Nat} {f : Addr} {fd : FuncData} {ps : List Str} {sp sp' : DSp} {n : Nat} {ks : List Str} {gD : List D → List D → List D}
    (F : FnG P w K mg base k f fd ps sp) (B : KBd K fd ps n ks gD) (imp : ∀ ds cs M Q E, ds.length = n → cs.length = ks.length → sp' (ds ++ cs) M Q E → sp (gD ds cs) M Q E) : CallOk P w K mg base k (.ref f) n ks sp' := by
  intro g e1 e2 e3 e4 e5 G pins σ H s e M us ws vs zs ds cs Q I r rz il iz hn hk q
  subst e1 e2 e3 e4 e5
  obtain ⟨g0, gV, kb, kd⟩ := B.ex
  have q := imp ds cs _ _ _ hn hk q
  have hl := kd H ds vs cs zs il iz hn hk
  exact fnG_run F G I (kb.to s us ws I.inv.kIn (by rw [← r.length, il.length, hn]) (by rw [← rz.length, iz.length, hk])) (kb.rel r rz) hl q
theorem callOk_mk {P : Program} {w : World} {K : PySem.W.Frag} {mg : Str → Option Value} {base : Heap} {k : Nat} {C f : Addr} {fd : FuncData} {ps : List Str} {sp sp' : DSp} {n : Nat} {ks : List Str} {gD : List D → List D → List D}
    (Mm : Mk K C f) (It : InsT K C) (F : FnG P w K mg base k f fd ps sp) (B : KBd K fd ps (n + 1) ks gD)
    (imp : ∀ ds cs M Q E, ds.length = n → cs.length = ks.length → sp' (ds ++ cs) M Q E → ∀ x, M x = none → sp (gD (.ref x :: ds) cs) (wr M x (.ins C [])) (fun v M' => v = .non ∧ Q (.ref x) M') E) : CallOk P w K mg base (k + 1) (.ref C) n ks sp' := by
  intro g e1 e2 e3 e4 e5 G pins σ H s e M us ws vs zs ds cs Q I r rz il iz hn hk q
  subst e1 e2 e3 e4 e5
  obtain ⟨g0, gV, kb, kd⟩ := B.ex
  have hx : H (s.heap.objs.size + 1) = none := I.inv.hok.fresh (Nat.le_succ _)
  have hdx : H s.heap.objs.size = none := I.inv.hok.fresh (Nat.le_refl _)
  have q := imp ds cs _ _ _ hn hk q _ (I.mr.none_of hx)
  have I2 := Inv.made (C := C) I.inv
  have m1 : MRel g.X.K M (upd H s.heap.objs.size (.own (s.heap.objs.size + 1))) := mr_new I.mr hdx
  have f1 : Fr M H M (upd H s.heap.objs.size (.own (s.heap.objs.size + 1))) := fr_new I.mr hdx
  have hx2 : upd H s.heap.objs.size (.own (s.heap.objs.size + 1)) (s.heap.objs.size + 1) = none := by rw [upd_ne (Nat.succ_ne_self _)]; exact hx
  have m2 : MRel g.X.K (wr M (s.heap.objs.size + 1) (.ins C [])) (upd (upd H s.heap.objs.size (.own (s.heap.objs.size + 1))) (s.heap.objs.size + 1) (.ins C s.heap.objs.size [])) :=
    mr_alloc m1 hx2 ⟨s.heap.objs.size, [], upd_same, rfl, isL_nil.mpr rfl, It⟩
  have f2 : Fr M H (wr M (s.heap.objs.size + 1) (.ins C [])) (upd (upd H s.heap.objs.size (.own (s.heap.objs.size + 1))) (s.heap.objs.size + 1) (.ins C s.heap.objs.size [])) := f1.trans (fr_alloc m1 hx2)
  have ex := f2.ext I.mr
  have J := I.next I2 m2 f2
  have rl : Vals (V.ref (s.heap.objs.size + 1) :: vs) (Value.ref (s.heap.objs.size + 1) :: us) := .cons rfl r
  have ll := kd _ (.ref (s.heap.objs.size + 1) :: ds) (V.ref (s.heap.objs.size + 1) :: vs) cs zs (IsL.mk ii_ref (IsL.ext ex _ _ il)) (IsL.ext ex _ _ iz) (by rw [List.length_cons, hn]) hk
  refine wpAny_call (make_map (f := f) I.inv.kIn Mm.makes Mm.init (beq_iff_eq.mp Mm.fn) (codeAny_mono (F.run _ g.X.stack _ _ ⟨Value.ref (s.heap.objs.size + 1) :: us, ks.zip ws⟩ (g0 (Value.ref (s.heap.objs.size + 1) :: us) ws) _ _ _ _ g.E _ (wxOf g.X.K _ _ g.E) (G.room.make C us (ks.zip ws)) G.gu
    (I2.env0.make C us (ks.zip ws)) (kb.to _ (Value.ref (s.heap.objs.size + 1) :: us) ws I2.kIn (by rw [List.length_cons, ← r.length, il.length, hn]) (by rw [← rz.length, iz.length, hk])) (kb.rel rl rz) ll m2 fin_low (fun _ _ _ z => z) q) fun rr s' hq => ?_))
  cases rr with
  | error err => exact passes_call G.tk (fun c d σ' H' z => by
      obtain ⟨M', fs, f', m', x', q⟩ := z
      exact ⟨M', fs, J.fr.trans f', m', x', q⟩) pins σ _ _ err s' I2 hq
  | ok fl =>
    cases fl with
    | ret u =>
      obtain ⟨v, H', J2, rv, d, M', i, m, f', ev, q3⟩ := I2.after hq
      subst ev
      rw [is_non] at i
      subst i
      exact ⟨rv, ⟨V.ref (s.heap.objs.size + 1), .ref (s.heap.objs.size + 1), H', M', rfl, ii_ref, J.next J2 m f', f2.trans f', q3⟩⟩
    | next => exact False.elim hq
    | brk => exact False.elim hq
    | cont => exact False.elim hq
end DL

namespace DL
open PySem PySem.Spec PyProof.Rows L2
structure DKs (g : Gd) (kws : List Keyword) (t : DTA) (ks : List Str) : Prop where
  pk : ∃ t' : TA, PK g.X kws t' ∧ ∀ σ H e M Q (QV : List V → Hp → Prop), SRel g.X.K H e σ → MRel g.X.K M H → Fr g.M0 g.H0 M H → t e M Q g.E →
    (∀ ds vs M' H', IsL g.X.K H' ds vs → MRel g.X.K M' H' → Fr M H M' H' → Q ds M' → QV vs H') → t' σ H QV
  names : ∀ pos, (backToKw pos (keywordEach kws g.X.env)).filterMap (·.1) = ks
  all : ∀ pos, (backToKw pos (keywordEach kws g.X.env)).all (·.1.isSome) = true
theorem dks_nil {g : Gd} : DKs g [] dNil [] := ⟨⟨_, pk_nil, fun σ H e M Q QV sl mr fr q k => k [] [] M H (isL_nil.mpr rfl) mr Fr.refl q⟩, fun _ => rfl, fun _ => rfl⟩
theorem dks_cons {g : Gd} {n : Str} {x : Expr} {p : Pos} {kws : List Keyword} {t : DTE} {r : DTA} {ks : List Str} (h : DE g x t) (hr : DKs g kws r ks) : DKs g (⟨some n, x, p⟩ :: kws) (dCons t r) (n :: ks) := by
  obtain ⟨t', pk, k⟩ := hr.pk
  refine ⟨⟨_, pk_cons h.pe pk, fun σ H e M Q QV sl mr fr q kk => ?_⟩, fun pos => ?_, fun pos => ?_⟩
  · refine low_start sl mr fr q fun v d M1 H1 i m f q => ?_
    refine k σ H1 e M1 _ _ (sl.ext (f.ext mr)) m (fr.trans f) q fun ds vs M2 H2 l m2 f2 q => ?_
    exact kk (d :: ds) (v :: vs) M2 H2 (IsL.mk (Is.ext (f2.ext m) _ _ i) l) m2 (f.trans f2) q
  · have := hr.names pos
    show n :: (backToKw pos (keywordEach kws g.X.env)).filterMap (·.1) = _
    rw [this]
  · exact hr.all pos
theorem DKs.none {g : Gd} {kws : List Keyword} {t : DTA} {ks : List Str} (h : DKs g kws t ks) (pos : Pos) : (backToKw pos (keywordEach kws g.X.env)).any (·.1.isNone) = false := by
  have := h.all pos
  rw [List.all_eq_true] at this
  rw [List.any_eq_false]
  intro x hx
  have := this x hx
  intro hN
  cases hx1 : x.1 <;> simp [hx1] at this hN
theorem DKs.run {g : Gd} {kws : List Keyword} {t : DTA} {ks : List Str} (h : DKs g kws t ks) (pos : Pos) {pins : List (Addr × Obj)} {s : Shared} {σ : L2.St} {H : Hp} {e : Sl} {M : Mem} {Q : List D → Mem → Prop} (I : SI g pins σ H s e M) (q : t e M Q g.E) :
    wpAny (model g.X.prog g.X.w) g.X.A (evalAll ((backToKw pos (keywordEach kws g.X.env)).map (·.2))) (DAP g pins σ e M H Q) g.X.xe s := by
  obtain ⟨t', pk, ka⟩ := h.pk
  refine thn (pk.run pos pins s σ H (fun vs H' => ∃ ds M', IsL g.X.K H' ds vs ∧ MRel g.X.K M' H' ∧ Fr M H M' H' ∧ Q ds M') I.inv (ka σ H e M Q _ I.sl I.mr I.fr q fun ds vs M' H' l m f q => ⟨ds, M', l, m, f, q⟩)) fun us s' z => ?_
  obtain ⟨vs, H', J, r, ds, M', l, m, f, q⟩ := z
  exact ⟨vs, ds, H', M', r, l, I.next J m f, f, q⟩
def dFnN (sp : DSp) (n m : Nat) (r rk : DTA) : DTE := fun e M Q E => r e M (fun xs M1 => rk e M1 (fun ys M2 => xs.length = n ∧ ys.length = m ∧ sp (xs ++ ys) M2 Q E) E) E
section
variable {g : Gd} {k : Nat} {fv : Value} {ks : List Str} {sp : DSp} {n : Str} {p pos apos : Pos} {es : List Expr} {kws : List Keyword} {x o : Expr} {t to : DTE} {r rk : DTA} {first : List Value} {fd : List D} {fvs : List V} {nn n1 : Nat}
theorem call_fin (G : Gok g k) (hkw : DKs g kws rk ks) (hf : Vals fvs first) (hn : nn + fd.length = n1) (hc : CallOk g.X.prog g.X.w g.X.K g.X.mg g.X.base k fv n1 ks sp) {pins : List (Addr × Obj)} {σ : L2.St} {H H1 : Hp} {s s1 : Shared} {e : Sl} {M M1 : Mem} {Q : QE} (I : SI g pins σ H s e M) (il : IsL g.X.K H fd fvs)
    {us : List Value} {vs : List V} {ds : List D} (rv : Vals vs us) (l : IsL g.X.K H1 ds vs) (J : SI g pins σ H1 s1 e M1) (f : Fr M H M1 H1) (q : rk e M1 (fun ys M2 => ds.length = nn ∧ ys.length = ks.length ∧ sp (fd ++ (ds ++ ys)) M2 Q g.E) g.E) :
    wpAny (model g.X.prog g.X.w) g.X.A (evalAll ((backToKw pos (keywordEach kws g.X.env)).map (·.2))) (fun ws s₂ => g.X.K.In s₂.heap ∧ wpAny (model g.X.prog g.X.w) g.X.A (call fv (first ++ us) (((backToKw pos (keywordEach kws g.X.env)).filterMap (·.1)).zip ws)) (DEP g pins σ e M H Q) g.X.xe s₂) g.X.xe s1 := by
  refine thn (hkw.run pos J q) fun ws s2 z => ?_
  obtain ⟨zs, cs, H2, M2, rz, lz, J2, f2, hd, hcs, q⟩ := z
  refine ⟨J2.inv.kIn, ?_⟩
  rw [hkw.names pos]
  have l' : IsL g.X.K H2 (fd ++ ds) (fvs ++ vs) := (IsL.ext ((f.trans f2).ext I.mr) _ _ il).append (IsL.ext (f2.ext J.mr) _ _ l)
  refine thn (hc g rfl rfl rfl rfl rfl G pins σ H2 s2 e M2 (first ++ us) ws (fvs ++ vs) zs (fd ++ ds) cs Q J2 (hf.append rv) rz l' lz (by rw [List.length_append]; omega) hcs (by rw [List.append_assoc]; exact q)) fun u s3 z => ?_
  obtain ⟨v, d, H', M', r', i, J3, f3, q⟩ := z
  exact ⟨v, d, H', M', r', i, J3, (f.trans f2).trans f3, q⟩
theorem call_args (G : Gok g k) (hk : PySem.W.keepIn g.X.K fv = true) (ha : DA g (x :: es) r) (hkw : DKs g kws rk ks) (ns : isStar x = false) (hf : Vals fvs first) (hn : nn + fd.length = n1) (hc : CallOk g.X.prog g.X.w g.X.K g.X.mg g.X.base k fv n1 ks sp) {pins : List (Addr × Obj)} {σ : L2.St} {H : Hp} {s : Shared} {e : Sl} {M : Mem} {Q : QE} (I : SI g pins σ H s e M) (il : IsL g.X.K H fd fvs)
    (q : r e M (fun xs M1 => rk e M1 (fun ys M2 => xs.length = nn ∧ ys.length = ks.length ∧ sp (fd ++ (xs ++ ys)) M2 Q g.E) g.E) g.E) :
    wpAny (model g.X.prog g.X.w) g.X.A (callWith pos fv first (backTo pos (starEach (x :: es) g.X.env)) (backToKw pos (keywordEach kws g.X.env))) (DEP g pins σ e M H Q) g.X.xe s := by
  refine PySem.W.callWith_KW (h₀ := g.X.base) I.inv.ok.mod.kin hk (hkw.all pos) (thn (ha.run pos I q) fun us s1 z => ?_) (by rw [hkw.none pos, Bool.or_false]; exact bt_any ha) (star_cons ns)
  obtain ⟨vs, ds, H1, M1, rv, l, J, f, q⟩ := z
  exact call_fin G hkw hf hn hc I il rv l J f q
theorem call_args0 (G : Gok g k) (hk : PySem.W.keepIn g.X.K fv = true) (hkw : DKs g kws rk ks) (hf : Vals fvs first) (hn : fd.length = n1) (hc : CallOk g.X.prog g.X.w g.X.K g.X.mg g.X.base k fv n1 ks sp) {pins : List (Addr × Obj)} {σ : L2.St} {H : Hp} {s : Shared} {e : Sl} {M : Mem} {Q : QE} (I : SI g pins σ H s e M) (il : IsL g.X.K H fd fvs)
    (q : rk e M (fun ys M2 => 0 = 0 ∧ ys.length = ks.length ∧ sp (fd ++ ([] ++ ys)) M2 Q g.E) g.E) :
    wpAny (model g.X.prog g.X.w) g.X.A (callWith pos fv first (backTo pos (starEach [] g.X.env)) (backToKw pos (keywordEach kws g.X.env))) (DEP g pins σ e M H Q) g.X.xe s := by
  refine PySem.W.callWith_KW0 (h₀ := g.X.base) I.inv.ok.mod.kin hk (hkw.all pos) ?_ (by rw [hkw.none pos]; rfl)
  exact call_fin (nn := 0) (us := []) (vs := []) (ds := []) G hkw hf (by omega) hc I il .nil (isL_nil.mpr rfl) I Fr.refl q
theorem de_cal (G : Gok g k) (hg : Gl g.X n) (hm : g.X.mg n = some fv) (hk : PySem.W.keepIn g.X.K fv = true) (hc : CallOk g.X.prog g.X.w g.X.K g.X.mg g.X.base k fv nn ks sp) (ha : DA g (x :: es) r) (hkw : DKs g kws rk ks) (ns : isStar x = false) (hdb : (n == ("__debug__" : Str)) = false) :
    DE g (.Call (.Name n p) (x :: es) kws pos) (dFnN sp nn ks.length r rk) :=
  ⟨fun pins s σ H e M Q I q => wpAny_Call_Name_kw (ld_glob I.inv hg hm (call_args (first := []) (fd := []) (fvs := []) G hk ha hkw ns .nil rfl hc I (isL_nil.mpr rfl) q) hdb)⟩
theorem de_cal0 (G : Gok g k) (hg : Gl g.X n) (hm : g.X.mg n = some fv) (hk : PySem.W.keepIn g.X.K fv = true) (hc : CallOk g.X.prog g.X.w g.X.K g.X.mg g.X.base k fv 0 ks sp) (hkw : DKs g kws rk ks) (hdb : (n == ("__debug__" : Str)) = false) :
    DE g (.Call (.Name n p) [] kws pos) (dFnN sp 0 ks.length dNil rk) :=
  ⟨fun pins s σ H e M Q I q => wpAny_Call_Name_kw (ld_glob I.inv hg hm (call_args0 (first := []) (fd := []) (fvs := []) G hk hkw .nil rfl hc I (isL_nil.mpr rfl) q) hdb)⟩
def isIns (C : Addr) (m : Str) (x : D) (M : Mem) : Prop := match x with | .ref a => ∃ fs, M a = some (.ins C fs) ∧ fs.lookup m = none | _ => False
def dMth (C : Addr) (m : Str) (sp : DSp) (nn mm : Nat) (to : DTE) (r rk : DTA) : DTE := fun e M Q E => to e M (fun x M1 => isIns C m x M1 ∧ r e M1 (fun xs M2 => rk e M2 (fun ys M3 => xs.length = nn ∧ ys.length = mm ∧ sp (x :: (xs ++ ys)) M3 Q E) E) E) E
theorem lookup_kr {K : PySem.W.Frag} {H : Hp} {f : Str} : ∀ {fs : List (Str × D)} {ws : List (Str × V)}, ws.map (·.1) = fs.map (·.1) → IsL K H (fs.map (·.2)) (ws.map (·.2)) → (match fs.lookup f with | some d => ∃ v, ws.lookup f = some v ∧ Is K H d v | none => ws.lookup f = none)
  | [], ws, h, _ => by
    have : ws = [] := by simpa using h
    subst this
    rfl
  | (y, d) :: fs, ws, h, l => by
    cases ws with
    | nil => simp at h
    | cons z ws =>
      obtain ⟨z1, z2⟩ := z
      simp only [List.map_cons, List.cons.injEq] at h
      obtain ⟨h1, h2⟩ := h
      have h1 : z1 = y := h1
      subst h1
      rw [List.map_cons, List.map_cons, isL_cons] at l
      obtain ⟨v, rr, e, i, l⟩ := l
      rw [List.cons.injEq] at e
      obtain ⟨e1, e2⟩ := e
      subst e2
      have e1 : z2 = v := e1
      subst e1
      have ih := lookup_kr (f := f) h2 l
      rw [List.lookup_cons, List.lookup_cons]
      cases hb : f == z1 with
      | true => exact ⟨_, rfl, i⟩
      | false => exact ih
theorem ins_at {K : PySem.W.Frag} {M : Mem} {H : Hp} {a C : Addr} {fs : List (Str × D)} (m : MRel K M H) (h : M a = some (.ins C fs)) (f : Str) : ∃ dx ws, H a = some (.ins C dx ws) ∧ (match fs.lookup f with | some d => ∃ v, ws.lookup f = some v ∧ Is K H d v | none => ws.lookup f = none) := by
  obtain ⟨dx, ws, e, h1, h2, _⟩ := m a _ h
  exact ⟨dx, ws, e, lookup_kr h1 h2⟩
theorem meth_tree {env : PySem.Env} {m : Str} (hb : attributeBase o m env (eval o env) = eval o env) (hfew : methodCallForm (es.length + kws.length) (backTo pos (starEach es env)) (backToKw pos (keywordEach kws env)) = true) (hl : (apos.endLine == pos.line) = true) :
    eval (.Call (.Attribute o m apos) es kws pos) env = (do
      let ov ← eval o env
      standAt apos.atName
      let (f, first) ← holding [ov] (getMethod ov m (do return (← importBound o env).getD true))
      callWith pos f first (backTo pos (starEach es env)) (backToKw pos (keywordEach kws env))) := by
  refine mcall_of hb fun ov => ?_
  unfold methodCall
  rw [hfew]
  unfold calleeOf methodCallPos
  rw [if_pos rfl, hl]
  simp only [Bool.not_true, Bool.false_or, if_true, pure_bind]
theorem form_of (ha : DA g es r) (hkw : DKs g kws rk ks) (hn : es.length + kws.length + 1 < 30) : methodCallForm (es.length + kws.length) (backTo pos (starEach es g.X.env)) (backToKw pos (keywordEach kws g.X.env)) = true := by
  unfold methodCallForm
  have h1 : (backTo pos (starEach es g.X.env)).all (fun z => !z.1) = true := by
    have h := bt_any (pos := pos) ha
    rw [List.all_eq_true]
    intro z hz
    rw [List.any_eq_false] at h
    simpa using h z hz
  rw [h1, hkw.all pos]
  simp only [Bool.true_and, decide_eq_true_eq]
  split <;> omega
theorem de_mth {C f : Addr} {m : Str} (G : Gok g k) (ho : DE g o to) (c : Cls g.X.K C) (hm : Meth g.X.K C m f) (hc : CallOk g.X.prog g.X.w g.X.K g.X.mg g.X.base k (.ref f) (nn + 1) ks sp) (ha : DA g (x :: es) r) (hkw : DKs g kws rk ks) (ns : isStar x = false)
    (hb : attributeBase o m g.X.env (eval o g.X.env) = eval o g.X.env) (hn : (x :: es).length + kws.length + 1 < 30) (hl : (apos.endLine == pos.line) = true) : DE g (.Call (.Attribute o m apos) (x :: es) kws pos) (dMth C m sp nn ks.length to r rk) := by
  refine ⟨fun pins s σ H e M Q I q => ?_⟩
  refine PySem.W.methodCall_KW (thn (ho.run pins s σ H e M _ I q) fun u s1 z => ?_) (meth_tree hb (form_of ha hkw hn) hl)
  obtain ⟨v, d, H1, M1, rv, i, J, f1, hi, q⟩ := z
  cases d with
  | ref a =>
    obtain ⟨fs, hM, hlk⟩ := hi
    rw [is_ref] at i
    subst i
    obtain rfl : u = Value.ref a := rv
    obtain ⟨dx, ws, hH, lk⟩ := ins_at J.mr hM m
    rw [hlk] at lk
    refine getmeth_ok J.inv hH c hm lk ?_
    refine thn (call_args (first := [.ref a]) (fd := [.ref a]) (fvs := [.ref a]) G hm.kp ha hkw ns (.cons rfl .nil) rfl hc J (IsL.mk ii_ref (isL_nil.mpr rfl)) q) fun u' s' z => ?_
    obtain ⟨v, d, H', M', r', i, J3, f3, q⟩ := z
    exact ⟨v, d, H', M', r', i, J3, f1.trans f3, q⟩
  | _ => exact hi.elim
theorem de_mth0 {C f : Addr} {m : Str} (G : Gok g k) (ho : DE g o to) (c : Cls g.X.K C) (hm : Meth g.X.K C m f) (hc : CallOk g.X.prog g.X.w g.X.K g.X.mg g.X.base k (.ref f) 1 ks sp) (hkw : DKs g kws rk ks)
    (hb : attributeBase o m g.X.env (eval o g.X.env) = eval o g.X.env) (hn : kws.length + 1 < 30) (hl : (apos.endLine == pos.line) = true) : DE g (.Call (.Attribute o m apos) [] kws pos) (dMth C m sp 0 ks.length to dNil rk) := by
  refine ⟨fun pins s σ H e M Q I q => ?_⟩
  refine PySem.W.methodCall_KW (thn (ho.run pins s σ H e M _ I q) fun u s1 z => ?_) (meth_tree hb (form_of da_nil hkw (by simpa using hn)) hl)
  obtain ⟨v, d, H1, M1, rv, i, J, f1, hi, q⟩ := z
  cases d with
  | ref a =>
    obtain ⟨fs, hM, hlk⟩ := hi
    rw [is_ref] at i
    subst i
    obtain rfl : u = Value.ref a := rv
    obtain ⟨dx, ws, hH, lk⟩ := ins_at J.mr hM m
    rw [hlk] at lk
    refine getmeth_ok J.inv hH c hm lk ?_
    refine thn (call_args0 (first := [.ref a]) (fd := [.ref a]) (fvs := [.ref a]) G hm.kp hkw (.cons rfl .nil) rfl hc J (IsL.mk ii_ref (isL_nil.mpr rfl)) q) fun u' s' z => ?_
    obtain ⟨v, d, H', M', r', i, J3, f3, q⟩ := z
    exact ⟨v, d, H', M', r', i, J3, f1.trans f3, q⟩
  | _ => exact hi.elim
def dFld (C : Addr) (f : Str) (t : DTE) : DTE := fun e M Q E => t e M (fun x M1 => match x with | .ref a => ∃ fs d, M1 a = some (.ins C fs) ∧ fs.lookup f = some d ∧ Q d M1 | _ => False) E
theorem de_fld {C : Addr} {f : Str} (ho : DE g o to) (c : Cls g.X.K C) (na : NoAttr g.X.K C f) (hb : attributeBase o f g.X.env (eval o g.X.env) = eval o g.X.env) : DE g (.Attribute o f pos) (dFld C f to) := by
  refine DE.of (pe_fld ho.pe hb) fun σ H e M Q sl mr fr q => ?_
  refine low_start sl mr fr q fun v d M1 H1 i m f1 q => ?_
  cases d with
  | ref a =>
    obtain ⟨fs, d, hM, hlk, q⟩ := q
    rw [is_ref] at i
    subst i
    obtain ⟨dx, ws, hH, lk⟩ := ins_at m hM f
    rw [hlk] at lk
    obtain ⟨v, lv, iv⟩ := lk
    exact ⟨a, C, dx, ws, v, rfl, hH, c, na, lv, lowQ.mk iv m f1 q⟩
  | _ => exact q.elim
def putFD (f : Str) (d : D) : List (Str × D) → List (Str × D)
  | [] => [(f, d)]
  | (y, e) :: r => if y = f then (y, d) :: r else (y, e) :: putFD f d r
def dSfl (C : Addr) (f : Str) (to tv : DTE) : DTS := fun D E e M => tv e M (fun v M1 => to e M1 (fun x M2 => match x with | .ref a => ∃ fs, M2 a = some (.ins C fs) ∧ fs.length < 1000 ∧ D.nx e (wr M2 a (.ins C (putFD f v fs))) | _ => False) E) E
theorem putF_rel {K : PySem.W.Frag} {H : Hp} {d : D} {v : V} (iv : Is K H d v) : ∀ {fs : List (Str × D)} {ws : List (Str × V)}, ws.map (·.1) = fs.map (·.1) → IsL K H (fs.map (·.2)) (ws.map (·.2)) → (putF f v ws).map (·.1) = (putFD f d fs).map (·.1) ∧ IsL K H ((putFD f d fs).map (·.2)) ((putF f v ws).map (·.2))
  | [], ws, h, _ => by
    have : ws = [] := by simpa using h
    subst this
    exact ⟨rfl, IsL.mk iv (isL_nil.mpr rfl)⟩
  | (y, b) :: fs, ws, h, l => by
    cases ws with
    | nil => simp at h
    | cons z ws =>
      obtain ⟨z1, z2⟩ := z
      simp only [List.map_cons, List.cons.injEq] at h
      obtain ⟨h1, h2⟩ := h
      have h1 : z1 = y := h1
      subst h1
      rw [List.map_cons, List.map_cons, isL_cons] at l
      obtain ⟨v', rr, e, i, l⟩ := l
      rw [List.cons.injEq] at e
      obtain ⟨e1, e2⟩ := e
      subst e2
      have e1 : z2 = v' := e1
      subst e1
      unfold putF putFD
      by_cases hz : z1 = f
      · rw [if_pos hz, if_pos hz]
        exact ⟨by rw [List.map_cons, List.map_cons, h2], IsL.mk iv l⟩
      · rw [if_neg hz, if_neg hz]
        obtain ⟨k1, k2⟩ := putF_rel iv h2 l
        exact ⟨by rw [List.map_cons, List.map_cons, k1], IsL.mk i k2⟩
theorem ds_sfl {C : Addr} {f : Str} {tv : DTE} {value : Expr} {p2 : Pos} (ho : DE g o to) (hv : DE g value tv) (c : Cls g.X.K C) (na : NoAttr g.X.K C f) (hs : swapsWith value (some (.Attribute o f p2)) pos.line g.X.env = pure false) : DS g (.Assign [.Attribute o f p2] value pos) (dSfl C f to tv) := by
  refine ⟨⟨_, ps_fld ho.pe hv.pe hs, fun P hP σ H e M D DV sl mr pm le q => ?_⟩⟩
  have fr := hP.base _ _ pm
  refine low_start sl mr fr q fun v d M1 H1 i m f1 q => ?_
  refine low_start (sl.ext (f1.ext mr)) m (fr.trans f1) q fun x dx M2 H2 ix m2 f2 q => ?_
  cases dx with
  | ref a =>
    obtain ⟨fs, hM, hl, q⟩ := q
    rw [is_ref] at ix
    subst ix
    obtain ⟨dx, ws, hH, h1, h2, it⟩ := m2 a _ hM
    have i2 := Is.ext (f2.ext m) _ _ i
    have hl2 : ws.length < 1000 := by
      have := congrArg List.length h1
      rw [List.length_map, List.length_map] at this
      omega
    refine ⟨a, C, dx, ws, rfl, hH, c, na, hl2, ?_⟩
    obtain ⟨k1, k2⟩ := putF_rel (f := f) i2 h1 h2
    have ew : Ext g.X.K H2 (upd H2 a (.ins C dx (putF f v ws))) := ext_write m2 hM
    obtain ⟨m3, f3⟩ := set_mem m2 (Mo := M2) (Ho := H2) Fr.refl hM (u' := .ins C (putFD f d fs)) (o := .ins C dx (putF f v ws)) ⟨dx, _, upd_same, k1, IsL.ext ew _ _ k2, it⟩
    exact le.nx _ _ _ _ (sl.ext (((f1.trans f2).trans f3).ext mr)) m3 (hP.step _ _ _ _ pm ((f1.trans f2).trans f3)) q
  | _ => exact q.elim
end
end DL

namespace DL
open PySem PySem.Spec PyProof.Rows L2
def pickG {α : Type} (xs : List α) (lo hi : Option Int) (st : Int) : List α :=
  (sliceRange (sliceBounds lo hi (some st) xs.length).1 (sliceBounds lo hi (some st) xs.length).2.1 (sliceBounds lo hi (some st) xs.length).2.2).filterMap (xs[·]?)
theorem pick_arr (items : Array Value) (lo hi : Option Int) (st : Int) : slicePick items lo hi (some st) = (pickG items.toList lo hi st).toArray := by
  unfold slicePick pickG
  rw [Array.length_toList]
  congr 1
  congr 1
  funext i
  rw [Array.getElem?_toList]
theorem vals_at : ∀ {vs : List V} {us : List Value}, Vals vs us → ∀ i : Nat, (vs[i]? = none ∧ us[i]? = none) ∨ ∃ v u, vs[i]? = some v ∧ us[i]? = some u ∧ RelV v u
  | _, _, .nil, i => .inl ⟨by simp, by simp⟩
  | _, _, .cons r t, 0 => .inr ⟨_, _, by simp, by simp, r⟩
  | _, _, .cons r t, i + 1 => by simpa using vals_at t i
theorem vals_pick {vs : List V} {us : List Value} (h : Vals vs us) : ∀ is : List Nat, Vals (is.filterMap (vs[·]?)) (is.filterMap (us[·]?))
  | [] => .nil
  | i :: is => by
    rcases vals_at h i with ⟨e1, e2⟩ | ⟨v, u, e1, e2, r⟩
    · rw [List.filterMap_cons_none e1, List.filterMap_cons_none e2]; exact vals_pick h is
    · rw [List.filterMap_cons_some e1, List.filterMap_cons_some e2]; exact .cons r (vals_pick h is)
theorem Vals.pickG {vs : List V} {us : List Value} (h : Vals vs us) (lo hi : Option Int) (st : Int) : Vals (pickG vs lo hi st) (DL.pickG us lo hi st) := by
  unfold DL.pickG
  rw [h.length]
  exact vals_pick h _
theorem isL_pick {K : PySem.W.Frag} {H : Hp} {ds : List D} {vs : List V} (h : IsL K H ds vs) : ∀ is : List Nat, IsL K H (is.filterMap (ds[·]?)) (is.filterMap (vs[·]?))
  | [] => isL_nil.mpr rfl
  | i :: is => by
    cases e : ds[i]? with
    | none =>
      have hl := h.length
      have e2 : vs[i]? = none := by
        rw [List.getElem?_eq_none_iff] at e ⊢
        omega
      rw [List.filterMap_cons_none e, List.filterMap_cons_none e2]; exact isL_pick h is
    | some d =>
      obtain ⟨v, e2, i2⟩ := h.get e
      rw [List.filterMap_cons_some e, List.filterMap_cons_some e2]; exact IsL.mk i2 (isL_pick h is)
theorem IsL.pickG {K : PySem.W.Frag} {H : Hp} {ds : List D} {vs : List V} (h : IsL K H ds vs) (lo hi : Option Int) (st : Int) : IsL K H (pickG ds lo hi st) (DL.pickG vs lo hi st) := by
  unfold DL.pickG
  rw [h.length]
  exact isL_pick h _
theorem cnt_pos {l u st : Int} {n : Nat} (hs : 0 < st) (h1 : 0 ≤ l) (h2 : u ≤ n) : (if l < u then (u - l + st - 1) / st else 0).toNat ≤ n := by
  by_cases h : l < u
  · rw [if_pos h]
    have := ceilDiv_le (u - l) st (by omega) (by omega)
    omega
  · rw [if_neg h]; simp
theorem cnt_neg {l u st : Int} {n : Nat} (hs : st < 0) (h1 : l ≤ n - 1) (h2 : -1 ≤ u) : (if l > u then (l - u - st - 1) / (-st) else 0).toNat ≤ n := by
  by_cases h : l > u
  · rw [if_pos h]
    have := ceilDiv_le (l - u) (-st) (by omega) (by omega)
    rw [show l - u - st - 1 = l - u + -st - 1 by omega]
    omega
  · rw [if_neg h]; simp
theorem bounds_pos {lo hi : Option Int} {st : Int} {n : Nat} (hs : 0 < st) : 0 ≤ (sliceBounds lo hi (some st) n).1 ∧ (sliceBounds lo hi (some st) n).2.1 ≤ n := by
  have hp : st > 0 := hs
  cases lo <;> cases hi <;> simp only [sliceBounds, Option.getD_some, hp, if_true] <;> omega
theorem bounds_neg {lo hi : Option Int} {st : Int} {n : Nat} (hs : st < 0) : (sliceBounds lo hi (some st) n).1 ≤ (n : Int) - 1 ∧ -1 ≤ (sliceBounds lo hi (some st) n).2.1 := by
  have hp : ¬ st > 0 := by omega
  cases lo <;> cases hi <;> simp only [sliceBounds, Option.getD_some, hp, if_false] <;> omega
theorem bounds_le {lo hi : Option Int} {st : Int} {n : Nat} (h0 : st ≠ 0) : (sliceRange (sliceBounds lo hi (some st) n).1 (sliceBounds lo hi (some st) n).2.1 (sliceBounds lo hi (some st) n).2.2).length ≤ n := by
  have e3 : (sliceBounds lo hi (some st) n).2.2 = st := rfl
  rw [e3]
  unfold sliceRange
  rw [List.length_map, List.length_range]
  by_cases hs : 0 < st
  · obtain ⟨h1, h2⟩ := bounds_pos (lo := lo) (hi := hi) (n := n) hs
    have hp : st > 0 := hs
    simp only [hp, if_true]
    exact cnt_pos hs h1 h2
  · have hs : st < 0 := by omega
    obtain ⟨h1, h2⟩ := bounds_neg (lo := lo) (hi := hi) (n := n) hs
    have hp : ¬ st > 0 := by omega
    simp only [hp, if_false]
    exact cnt_neg hs h1 h2
theorem pickG_len {α : Type} {xs : List α} {lo hi : Option Int} {st : Int} (h0 : st ≠ 0) : (pickG xs lo hi st).length ≤ xs.length := by
  unfold pickG
  exact Nat.le_trans (List.length_filterMap_le _ _) (bounds_le h0)
theorem range_all {α : Type} (xs : List α) : (List.range xs.length).filterMap (xs[·]?) = xs := by
  have := PySem.W.krv_all xs.toArray
  simpa using this
section
variable {g : Gd} {a c : Expr} {lo hi : Option Expr} {ta tc : DTE} {tl th : DTO} {pos p2 : Pos}
def dSlS (x : D) (lo hi : Option Int) (st : Int) (M : Mem) (Q : QE) : Prop := st ≠ 0 ∧ match x with
  | .rl xs => ∀ p, M p = none → Q (.ref p) (wr M p (.lst (pickG xs lo hi st)))
  | .ref a => ∃ xs, M a = some (.lst xs) ∧ ∀ p, M p = none → Q (.ref p) (wr M p (.lst (pickG xs lo hi st)))
  | .tup xs => lo = none ∧ hi = none ∧ st = -1 ∧ Q (.tup xs.reverse) M
  | _ => False
def dSliS (t : DTE) (tl th tc : DTO) : DTE := fun e M Q E => t e M (fun x M1 => tl e M1 (fun l M2 => th e M2 (fun h M3 => tc e M3 (fun c M4 => match c with | some st => dSlS x l h st M4 Q | none => False) E) E) E) E
def rSlS (K : PySem.W.Frag) (x : V) (lo hi : Option Int) (st : Int) (H : Hp) (Q : VK) : Prop := st ≠ 0 ∧ ((∃ a xs, x = .ref a ∧ SqL K H a xs ∧ ∀ p, H p = none → Q (.ref p) (upd H p (.lst (pickG xs lo hi st)))) ∨
  ∃ a xs, x = .ref a ∧ SqT K H a xs ∧ lo = none ∧ hi = none ∧ st = -1 ∧ ∀ p, H p = none → Q (.ref p) (upd H p (.tup xs.reverse)))
section
variable {prog : Program} {w : World} {A : Around} {E : Value → Shared → Prop} {s : Shared}
theorem applied_rev {sl : Addr} {vl vu vs : Value} {n : Nat} {Q : Int × Int × Nat → Shared → Prop} (hs : s.heap.IsSliceOf sl vl vu vs) (pl : IsPart vl none) (pu : IsPart vu none) (ps : IsPart vs (some (-1)))
    (h : Q ((n : Int) - 1, -1, n) s) : wpAny (model prog w) A (Builtin.Slice.sliceApplied (.ref sl) (pure (n : Int))) Q E s := by
  obtain ⟨os, hos, hcs, hds⟩ := id hs
  unfold Builtin.Slice.sliceApplied Builtin.Slice.sliceFields
  refine wpAny_bind (wpAny_bind (wpAny_field hos hds (x := vl) rfl (wpAny_bind (wpAny_field hos hds (x := vu) rfl (wpAny_bind (wpAny_field hos hds (x := vs) rfl (wpAny_pure ?_)))))))
  refine wpAny_bind (HT.slicePart_ ps ?_)
  show wpAny _ _ (if ((-1 : Int) == 0) = true then _ else _) _ _ s
  rw [if_neg (by decide)]
  refine wpAny_bind (HT.slicePart_ pl (wpAny_bind (HT.slicePart_ pu (wpAny_bind (wpAny_pure ?_)))))
  show wpAny _ _ (match Builtin.Slice.sliceAdjust none none (-1) (n : Int) with | (lo, hi) => pure (lo, (-1 : Int), Builtin.Slice.slicePlaces lo hi (-1))) _ _ s
  have e : Builtin.Slice.sliceAdjust none none (-1) (n : Int) = ((n : Int) - 1, -1) := rfl
  rw [e]
  have e2 : Builtin.Slice.slicePlaces ((n : Int) - 1) (-1) (-1) = n := by
    unfold Builtin.Slice.slicePlaces
    rw [if_neg (by decide)]
    split
    · have : ((n : Int) - 1 - -1 - 1) / - -1 + 1 = n := by
        rw [show (- -1 : Int) = 1 from rfl, Int.ediv_one]; omega
      rw [this]; simp
    · have : n = 0 := by omega
      subst this; rfl
  show wpAny _ _ (pure ((n : Int) - 1, (-1 : Int), Builtin.Slice.slicePlaces ((n : Int) - 1) (-1) (-1))) _ _ s
  rw [e2]
  exact wpAny_pure h
theorem rev_items (xs : Array Value) : ((List.range xs.size).filterMap fun (m : Nat) => xs[((xs.size : Int) - 1 + (m : Int) * (-1)).toNat]?).toArray = xs.toList.reverse.toArray := by
  have e : (List.range xs.size).filterMap (fun (m : Nat) => xs[((xs.size : Int) - 1 + (m : Int) * (-1)).toNat]?) = ((List.range xs.size).map fun k => xs.size - 1 - k).filterMap (xs[·]?) := by
    rw [List.filterMap_map]
    have aux : ∀ l : List Nat, (∀ m ∈ l, m < xs.size) → l.filterMap (fun (m : Nat) => xs[((xs.size : Int) - 1 + (m : Int) * (-1)).toNat]?) = l.filterMap ((xs[·]?) ∘ fun k => xs.size - 1 - k) := by
      intro l
      induction l with
      | nil => intro _; rfl
      | cons m l ih =>
        intro h
        have hm := h m List.mem_cons_self
        have e : ((xs.size : Int) - 1 + (m : Int) * (-1)).toNat = xs.size - 1 - m := by omega
        rw [List.filterMap_cons, List.filterMap_cons, ih fun k hk => h k (List.mem_cons_of_mem _ hk)]
        simp only [e, Function.comp_apply]
    exact aux _ fun m hm => List.mem_range.mp hm
  rw [e, PySem.W.krv_range, List.filterMap_reverse, PySem.W.krv_all]
theorem getItem_tuple_rev {t sl : Addr} {items : Array Value} {vl vu vs : Value} {Q : Value → Shared → Prop} (ht : IsTup s.heap t items) (hs : s.heap.IsSliceOf sl vl vu vs) (pl : IsPart vl none) (pu : IsPart vu none) (ps : IsPart vs (some (-1)))
    (h : Q (.ref s.heap.objs.size) { s with heap := s.heap.push { cls := .type "tuple", data := .seq items.toList.reverse.toArray } }) (hsz : items.size ≤ sizeLine) : wpAny (model prog w) A (getItem (.ref t) (.ref sl)) Q E s := by
  have hsz2 : sizeOk (.seq items.toList.reverse.toArray) := by
    show items.toList.reverse.toArray.size ≤ sizeLine
    rw [List.size_toArray, List.length_reverse, Array.length_toList]
    exact hsz
  obtain ⟨os, hos, hcs, hds⟩ := id hs
  have hTs : s.TypeIs (.ref sl) "slice" := ⟨os, hos, hcs⟩
  unfold getItem
  try with_reducible refine wpAny_holding ?_
  first | refine wpAny_bind (wpAny_pure ?_) | skip
  refine wpAny_bind (wpAny_sequenceKey ht.typeIs (by decide) ?_)
  refine wpAny_bind (wpAny_callSpecial?_slot (name := Str.ofString "__getitem__") ht.typeIs PyProof.Rows.slot_tuple_getitem
    (wpAny_call_entry PyProof.Rows.slot_tuple_getitem ht.typeIs PySem.F.entry_tuple_getitem ?_ (PySem.F.args_tuple_getitem_2 _ _)))
  show wpAny _ _ (Builtin.Tuple.tupleItemsOf (.ref t) >>= _) _ _ s
  refine wpAny_bind (PyProof.Rows.tupleItemsOf_ ht ?_)
  refine wpAny_bind (wpAny_typeOf hTs ?_)
  rw [if_pos (by decide)]
  refine wpAny_bind (applied_rev hs pl pu ps ?_)
  have hno : ¬ ((((items.size : Int) - 1) == 0 && (-1 : Int) == 1 && items.size == items.size) = true) := by
    intro q
    rw [Bool.and_eq_true, Bool.and_eq_true] at q
    exact absurd q.1.2 (by decide)
  show wpAny _ _ (if (((items.size : Int) - 1) == 0 && (-1 : Int) == 1 && items.size == items.size) = true then _ else _) _ _ s
  rw [if_neg hno, rev_items]
  first
    | exact wpAny_bind (m := Builtin.Tuple.tupleExact _) (wpAny_newObj_type (wpAny_pure ⟨_, rfl, wpAny_pure h⟩) hsz2)
    | exact wpAny_bind (m := Builtin.Tuple.tupleExact _) (wpAny_newObj_type (wpAny_bind (wpAny_pure (wpAny_pure ⟨_, rfl, wpAny_pure h⟩))) hsz2)
    | exact wpAny_bind (wpAny_bind (m := Builtin.Tuple.tupleExact _) (wpAny_newObj_type (wpAny_pure (wpAny_pure ⟨_, rfl, wpAny_pure h⟩)) hsz2))
    | exact wpAny_bind (wpAny_bind (m := Builtin.Tuple.tupleExact _) (wpAny_newObj_type (wpAny_pure ⟨_, rfl, wpAny_pure h⟩) hsz2))
end
theorem pe_sliceS {X : Cx} {te : TE} {tl th ts : TO} (he : PE X a te) (hl : PO X lo tl) (hu : PO X hi th) (hst : PO X (some c) ts) : PE X (.Subscript a (.Slice lo hi (some c) p2) pos)
    (fun σ H Q => te σ H fun x H1 => tl σ H1 fun l H2 => th σ H2 fun u H3 => ts σ H3 fun z H4 => ∃ st, z = some st ∧ rSlS X.K x l u st H4 Q) := by
  refine ⟨fun pins s σ H Q I h => ?_⟩
  refine Subscript_ (thn (he.run pins s σ H _ I h) fun v s1 ⟨x, H1, I1, r1, q1⟩ => ?_)
  refine wpAny_Slice (thn (hl.run pins s1 σ H1 _ I1 q1) fun vl s2 ⟨l, H2, I2, pl, q2⟩ => thn (hu.run pins s2 σ H2 _ I2 q2) fun vu s3 ⟨u, H3, I3, pu, q3⟩ => thn (hst.run pins s3 σ H3 _ I3 q3) fun vs s4 ⟨o, H4, I4, ps, q4⟩ => ?_)
  obtain ⟨st, rfl, h0, q⟩ := q4
  have I5 : Inv X pins σ H4 { s4 with heap := s4.heap.push { cls := .type "slice", data := .fields #[vl, vu, vs] } } := I4.kept (t' := s4.toks) fun b ob q => Heap.get?_push_of_some _ q
  show wpAny (model X.prog X.w) X.A (subscriptTail a (.Slice lo hi (some c) p2) v (.ref s4.heap.objs.size)) (EP X pins σ Q) X.xe { s4 with heap := s4.heap.push { cls := .type "slice", data := .fields #[vl, vu, vs] } }
  rcases q with ⟨p, xs, rfl, hx, q⟩ | ⟨p, xs, rfl, hx, rfl, rfl, rfl, q⟩
  · cases r1
    obtain ⟨its, r, ht, hz⟩ := I5.list hx
    have hlen := r.length
    refine tail_any (ops := [.ref p, .ref s4.heap.objs.size]) ht.isList.typeIs (PySem.slot_list_getitem.lookup) ?_ (by with_unfolding_all rfl)
    refine wpAny_getItem_list_slice ht.isList (Heap.IsSliceOf.new _ vl vu vs) pl pu ps (fun z => h0 (Option.some.inj z)) ?_ (by rw [List.size_toArray]; omega)
    rw [pick_arr]
    refine ⟨.ref _, _, I5.laid (t' := s4.toks) (o := .lst (pickG xs l u st)) (fun b ob q => Heap.get?_push_of_some _ q) (Nat.le_refl _) ?_, rfl, q _ (I5.hok.fresh (Nat.le_refl _))⟩
    exact ⟨Nat.le_trans (pickG_len h0) hz, _, 0, Vals.pickG r l u st, Heap.get?_push_size _ rfl⟩
  · cases r1
    obtain ⟨its, r, ht, hz⟩ := I5.tuple hx
    have hlen := r.length
    refine tail_any (ops := [.ref p, .ref s4.heap.objs.size]) ht.typeIs PyProof.Rows.slot_tuple_getitem.lookup ?_ (by with_unfolding_all rfl)
    refine getItem_tuple_rev ht (Heap.IsSliceOf.new _ vl vu vs) pl pu ps ?_ (by rw [List.size_toArray]; omega)
    refine ⟨.ref _, _, I5.laid (t' := s4.toks) (o := .tup xs.reverse) (fun b ob q => Heap.get?_push_of_some _ q) (Nat.le_refl _) ?_, rfl, q _ (I5.hok.fresh (Nat.le_refl _))⟩
    exact ⟨by rw [List.length_reverse]; exact hz, _, r.reverse, IsTup.new _ _⟩
theorem de_sliceS {tcc : DTO} (ha : DE g a ta) (hl : DO g lo tl) (hh : DO g hi th) (hc : DO g (some c) tcc) : DE g (.Subscript a (.Slice lo hi (some c) p2) pos) (dSliS ta tl th tcc) := by
  obtain ⟨tl', pl, kl⟩ := hl.po
  obtain ⟨th', ph, kh⟩ := hh.po
  obtain ⟨tc', pc, kc⟩ := hc.po
  refine DE.of (pe_sliceS ha.pe pl ph pc) fun σ H e M Q sl mr fr q => ?_
  refine low_start sl mr fr q fun v d M1 H1 i m f q => ?_
  refine kl σ H1 e M1 _ _ (sl.ext (f.ext mr)) m (fr.trans f) q fun l M2 H2 m2 f2 q => ?_
  have f12 := f.trans f2
  refine kh σ H2 e M2 _ _ (sl.ext (f12.ext mr)) m2 (fr.trans f12) q fun u M3 H3 m3 f3 q => ?_
  have f13 := f12.trans f3
  refine kc σ H3 e M3 _ _ (sl.ext (f13.ext mr)) m3 (fr.trans f13) q fun o M4 H4 m4 f4 q => ?_
  have f14 := f13.trans f4
  cases o with
  | none => exact q.elim
  | some st =>
    obtain ⟨h0, q⟩ := q
    have i4 := Is.ext (((f2.trans f3).trans f4).ext m) _ _ i
    refine ⟨st, rfl, h0, ?_⟩
    cases d with
    | rl xs =>
      rw [is_rl] at i4
      obtain ⟨p, vs, rfl, h1, l1⟩ := i4
      exact .inl ⟨p, vs, rfl, h1.sq, Fin.newL fin_low m4 f14 (IsL.pickG l1 l u st) q⟩
    | ref p =>
      rw [is_ref] at i4
      subst i4
      obtain ⟨xs, hM, q⟩ := q
      obtain ⟨vs, hH, l1⟩ := m4 p _ hM
      exact .inl ⟨p, vs, rfl, SqL.of hH, Fin.newL fin_low m4 f14 (IsL.pickG l1 l u st) q⟩
    | tup xs =>
      rw [is_tup] at i4
      obtain ⟨p, vs, rfl, h1, l1⟩ := i4
      obtain ⟨e1, e2, e3, q⟩ := q
      exact .inr ⟨p, vs, rfl, SqT.of h1, e1, e2, e3, Fin.newT fin_low m4 f14 l1.reverse q⟩
    | _ => exact q.elim
end
end DL

namespace DL
open PySem PySem.Spec PyProof.Rows L2
def dstep {κ : Type} [DecidableEq κ] (l : List κ) (x : κ) : List κ := if x ∈ l then l else l ++ [x]
def ddup {κ : Type} [DecidableEq κ] (xs : List κ) : List κ := xs.foldl dstep []
def memB {κ : Type} [DecidableEq κ] (y : κ) (l : List κ) : Bool := decide (y ∈ l)
theorem memB_iff {κ : Type} [DecidableEq κ] {y : κ} {l : List κ} : memB y l = true ↔ y ∈ l := by unfold memB; exact decide_eq_true_iff
section
variable {κ : Type} [DecidableEq κ]
theorem mem_dstep {l : List κ} {x y : κ} : y ∈ dstep l x ↔ y ∈ l ∨ y = x := by
  unfold dstep
  split
  · rename_i h
    exact ⟨.inl, fun z => z.elim id fun e => e ▸ h⟩
  · simp
theorem foldl_dstep (xs : List κ) : ∀ l : List κ, (∀ y, y ∈ xs.foldl dstep l ↔ y ∈ l ∨ y ∈ xs) ∧ (l.Nodup → (xs.foldl dstep l).Nodup) ∧ (xs.foldl dstep l).length ≤ l.length + xs.length := by
  induction xs with
  | nil => intro l; exact ⟨fun y => by simp, id, by simp⟩
  | cons x xs ih =>
    intro l
    obtain ⟨h1, h2, h3⟩ := ih (dstep l x)
    refine ⟨fun y => ?_, fun h => h2 ?_, ?_⟩
    · rw [List.foldl_cons, h1, mem_dstep, List.mem_cons, or_assoc]
    · unfold dstep
      split
      · exact h
      · rename_i hx
        rw [List.nodup_append]
        exact ⟨h, by simp, fun a ha b hb => by rw [List.mem_singleton] at hb; subst hb; intro e; subst e; exact hx ha⟩
    · have : (dstep l x).length ≤ l.length + 1 := by
        unfold dstep
        split <;> simp
      rw [List.foldl_cons, List.length_cons]
      omega
theorem mem_ddup {xs : List κ} {y : κ} : y ∈ ddup xs ↔ y ∈ xs := by rw [ddup, (foldl_dstep xs []).1]; simp
theorem ddup_le (xs : List κ) : (ddup xs).length ≤ xs.length := by
  have h := (foldl_dstep xs []).2.2
  rw [List.length_nil, Nat.zero_add] at h
  exact h
theorem ddup_snoc (xs : List κ) (x : κ) : ddup (xs ++ [x]) = dstep (ddup xs) x := by unfold ddup; rw [List.foldl_append]; rfl
end
def KeysAre {prog : Program} {w : World} {κ : Type} [DecidableEq κ] (knd : KeyKind prog w κ) (us : List Value) (xs : List κ) : Prop := us.length = xs.length ∧ ∀ (i : Nat) (v : Value), us[i]? = some v → ∃ k, xs[i]? = some k ∧ knd.is k v = true ∧ v.scannable = true
abbrev setO (led : Bool) : Obj := { cls := .type "set", dict := none, data := .set #[] 0 (.fresh 0 0 led) }
section
variable {prog : Program} {w : World} {κ : Type} [DecidableEq κ] {knd : KeyKind prog w κ} {A : Around} {R : Result → Shared → Prop} {it : Addr} {fp wr : List Addr} {G : Array GenState → Array GenState → Prop} {n : Nat} {P : Nat → Value → Prop} {St : Nat → Shared → Prop}
theorem setOf_eq {h : Heap} {a : Addr} {S S' : κ → Bool} {m m' : Nat} (q : h.SetOf knd a S m) (e : ∀ k, S k = S' k) (en : m = m') : h.SetOf knd a S' m' := by
  obtain rfl : S = S' := funext e
  subst en
  exact q
theorem loopKey (W : WalksS prog w A.in1 it fp wr G n P St) (D : Addr) (hDf : D ∉ fp) (xs : List κ) (hn : xs.length = n) (hb : n + 1 < scanBound)
    (hval : ∀ i v, P i v → ∃ k, xs[i]? = some k ∧ knd.is k v = true ∧ v.scannable = true) :
    ∀ (m i : Nat) (s : Shared), n - i = m → i ≤ n → St i s → s.heap.SetOf knd D (fun y => memB y (ddup (xs.take i))) (ddup (xs.take i)).length →
      (∀ s', Moved (D :: wr) G s s' → s'.heap.SetOf knd D (fun y => memB y (ddup xs)) (ddup xs).length → R (.ok (.ret .none)) s') →
      codeAny (model prog w) A (.builtin "set.update.loop" ⟨[.ref D, .ref it], []⟩) R s := by
  have nDw : D ∉ wr := fun h => hDf (W.sub _ h)
  have wsub : ∀ b ∈ wr, b ∈ D :: wr := fun b h => List.mem_cons_of_mem _ h
  intro m
  induction m with
  | zero =>
    intro i s hm hi st hS fin
    obtain rfl : i = n := by omega
    rw [← hn, List.take_length] at hS
    refine codeAny_builtin PyProof.Rows.F.entry_set_update_loop ?_
    rw [Around.under_plainId PyProof.Rows.F.plain_set_update_loop _]
    show wpAny _ A.in1 (pyNext (.ref it) >>= _) _ _ s
    refine wpAny_bind (W.done s _ _ st fun s' mv => ?_)
    show wpAny _ A.in1 (ret Value.none) _ _ s'
    refine wpAny_pure (fin s' (mv.mono wsub) ?_)
    obtain ⟨o, es, ep, tb, ho, q⟩ := hS
    exact ⟨o, es, ep, tb, mv.heap D _ nDw ho, q⟩
  | succ m ih =>
    intro i s hm hi st hS fin
    have lt : i < n := by omega
    refine codeAny_builtin PyProof.Rows.F.entry_set_update_loop ?_
    rw [Around.under_plainId PyProof.Rows.F.plain_set_update_loop _]
    show wpAny _ A.in1 (pyNext (.ref it) >>= _) _ _ s
    refine wpAny_bind (W.item i s _ _ lt st fun v s' hP st' mv => ?_)
    obtain ⟨k, hk, kis, sc⟩ := hval i v hP
    have hS' : s'.heap.SetOf knd D (fun y => memB y (ddup (xs.take i))) (ddup (xs.take i)).length := by
      obtain ⟨o, es, ep, tb, ho, q⟩ := hS
      exact ⟨o, es, ep, tb, mv.heap D _ nDw ho, q⟩
    show wpAny _ A.in1 (holding [v] (setAdd D v) >>= _) _ _ s'
    refine wpAny_bind (wpAny_holding ?_)
    unfold setAdd
    refine wpAny_holding ?_
    refine wpAny_bind (knd.pyHash (k := k) kis ?_)
    have room : (ddup (xs.take i)).length + 1 < scanBound := by
      have := ddup_le (xs.take i)
      rw [List.length_take] at this
      omega
    refine wpAny_setAddHashed_of (knd := knd) (s := { s' with toks := s'.toks + 1 }) kis sc hS' room fun h' same hS2 => ?_
    have e1 : ddup (xs.take (i + 1)) = dstep (ddup (xs.take i)) k := by
      rw [List.take_add_one, hk]
      exact ddup_snoc _ _
    have hS3 : h'.SetOf knd D (fun y => memB y (ddup (xs.take (i + 1)))) (ddup (xs.take (i + 1))).length := by
      refine setOf_eq hS2 (fun y => ?_) ?_
      · rw [e1, Bool.eq_iff_iff]
        rw [Bool.or_eq_true, memB_iff, memB_iff, decide_eq_true_eq]
        exact mem_dstep.symm
      · rw [e1]
        unfold dstep
        by_cases hc : k ∈ ddup (xs.take i)
        · rw [if_pos hc, if_pos (memB_iff.mpr hc)]
        · rw [if_neg hc, if_neg (fun z => hc (memB_iff.mp z)), List.length_append, List.length_singleton]
    refine wpAny_pure ⟨plainId_quiet PyProof.Rows.F.plain_set_update_loop _, ih (i + 1) _ (by omega) lt (W.frame _ s' _ _ st' (Nat.le_succ _) fun b hbf o e => ?_) hS3 fun s2 mv2 hSS => ?_⟩
    · rw [same.2 b (fun z : b = D => hDf (z ▸ hbf))]; exact e
    · refine fin s2 (Moved.trans W.gtrans ((mv.mono wsub).then_heap (Nat.le_succ _) fun b o hbf e => ?_) mv2) hSS
      rw [same.2 b (fun z : b = D => hbf (z ▸ List.mem_cons_self))]; exact e
end
section
variable {prog : Program} {w : World} {κ : Type} [DecidableEq κ] {knd : KeyKind prog w κ} {A : Around} {E : Value → Shared → Prop} {s : Shared}
theorem set_of_list {l : Addr} {its : Array Value} {xs : List κ} {Q : Value → Shared → Prop} (hA : A.handled = none) (hl : s.heap.IsList l its) (hi : KeysAre knd its.toList xs) (hb : xs.length + 1 < scanBound)
    (h : ∀ (h' : Heap) (tk : Nat), h'.SetOf knd s.heap.objs.size (fun y => memB y (ddup xs)) (ddup xs).length → (∀ b o, b < s.heap.objs.size → s.heap.get? b = some o → h'.get? b = some o) → Q (.ref s.heap.objs.size) { s with heap := h', toks := tk }) :
    wpAny (model prog w) A (call (.type "set") [.ref l]) Q E s := by
  obtain ⟨cc, tl, hmro⟩ := PySem.F.called_set.mro
  have hmade := PySem.F.called_set.made
  have hsub := PySem.F.called_set.sub
  refine wpAny_call (codeAny_of_tree ?_)
  show wpAny _ _ (callAny (.type "set") _) _ _ _
  refine wpAny_pure ⟨Code.quiet_builtin _ (by decide +kernel), codeAny_builtin PySem.F.entry_type_call ?_⟩
  rw [Around.under_plain (weight_type_call_type "set" [.ref l] []) rfl]
  have q1 := PySem.F.called_set.notType
  have q2 := PySem.F.called_set.canCreate
  have q3 := PySem.F.typeCall_set_1 (.ref l)
  repeat (any_goals (first | assumption | wp_step))
  refine codeAny_mono (code_set_new_1 (.ref l) (E := E) (Q₁ := fun obj z => ∃ led : Bool, obj = .ref s.heap.objs.size ∧ z = { s with heap := s.heap.push (setO led) }) fun led => ⟨led, rfl, rfl⟩) fun r z hr => ?_
  cases r with
  | error e => exact hr
  | ok fl =>
    cases fl with
    | ret obj =>
      obtain ⟨led, rfl, rfl⟩ := hr
      have hS : (s.heap.push (setO led)).get? s.heap.objs.size = some (setO led) := Heap.get?_push_size _ rfl
      have hT : Shared.TypeIs { s with heap := s.heap.push (setO led) } (.ref s.heap.objs.size) "set" := ⟨_, hS, rfl⟩
      have q4 := PySem.F.called_set.init.lookup
      have q5 := PySem.F.called_set.init.bind (.ref s.heap.objs.size)
      repeat (any_goals (first | assumption | wp_step))
      refine codeAny_mono (codeAny_call_builtin (R := wants (fun r z => r = .none ∧ ∃ h' tk, z = { s with heap := h', toks := tk } ∧ h'.SetOf knd s.heap.objs.size (fun y => memB y (ddup xs)) (ddup xs).length ∧ (∀ b o, b < s.heap.objs.size → s.heap.get? b = some o → h'.get? b = some o)) E)
        PySem.F.called_set.init.plain PySem.F.entry_set_init (check_set_init_1 hT ?_)) fun r2 z hr2 => ?_
      · obtain ⟨ol, hol, hcl, nl, hdl⟩ := hl
        obtain ⟨ocls, odict, odata, oslots⟩ := ol
        simp only at hcl hdl
        subst hcl; subst hdl
        have hol' : (s.heap.push (setO led)).get? l = some { cls := .type "list", dict := odict, data := .seq its nl, slots := oslots } := Heap.get?_push_of_some _ hol
        have q6 := PySem.F.sub_list_set
        have q7 := PySem.F.sub_list_frozenset
        have q8 : (Value.type "list" == Value.type "dict") = false := by decide
        have hl1 : (s.heap.push (setO led)).IsList l its := ⟨_, hol', rfl, nl, rfl⟩
        unfold Builtin.«set.__init__» noKeywords Builtin.Frozenset.updateFrom
        generalize hPI : pyIter = PI
        wp_walk
        subst hPI
        refine wpAny_pyIter_list hl1 ?_
        refine wpAny_bind (wpAny_runValue ?_)
        have lS : l < s.heap.objs.size := Heap.lt_size hol
        have hA3 : A.in1.in1.in1.handled = none := by simp [hA]
        have sz : (s.heap.push (setO led)).objs.size = s.heap.objs.size + 1 := Heap.size_push _ _
        have neI : l ≠ (s.heap.push (setO led)).objs.size := by rw [sz]; exact Nat.ne_of_lt (Nat.lt_succ_of_lt lS)
        have nDf : s.heap.objs.size ∉ [(s.heap.push (setO led)).objs.size, l] := by
          rw [sz]
          simp only [List.mem_cons, List.not_mem_nil, or_false, not_or]
          exact ⟨Nat.ne_of_lt (Nat.lt_succ_self _), Nat.ne_of_gt lS⟩
        refine loopKey (knd := knd) ((Walks.list hA3 _ l neI its).toS) s.heap.objs.size nDf xs (by rw [← hi.1, Array.length_toList]) (by rw [← Array.length_toList, hi.1]; exact hb)
          (fun i v hv => hi.2 i v (by rw [Array.getElem?_toList]; exact hv)) (its.size - 0) 0 _ (by omega) (Nat.zero_le _) ⟨⟨_, Heap.get?_push_size _ rfl, rfl, rfl⟩, (hl1.push _)⟩ ?c0 ?cR
        case c0 =>
          have hg : ((s.heap.push (setO led)).push { cls := .type "list_iterator", data := .fields #[.ref l, .int 0 0] }).get? s.heap.objs.size = some (setO led) := Heap.get?_push_of_some _ hS
          exact setOf_eq ((PyProof.Rows.setObjOf_fresh (knd := knd) led).setOf hg (by unfold scanBound; omega)) (fun _ => rfl) rfl
        case cR =>
          intro z mv hSS
          obtain ⟨h', g', d', tk', os'⟩ := z
          obtain rfl : g' = s.gens := mv.gens
          obtain rfl : d' = s.drawn := mv.drawn
          obtain rfl : os' = s.os := mv.os
          show wpAny _ _ _ _ _ _
          refine wpAny_pure ?_
          show wpAny _ _ (ret Value.none) _ _ _
          refine wpAny_pure ⟨rfl, h', tk', rfl, hSS, fun b o hbl e => mv.heap b o ?_ (Heap.get?_push_of_some _ (Heap.get?_push_of_some _ e))⟩
          rw [sz]
          simp only [List.mem_cons, List.not_mem_nil, or_false, not_or]
          exact ⟨Nat.ne_of_lt hbl, Nat.ne_of_lt (Nat.lt_succ_of_lt hbl)⟩
      · cases r2 with
        | error e => exact hr2
        | ok fl2 =>
          cases fl2 with
          | ret r =>
            obtain ⟨rfl, h', tk, rfl, hSS, hk⟩ := hr2
            repeat (any_goals (first | assumption | wp_step))
            exact h _ _ hSS hk
          | _ => exact hr2.elim
    | _ => exact hr.elim
theorem set_of_tuple {l : Addr} {its : Array Value} {xs : List κ} {Q : Value → Shared → Prop} (hA : A.handled = none) (hl : s.heap.IsTuple l its) (hi : KeysAre knd its.toList xs) (hb : xs.length + 1 < scanBound)
    (h : ∀ (h' : Heap) (tk : Nat), h'.SetOf knd s.heap.objs.size (fun y => memB y (ddup xs)) (ddup xs).length → (∀ b o, b < s.heap.objs.size → s.heap.get? b = some o → h'.get? b = some o) → Q (.ref s.heap.objs.size) { s with heap := h', toks := tk }) :
    wpAny (model prog w) A (call (.type "set") [.ref l]) Q E s := by
  obtain ⟨cc, tl, hmro⟩ := PySem.F.called_set.mro
  have hmade := PySem.F.called_set.made
  have hsub := PySem.F.called_set.sub
  refine wpAny_call (codeAny_of_tree ?_)
  show wpAny _ _ (callAny (.type "set") _) _ _ _
  refine wpAny_pure ⟨Code.quiet_builtin _ (by decide +kernel), codeAny_builtin PySem.F.entry_type_call ?_⟩
  rw [Around.under_plain (weight_type_call_type "set" [.ref l] []) rfl]
  have q1 := PySem.F.called_set.notType
  have q2 := PySem.F.called_set.canCreate
  have q3 := PySem.F.typeCall_set_1 (.ref l)
  repeat (any_goals (first | assumption | wp_step))
  refine codeAny_mono (code_set_new_1 (.ref l) (E := E) (Q₁ := fun obj z => ∃ led : Bool, obj = .ref s.heap.objs.size ∧ z = { s with heap := s.heap.push (setO led) }) fun led => ⟨led, rfl, rfl⟩) fun r z hr => ?_
  cases r with
  | error e => exact hr
  | ok fl =>
    cases fl with
    | ret obj =>
      obtain ⟨led, rfl, rfl⟩ := hr
      have hS : (s.heap.push (setO led)).get? s.heap.objs.size = some (setO led) := Heap.get?_push_size _ rfl
      have hT : Shared.TypeIs { s with heap := s.heap.push (setO led) } (.ref s.heap.objs.size) "set" := ⟨_, hS, rfl⟩
      have q4 := PySem.F.called_set.init.lookup
      have q5 := PySem.F.called_set.init.bind (.ref s.heap.objs.size)
      repeat (any_goals (first | assumption | wp_step))
      refine codeAny_mono (codeAny_call_builtin (R := wants (fun r z => r = .none ∧ ∃ h' tk, z = { s with heap := h', toks := tk } ∧ h'.SetOf knd s.heap.objs.size (fun y => memB y (ddup xs)) (ddup xs).length ∧ (∀ b o, b < s.heap.objs.size → s.heap.get? b = some o → h'.get? b = some o)) E)
        PySem.F.called_set.init.plain PySem.F.entry_set_init (check_set_init_1 hT ?_)) fun r2 z hr2 => ?_
      · obtain ⟨ol, hol, hcl, nl, hdl⟩ := hl
        obtain ⟨ocls, odict, odata, oslots⟩ := ol
        simp only at hcl hdl
        subst hcl; subst hdl
        have hol' : (s.heap.push (setO led)).get? l = some { cls := .type "tuple", dict := odict, data := .seq its nl, slots := oslots } := Heap.get?_push_of_some _ hol
        have q6 := PySem.F.sub_tuple_set
        have q7 := PySem.F.sub_tuple_frozenset
        have q8 : (Value.type "tuple" == Value.type "dict") = false := by decide
        have hl1 : (s.heap.push (setO led)).IsTuple l its := ⟨_, hol', rfl, nl, rfl⟩
        unfold Builtin.«set.__init__» noKeywords Builtin.Frozenset.updateFrom
        generalize hPI : pyIter = PI
        wp_walk
        subst hPI
        refine wpAny_pyIter_tuple hl1 ?_
        refine wpAny_bind (wpAny_runValue ?_)
        have lS : l < s.heap.objs.size := Heap.lt_size hol
        have hA3 : A.in1.in1.in1.handled = none := by simp [hA]
        have sz : (s.heap.push (setO led)).objs.size = s.heap.objs.size + 1 := Heap.size_push _ _
        have neI : l ≠ (s.heap.push (setO led)).objs.size := by rw [sz]; exact Nat.ne_of_lt (Nat.lt_succ_of_lt lS)
        have nDf : s.heap.objs.size ∉ [(s.heap.push (setO led)).objs.size, l] := by
          rw [sz]
          simp only [List.mem_cons, List.not_mem_nil, or_false, not_or]
          exact ⟨Nat.ne_of_lt (Nat.lt_succ_self _), Nat.ne_of_gt lS⟩
        refine loopKey (knd := knd) ((Walks.tuple hA3 _ l neI its).toS) s.heap.objs.size nDf xs (by rw [← hi.1, Array.length_toList]) (by rw [← Array.length_toList, hi.1]; exact hb)
          (fun i v hv => hi.2 i v (by rw [Array.getElem?_toList]; exact hv)) (its.size - 0) 0 _ (by omega) (Nat.zero_le _) ⟨⟨_, Heap.get?_push_size _ rfl, rfl, rfl⟩, (hl1.push _)⟩ ?c0 ?cR
        case c0 =>
          have hg : ((s.heap.push (setO led)).push { cls := .type "tuple_iterator", data := .fields #[.ref l, .int 0 0] }).get? s.heap.objs.size = some (setO led) := Heap.get?_push_of_some _ hS
          exact setOf_eq ((PyProof.Rows.setObjOf_fresh (knd := knd) led).setOf hg (by unfold scanBound; omega)) (fun _ => rfl) rfl
        case cR =>
          intro z mv hSS
          obtain ⟨h', g', d', tk', os'⟩ := z
          obtain rfl : g' = s.gens := mv.gens
          obtain rfl : d' = s.drawn := mv.drawn
          obtain rfl : os' = s.os := mv.os
          show wpAny _ _ _ _ _ _
          refine wpAny_pure ?_
          show wpAny _ _ (ret Value.none) _ _ _
          refine wpAny_pure ⟨rfl, h', tk', rfl, hSS, fun b o hbl e => mv.heap b o ?_ (Heap.get?_push_of_some _ (Heap.get?_push_of_some _ e))⟩
          rw [sz]
          simp only [List.mem_cons, List.not_mem_nil, or_false, not_or]
          exact ⟨Nat.ne_of_lt hbl, Nat.ne_of_lt (Nat.lt_succ_of_lt hbl)⟩
      · cases r2 with
        | error e => exact hr2
        | ok fl2 =>
          cases fl2 with
          | ret r =>
            obtain ⟨rfl, h', tk, rfl, hSS, hk⟩ := hr2
            repeat (any_goals (first | assumption | wp_step))
            exact h _ _ hSS hk
          | _ => exact hr2.elim
    | _ => exact hr.elim
end
end DL

namespace DL
open PySem PySem.Spec PyProof.Rows L2
theorem keyD_V (k : Key) : keyD (keyV k) = some k := by cases k <;> rfl
theorem is_keyV {K : PySem.W.Frag} {H : Hp} (k : Key) {v : V} : Is K H (keyV k) v ↔ v = kV k := by
  cases k with
  | inl i => exact is_int
  | inr s => exact is_str
def mergeG {α : Type} (kvs more : List (Key × α)) : List (Key × α) := more.foldl (fun acc kv => putG acc kv.1 kv.2) kvs
theorem KRel.merge {K : PySem.W.Frag} {H : Hp} : ∀ {more : List (Key × D)} {ms : List (Key × V)} {kvs : List (Key × D)} {ws : List (Key × V)}, KRel K H more ms → KRel K H kvs ws → KRel K H (mergeG kvs more) (mergeK ws ms)
  | [], ms, kvs, ws, h, h2 => by
    have := h.nil_of
    subst this
    exact h2
  | (k, d) :: more, ms, kvs, ws, h, h2 => by
    obtain ⟨v, r, rfl, i, t⟩ := h.inv
    exact KRel.merge (kvs := putG kvs k d) (ws := putK ws k v) t (h2.put i)
def pairD (kv : Key × D) : D := .tup [keyV kv.1, kv.2]
theorem isL_pairs {K : PySem.W.Frag} {H : Hp} : ∀ {kvs : List (Key × D)} {vs : List V}, IsL K H (kvs.map pairD) vs → ∃ (ps : List Addr) (ws : List (Key × V)), vs = ps.map V.ref ∧ Paired (fun p kv => SqT K H p [kV kv.1, kv.2]) ps ws ∧ KRel K H kvs ws
  | [], vs, h => by rw [List.map_nil, isL_nil] at h; subst h; exact ⟨[], [], rfl, .nil, KRel.nil⟩
  | (k, d) :: kvs, vs, h => by
    rw [List.map_cons, isL_cons] at h
    obtain ⟨v, r, rfl, i, t⟩ := h
    unfold pairD at i
    rw [is_tup] at i
    obtain ⟨a, us, rfl, h1, l⟩ := i
    rw [isL_cons] at l
    obtain ⟨u1, r1, rfl, i1, l⟩ := l
    rw [isL_cons] at l
    obtain ⟨u2, r2, rfl, i2, l⟩ := l
    rw [isL_nil] at l
    subst l
    rw [is_keyV] at i1
    subst i1
    obtain ⟨ps, ws, rfl, hp, hk⟩ := isL_pairs t
    exact ⟨a :: ps, (k, u2) :: ws, rfl, .cons (SqT.of h1) hp, hk.mk i2⟩

section
variable {X : Cx}
theorem call_dictTx (hc : X.calm = true) : CallR X (.type "dict") (fun xs H Q => ∃ (a : Addr) (ps : List Addr) (kvs : List (Key × V)), xs = [.ref a] ∧ TxA H a (ps.map V.ref) ∧ Paired (fun p kv => SqT X.K H p [kV kv.1, kv.2]) ps kvs ∧
    ∀ p, H p = none → Q (.ref p) (upd H p (.dK (mergeK [] kvs)))) := by
  intro pins s σ H xs us Q I r q
  obtain ⟨a, ps, kvs, rfl, hq, hp, q⟩ := q
  obtain ⟨u, rfl, rx⟩ := vals1 r
  cases rx
  obtain ⟨o, ho, hd⟩ := hq
  obtain ⟨hg, hz, its, rv, ⟨o2, ho2, hc2, n, hdat⟩⟩ : s.heap.get? a = some o ∧ (ps.map V.ref).length ≤ sizeLine ∧ ∃ its : List Value, Vals (ps.map V.ref) its ∧ IsTup s.heap a its.toArray := I.hok a _ ho
  rw [hg] at ho2
  cases ho2
  obtain rfl := refs_at rv
  rw [List.length_map] at hz
  obtain ⟨prs, rel, hl, hpr⟩ := pairs_of I hp
  have hu : ∀ j (hj : j < prs.length), ∃ u : Value, ∃ b : Addr, ps[j]? = some b ∧ IsTup s.heap b #[u, prs[j].2] ∧ keyIs prs[j].1 u = true := fun j hj => by
    obtain ⟨b, u, e1, e2, e3⟩ := hpr j _ (List.getElem?_eq_getElem hj)
    exact ⟨u, b, e1, e2, e3⟩
  let us : List (Value × Value) := (List.range prs.length).attach.map fun j => (Classical.choose (hu j.1 (List.mem_range.mp j.2)), (prs[j.1]'(List.mem_range.mp j.2)).2)
  have ul : us.length = prs.length := by simp [us]
  have ua : ∀ j (hj : j < prs.length), us[j]? = some (Classical.choose (hu j hj), prs[j].2) := fun j hj => by simp [us, hj]
  have P := PairArg.tuple (prog := X.prog) (w := X.w) a (ps.map Value.ref).toArray (fun j => ps.getD j 0) us
  refine PySem.call_dict_pairs (knd := mixKind X.prog X.w) (kvs := prs) P (I.ok.hd hc) ⟨⟨o, n, hg, hc2, hd, hdat⟩, ?_, fun j k v e => ?_⟩ ⟨ul.symm, fun j k v e => ?_⟩ (by rw [ul, hl]; exact hz) fun h' tk hd' hk => ?_
  · simp [ul, hl]
  · have hj : j < prs.length := by rw [← ul]; exact (List.getElem?_eq_some_iff.mp e).1
    rw [ua j hj] at e
    simp only [Option.some.injEq, Prod.mk.injEq] at e
    obtain ⟨b, e1, e2, e3⟩ := Classical.choose_spec (hu j hj)
    have eb : ps.getD j 0 = b := by rw [List.getD_eq_getElem?_getD, e1]; rfl
    show _ ∧ PairAt s.heap (ps.getD j 0) k v
    rw [eb, ← e.1, ← e.2]
    exact ⟨by simp [e1], .inl e2⟩
  · have hj : j < prs.length := by rw [← ul]; exact (List.getElem?_eq_some_iff.mp e).1
    have e : us[j]? = some (k, v) := e
    rw [ua j hj] at e
    simp only [Option.some.injEq, Prod.mk.injEq] at e
    obtain ⟨b, e1, e2, e3⟩ := Classical.choose_spec (hu j hj)
    exact ⟨prs[j].1, by rw [List.getElem?_eq_getElem hj, ← e.2], by rw [← e.1]; exact e3⟩
  · have hm : (s.heap.objs.size == sysModules) = false := beq_eq_false_iff_ne.mpr (Nat.ne_of_gt I.big)
    have hlen : (mergeK [] kvs).length ≤ sizeLine := by
      have := length_mergeK kvs []
      have := rel.length
      rw [List.length_nil] at *
      omega
    exact ⟨.ref s.heap.objs.size, _, I.laid (t' := tk) (fun b o e => hk b o (by simp) e) (Nat.le_refl _) (show ObjOk X.prog X.w _ _ _ (.dK (mergeK [] kvs)) from ⟨hlen, hm, merged [] prs, KV.merge rel .nil, hd'⟩), rfl, q _ (I.hok.fresh (Nat.le_refl _))⟩
def rDict : RnD := fun ds M Q => match ds with
  | [.tx xs] => ∃ kvs, xs = kvs.map pairD ∧ ∀ p, M p = none → Q (.ref p) (wr M p (.dK (mergeG [] kvs)))
  | [.rl xs] => ∃ kvs, xs = kvs.map pairD ∧ ∀ p, M p = none → Q (.ref p) (wr M p (.dK (mergeG [] kvs)))
  | [.ref a] => ∃ kvs, M a = some (.lst (kvs.map pairD)) ∧ ∀ p, M p = none → Q (.ref p) (wr M p (.dK (mergeG [] kvs)))
  | _ => False
theorem Fin.newK {K : PySem.W.Frag} {M Mo : Mem} {H Ho : Hp} {Q : QE} {QV : VK} (fin : Fin K Mo Ho Q QV) (m : MRel K M H) (f : Fr Mo Ho M H) {kvs : List (Key × D)} {ws : List (Key × V)} (l : KRel K H kvs ws) (q : ∀ p, M p = none → Q (.ref p) (wr M p (.dK kvs))) :
    ∀ p, H p = none → QV (.ref p) (upd H p (.dK ws)) := fun p hp => by
  have hm : M p = none := m.none_of hp
  have q' : MOk K (upd H p (.dK ws)) p (.dK kvs) := ⟨ws, upd_same, l.1, IsL.ext ((fr_new (o := HO.dK ws) m hp).ext m) _ _ l.2⟩
  exact fin _ _ _ _ ii_ref (mr_alloc m hp q') (f.trans (fr_alloc m hp)) (q p hm)
theorem cd_dict (hc : X.calm = true) : CallD X (.type "dict") rDict := by
  refine ⟨_, (call_dictTx hc).or (call_dictP hc), fun M H Mo Ho vs ds Q QV m f l fin q => ?_⟩
  match ds, q with
  | [.tx xs], q =>
    obtain ⟨v, rfl, j⟩ := isL_one l
    rw [is_tx] at j
    obtain ⟨a, ws, rfl, e, l1⟩ := j
    obtain ⟨kvs, rfl, q⟩ := q
    obtain ⟨ps, ws, rfl, hp, hk⟩ := isL_pairs l1
    exact .inl ⟨a, ps, ws, rfl, e, hp, Fin.newK fin m f (KRel.merge hk KRel.nil) q⟩
  | [.rl xs], q =>
    obtain ⟨v, rfl, j⟩ := isL_one l
    rw [is_rl] at j
    obtain ⟨a, ws, rfl, e, l1⟩ := j
    obtain ⟨kvs, rfl, q⟩ := q
    obtain ⟨ps, ws, rfl, hp, hk⟩ := isL_pairs l1
    exact .inr ⟨a, ps, ws, rfl, e.sq, hp, Fin.newK fin m f (KRel.merge hk KRel.nil) q⟩
  | [.ref a], q =>
    obtain ⟨v, rfl, j⟩ := isL_one l
    rw [is_ref] at j
    subst j
    obtain ⟨kvs, h, q⟩ := q
    obtain ⟨ws, e, l1⟩ := m a _ h
    obtain ⟨ps, ws, rfl, hp, hk⟩ := isL_pairs l1
    exact .inr ⟨a, ps, ws, rfl, SqL.of e, hp, Fin.newK fin m f (KRel.merge hk KRel.nil) q⟩
def dAt (M : Mem) (a : Addr) (x : D) (R : Option D → Prop) : Prop := (∃ kvs k, M a = some (.dK kvs) ∧ keyD x = some k ∧ R (valG kvs k)) ∨ ∃ kvs k ks, M a = some (.dT kvs) ∧ x = .tup k ∧ keysD k = some ks ∧ R (valG kvs ks)
theorem dAt_low {K : PySem.W.Frag} {M : Mem} {H : Hp} (m : MRel K M H) {a : Addr} {x : D} {v : V} (i : Is K H x v) {R : Option D → Prop} (q : dAt M a x R) : ∃ (o : Option D) (u : Option V), DGet H a v u ∧ R o ∧ (match o with | some d => ∃ w, u = some w ∧ Is K H d w | none => u = none) := by
  rcases q with ⟨kvs, k, h, hk, q⟩ | ⟨kvs, k, ks, h, rfl, hk, q⟩
  · obtain ⟨ws, e, r⟩ := m a _ h
    have := keyD_is i hk
    subst this
    refine ⟨_, _, DGet.k e, q, ?_⟩
    cases hv : valG kvs k with
    | none => exact KRel.none r hv
    | some d => obtain ⟨w, e1, e2⟩ := KRel.some r hv; exact ⟨w, e1, e2⟩
  · obtain ⟨ws, e, r⟩ := m a _ h
    obtain ⟨b, rfl, eb⟩ := keyTup m i hk
    refine ⟨_, _, DGet.t e eb, q, ?_⟩
    cases hv : valG kvs ks with
    | none => exact KRel.none r hv
    | some d => obtain ⟨w, e1, e2⟩ := KRel.some r hv; exact ⟨w, e1, e2⟩
def mGet : RmD := fun x ds M Q => match x with
  | .ref a => (match ds with
    | [y] => dAt M a y fun o => Q (o.getD .non) M
    | [y, z] => dAt M a y fun o => Q (o.getD z) M
    | _ => False)
  | _ => False
theorem mt_get (hu : X.A.units + 1 < cLine) : MtR X "dict.get" (fun x xs H Q => (∃ a y o, x = .ref a ∧ xs = [y] ∧ DGet H a y o ∧ Q (o.getD .non) H) ∨ ∃ a y z o, x = .ref a ∧ xs = [y, z] ∧ DGet H a y o ∧ Q (o.getD z) H) := by
  intro pins s σ H x xs v us Q I rx r q
  rcases q with ⟨a, y, o, rfl, rfl, g, q⟩ | ⟨a, y, z, o, rfl, rfl, g, q⟩
  · cases rx
    obtain ⟨u, rfl, ry⟩ := vals1 r
    exact d_get1 hu I g ry fun w' s' I' rw' => ⟨_, H, I', rw', q⟩
  · cases rx
    obtain ⟨u, u2, rfl, ry, rz⟩ := vals2 r
    exact d_get2 hu I g ry rz fun w' s' I' rw' => ⟨_, H, I', rw', q⟩
theorem md_get (hu : X.A.units + 1 < cLine) : MtD X "dict" "get" "dict.get" mGet := by
  refine ⟨PySem.F.plainAttrs_dict, PySem.F.slot_dict_get, PySem.F.type_dict_get, _, mt_get hu, fun M H Mo Ho x a vs ds Q QV m f i l fin q => ?_⟩
  cases a with
  | ref p =>
    rw [is_ref] at i
    subst i
    match ds, q with
    | [y], q =>
      obtain ⟨v, rfl, iy⟩ := isL_one l
      have q : dAt M p y fun o => Q (o.getD .non) M := q
      obtain ⟨o, u, g, q, hr⟩ := dAt_low m iy q
      refine .inl ⟨p, v, u, rfl, rfl, g, ?_⟩
      cases o with
      | none => subst hr; exact fin _ _ _ _ ii_non m f q
      | some d => obtain ⟨w, rfl, iw⟩ := hr; exact fin _ _ _ _ iw m f q
    | [y, z], q =>
      obtain ⟨v, v2, rfl, iy, iz⟩ := isL_two l
      have q : dAt M p y fun o => Q (o.getD z) M := q
      obtain ⟨o, u, g, q, hr⟩ := dAt_low m iy q
      refine .inr ⟨p, v, v2, u, rfl, rfl, g, ?_⟩
      cases o with
      | none => subst hr; exact fin _ _ _ _ iz m f q
      | some d => obtain ⟨w, rfl, iw⟩ := hr; exact fin _ _ _ _ iw m f q
  | _ => exact q.elim
def mSetd : RmD := fun x ds M Q => match x with
  | .ref a => (match ds with
    | [y, z] => ∃ kvs k, M a = some (.dK kvs) ∧ keyD y = some k ∧ kvs.length < sizeLine ∧ (match valG kvs k with | some d => Q d M | none => Q z (wr M a (.dK (putG kvs k z))))
    | _ => False)
  | _ => False
theorem mt_setd : MtR X "dict.setdefault" (fun x xs H Q => ∃ (a : Addr) (kvs : List (Key × V)) (k : Key) (z : V), x = .ref a ∧ xs = [kV k, z] ∧ H a = some (.dK kvs) ∧ kvs.length < sizeLine ∧ (∀ v, valV kvs k = some v → Q v H) ∧ (valV kvs k = none → Q z (upd H a (.dK (putK kvs k z))))) := by
  intro pins s σ H x xs v us Q I rx r q
  obtain ⟨a, kvs, k, z, rfl, rfl, e, hl, q1, q2⟩ := q
  cases rx
  obtain ⟨u, u2, rfl, ry, rz⟩ := vals2 r
  exact d_setd I e ry rz hl (fun v hv w' s' I' rw' => ⟨_, H, I', rw', q1 v hv⟩) fun hn w' s' I' rw' => ⟨_, _, I', rw', q2 hn⟩
theorem md_setd : MtD X "dict" "setdefault" "dict.setdefault" mSetd := by
  refine ⟨PySem.F.plainAttrs_dict, PySem.F.slot_dict_setdefault, PySem.F.type_dict_setdefault, _, mt_setd, fun M H Mo Ho x a vs ds Q QV m f i l fin q => ?_⟩
  cases a with
  | ref p =>
    rw [is_ref] at i
    subst i
    match ds, q with
    | [y, z], q =>
      obtain ⟨kvs, k, h, hk, hl, q⟩ := q
      obtain ⟨v, v2, rfl, iy, iz⟩ := isL_two l
      have := keyD_is iy hk
      subst this
      obtain ⟨ws, e, r⟩ := m p _ h
      have r : KRel X.K H kvs ws := r
      refine ⟨p, ws, k, v2, rfl, rfl, e, by rw [KRel.length r]; exact hl, fun v hv => ?_, fun hn => ?_⟩
      · cases hg : valG kvs k with
        | none => rw [KRel.none r hg] at hv; cases hv
        | some d =>
          obtain ⟨w, e1, e2⟩ := KRel.some r hg
          rw [hv] at e1
          cases e1
          rw [hg] at q
          exact fin _ _ _ _ e2 m f q
      · cases hg : valG kvs k with
        | some d =>
          obtain ⟨w, e1, e2⟩ := KRel.some r hg
          rw [hn] at e1
          cases e1
        | none =>
          rw [hg] at q
          have rp := r.put (k := k) iz
          obtain ⟨m2, f2⟩ := set_mem m f h (u' := .dK (putG kvs k z)) (o := .dK (putK ws k v2)) ⟨_, upd_same, rp.1, IsL.ext (ext_write m h) _ _ rp.2⟩
          exact fin _ _ _ _ (Is.ext (ext_write m h) _ _ iz) m2 f2 q
  | _ => exact q.elim
def tLenK (K : PySem.W.Frag) (ta : TE) : TE := fun σ H Q => ta σ H fun x H1 => ∃ (l : Addr) (ks : List Key), x = V.ref l ∧ (SqL K H1 l (ks.map kV) ∨ SqT K H1 l (ks.map kV)) ∧ ks.length + 1 < scanBound ∧ Q (.int (ddup ks).length) H1
theorem keysAre_of {P : Program} {w : World} : ∀ {ks : List Key} {us : List Value}, Vals (ks.map kV) us → KeysAre (mixKind P w) us ks := by
  intro ks us r
  refine ⟨by rw [← r.length, List.length_map], ?_⟩
  induction ks generalizing us with
  | nil => rw [List.map_nil] at r; cases r; intro i v e; simp at e
  | cons k ks ih =>
    rw [List.map_cons] at r
    cases r with
    | cons h t =>
      intro i v e
      cases i with
      | zero => simp at e; subst e; exact ⟨k, rfl, kV_is h, key_scan h⟩
      | succ i => rw [List.getElem?_cons_succ] at e; exact ih t i v e
theorem pe_lenK {a : Expr} {ta : TE} {p p2 q pos : Pos} (hc : X.calm = true) (hg : Gl X "len") (hm : X.mg "len" = none) (hg2 : Gl X "set") (hm2 : X.mg "set" = none) (ha : PE X a ta) (na : isStar a = false) :
    PE X (.Call (.Name "len" p) [.Call (.Name "set" p2) [a] [] q] [] pos) (tLenK X.K ta) := by
  refine ⟨fun pins s σ H Q I h => ?_⟩
  refine Call_ (ld_blt I hg hm boot_len ?_)
  refine PyProof.Rows.callWith_builtin1 (PyProof.Rows.args_cons ?_ rfl) rfl rfl
  refine Call_ (ld_blt I hg2 hm2 boot_set ?_)
  refine PyProof.Rows.callWith_type1 (PyProof.Rows.args_cons (thn (ha.run pins s σ H _ I h) fun v s1 ⟨x, H1, I1, r1, q1⟩ => PyProof.Rows.args_nil ?_) (star_cons na)) (star_cons na) rfl
  obtain ⟨l, ks, rfl, hq, h1, q1⟩ := q1
  cases r1
  have fin : ∀ (h' : Heap) (tk : Nat), h'.SetOf (mixKind X.prog X.w) s1.heap.objs.size (fun y : Key => memB y (ddup ks)) (ddup ks).length → (∀ b o, b < s1.heap.objs.size → s1.heap.get? b = some o → h'.get? b = some o) →
      wpAny (model X.prog X.w) X.A (spliced (backTo pos (starEach [] X.env))) (fun vs s₂ => wpAny (model X.prog X.w) X.A (call (.builtin "len") (Value.ref s1.heap.objs.size :: vs)) (EP X pins σ Q) X.xe s₂) X.xe { s1 with heap := h', toks := tk } := fun h' tk hS hk => by
    refine PyProof.Rows.args_nil ?_
    obtain ⟨o, es, ep, t, ho, hex, hd, _, _, _, hf, hn⟩ := hS
    have I2 : Inv X pins σ H1 { s1 with heap := h', toks := tk } := I1.kept fun b o e => hk b o (Heap.lt_size e) e
    have hb : scanBound < 2 ^ 62 := by unfold scanBound; omega
    have hle := ddup_le ks
    refine call_len_set ho hex hd hf (by rw [hn]; omega) ⟨.int (ddup ks).length, H1, I2.tok _, ⟨_, by rw [hn]⟩, q1⟩
  rcases hq with hq | hq
  · obtain ⟨its, r, pl, hz⟩ := I1.list hq
    exact set_of_list (I1.ok.hd hc) pl.isList (by simpa using keysAre_of r) h1 fin
  · obtain ⟨its, r, pl, hz⟩ := I1.tuple hq
    exact set_of_tuple (I1.ok.hd hc) pl (by simpa using keysAre_of r) h1 fin
end
def dLenK (t : DTE) : DTE := fun e M Q E => t e M (fun x M1 => match x with
  | .tup xs => ∃ ks, keysD xs = some ks ∧ ks.length < 4000 ∧ Q (.int (ddup ks).length) M1
  | .tx xs => ∃ ks, keysD xs = some ks ∧ ks.length < 4000 ∧ Q (.int (ddup ks).length) M1
  | .rl xs => ∃ ks, keysD xs = some ks ∧ ks.length < 4000 ∧ Q (.int (ddup ks).length) M1
  | .ref a => ∃ xs ks, M1 a = some (.lst xs) ∧ keysD xs = some ks ∧ ks.length < 4000 ∧ Q (.int (ddup ks).length) M1
  | _ => False) E
theorem de_lenK {g : Gd} {a : Expr} {ta : DTE} {p p2 q pos : Pos} (hc : g.X.calm = true) (hg : Gl g.X "len") (hm : g.X.mg "len" = none) (hg2 : Gl g.X "set") (hm2 : g.X.mg "set" = none) (ha : DE g a ta) (na : isStar a = false) :
    DE g (.Call (.Name "len" p) [.Call (.Name "set" p2) [a] [] q] [] pos) (dLenK ta) := by
  have hb : 4000 + 1 < scanBound := by unfold scanBound; omega
  refine DE.of (pe_lenK hc hg hm hg2 hm2 ha.pe na) fun σ H e M Q sl mr fr q => ?_
  refine low_start sl mr fr q fun v d M1 H1 i m f q => ?_
  cases d with
  | tup xs =>
    rw [is_tup] at i
    obtain ⟨a, vs, rfl, h, l⟩ := i
    obtain ⟨ks, hk, hl, q⟩ := q
    have := keysD_is l hk
    subst this
    exact ⟨a, ks, rfl, .inr (SqT.of h), by omega, lowQ.mk ii_int m f q⟩
  | tx xs =>
    rw [is_tx] at i
    obtain ⟨a, vs, rfl, h, l⟩ := i
    obtain ⟨ks, hk, hl, q⟩ := q
    have := keysD_is l hk
    subst this
    exact ⟨a, ks, rfl, .inr h.sq, by omega, lowQ.mk ii_int m f q⟩
  | rl xs =>
    rw [is_rl] at i
    obtain ⟨a, vs, rfl, h, l⟩ := i
    obtain ⟨ks, hk, hl, q⟩ := q
    have := keysD_is l hk
    subst this
    exact ⟨a, ks, rfl, .inl h.sq, by omega, lowQ.mk ii_int m f q⟩
  | ref a =>
    rw [is_ref] at i
    subst i
    obtain ⟨xs, ks, h, hk, hl, q⟩ := q
    obtain ⟨vs, e, l⟩ := m a _ h
    have := keysD_is l hk
    subst this
    exact ⟨a, ks, rfl, .inl (SqL.of e), by omega, lowQ.mk ii_int m f q⟩
  | _ => exact q.elim
end DL

namespace DL
open PySem PySem.Spec PyProof.Rows L2
section
variable {K : PySem.W.Frag} {M M1 : Mem} {H H1 : Hp} {p : Addr} {acc acc' : List (Key × V)}
theorem ext_outK (h : H p = some (.dK acc)) : Ext K H (upd H p (.dK acc')) := by
  have ne : ∀ {a : Addr} {u : HO}, H a = some u → u ≠ .dK acc → a ≠ p := fun {a u} q k z => by subst z; rw [h] at q; cases q; exact k rfl
  refine ⟨fun a xs e => ?_, fun a xs e => ?_, fun a xs ⟨o, e, hd⟩ => ⟨o, by rw [upd_ne (ne e fun z => by cases z)]; exact e, hd⟩, fun a o xs e => by rw [upd_ne (ne e fun z => by cases z)]; exact e⟩
  · rw [upd_ne (ne e fun z => by cases z)]; exact e
  · rcases e with ⟨o, e⟩ | e
    · exact .inl ⟨o, by rw [upd_ne (ne e fun z => by cases z)]; exact e⟩
    · exact .inr e
theorem mr_outK (m : MRel K M H) (h : H p = some (.dK acc)) (n : M p = none) : MRel K M (upd H p (.dK acc')) := fun a o e => by
  have : a ≠ p := fun z => by subst z; rw [n] at e; cases e
  exact (m a o e).ext (ext_outK h) (upd_ne this)
end
abbrev DTD := Sl → Mem → (List (Key × D) → Mem → Prop) → EX → Prop
def dDc (w : DTI) (gt : DTG) (tt : DTT) (tk tv : DTE) (vs : List Nat) : DTD := fun e M Q E => w e M (fun src M1 => ∃ I : Nat → List (Key × D) → Mem → Prop, I 0 [] M1 ∧
  (∀ i d acc M', src.items[i]? = some d → I i acc M' → src.live M' ∧ gt d (wipeS e vs) M' (fun e2 M2 => tt e2 M2 (fun b M3 =>
    if b = true then tk e2 M3 (fun y M4 => tv e2 M4 (fun z M5 => acc.length < sizeLine ∧ ∃ k, keyD y = some k ∧ I (i + 1) (putG acc k z) M5) EF) EF else I (i + 1) acc M3) EF) EF) ∧
  ∀ acc M', I src.items.length acc M' → src.live M' ∧ Q acc M') E
def dNewD (t : DTD) : DTE := fun e M Q E => t e M (fun kvs M1 => ∀ p, M1 p = none → Q (.ref p) (wr M1 p (.dK kvs))) E
section
variable {g : Gd} {kx vx tg iter : Expr} {ifs : List Expr} {scope : Scope} {own : List (Str × Nat)} {pos : Pos} {w : DTI} {gt : DTG} {tt : DTT} {tk tv : DTE} {ns : List Nat}
theorem dc_low {w' : TI} {g' : TG} {tt' : TT} (ki : ∀ σ H e M R (RV : It → Hp → Prop), SRel g.X.K H e σ → MRel g.X.K M H → Fr g.M0 g.H0 M H → w e M R g.E →
      (∀ J src M1 H1, JRel g.X.K H1 J src → MRel g.X.K M1 H1 → Fr M H M1 H1 → R src M1 → RV J H1) → w' σ H RV)
    (kg : ∀ σ H e M v d Q (QV : L2.St → Hp → Prop), SRel g.X.K H e σ → MRel g.X.K M H → Is g.X.K H d v → gt d e M Q EF →
      (∀ σ' H' e' M', SRel g.X.K H' e' σ' → MRel g.X.K M' H' → Fr M H M' H' → (∀ vs, (∀ i ∈ ns, i ∈ vs) → L2.wipe σ' vs = L2.wipe σ vs) → Q e' M' → QV σ' H') → g' v σ H QV)
    (kt : ∀ σ H e M Q (QV : Bool → Hp → Prop), SRel g.X.K H e σ → MRel g.X.K M H → tt e M Q EF → (∀ b M' H', MRel g.X.K M' H' → Fr M H M' H' → Q b M' → QV b H') → tt' σ H QV)
    (hns : ∀ i ∈ ns, i ∈ own.map (·.2)) {σ : L2.St} {H : Hp} {e : Sl} {M : Mem} {Q : List (Key × D) → Mem → Prop} {QV : VK} (sl : SRel g.X.K H e σ) (mr : MRel g.X.K M H) (fr : Fr g.M0 g.H0 M H) (q : dDc w gt tt tk tv (own.map (·.2)) e M Q g.E)
    (k : ∀ a ws kvs M' H', H' a = some (.dK ws) → KRel g.X.K H' kvs ws → M' a = none → H a = none → MRel g.X.K M' H' → Fr M H M' H' → Q kvs M' → QV (.ref a) H') : tDc w' g' tt' (lowAny g.X.K tk) (lowAny g.X.K tv) (own.map (·.2)) σ H QV := by
  refine ki σ H e M _ _ sl mr fr q fun J src M1 H1 jr m1 f1 q => ?_
  obtain ⟨I, h0, turn, last⟩ := q
  intro p hp
  have np1 : M1 p = none := m1.none_of hp
  have h0p : H p = none := f1.there p hp
  have fn := fr_new (o := HO.dK []) m1 hp
  refine ⟨fun i n H' => i + n = src.items.length ∧ ∃ acc ws M', H' p = some (.dK ws) ∧ KRel g.X.K H' acc ws ∧ M' p = none ∧ MRel g.X.K M' H' ∧ Fr M1 H1 M' H' ∧ I i acc M',
    ⟨src.items.length, by omega, [], [], M1, upd_same, KRel.nil, np1, mr_new m1 hp, fn, h0⟩, fun i n H' hw => ?_⟩
  obtain ⟨hn, acc, ws, M', hp', il, np, m', f', hw⟩ := hw
  cases n with
  | zero =>
    obtain rfl : i = src.items.length := by omega
    obtain ⟨lv, q⟩ := last acc M' hw
    exact .inl ⟨(jr _ M' H' m' (f'.ext m1) lv).2 (Nat.le_refl _), k p ws acc M' H' hp' il np h0p m' (f1.trans f') q⟩
  | succ n =>
    have hi : i < src.items.length := by omega
    have hd := List.getElem?_eq_getElem hi
    obtain ⟨lv, q⟩ := turn i _ acc M' hd hw
    obtain ⟨go, yl⟩ := (jr i M' H' m' (f'.ext m1) lv).1 _ hd
    refine .inr ⟨go, fun H2 => ∃ acc ws M', H2 p = some (.dK ws) ∧ KRel g.X.K H2 acc ws ∧ M' p = none ∧ MRel g.X.K M' H2 ∧ Fr M1 H1 M' H2 ∧ I (i + 1) acc M', fun H2 z => ⟨n, by omega, by omega, z⟩, fun x H2 y => ?_⟩
    obtain ⟨ix, m2, f2⟩ := yl x H2 y
    refine kg (wipe σ (own.map (·.2))) H2 (wipeS e (own.map (·.2))) M' x _ _ _ ((sl.ext ((f1.trans (f'.trans f2)).ext mr)).wipe _) m2 ix q fun σ3 H3 e3 M3 sl3 m3 f3 hwp q => ?_
    refine ⟨(hwp _ hns).trans (wipe_wipe σ _), ?_⟩
    refine kt σ3 H3 e3 M3 _ _ sl3 m3 q fun b M4 H4 m4 f4 q => ?_
    have f24 := f2.trans (f3.trans f4)
    cases b with
    | false =>
      obtain ⟨p4, np4⟩ := f24.keep p _ hp' np
      exact ⟨acc, ws, M4, p4, ⟨il.1, IsL.ext (f24.ext m') _ _ il.2⟩, np4, m4, f'.trans f24, q⟩
    | true =>
      have sl4 := sl3.ext (f4.ext m3)
      refine lowAny_start sl4 m4 q fun y dy M5 H5 i5 m5 f5 q => ?_
      refine lowAny_start (sl4.ext (f5.ext m4)) m5 q fun z dz M6 H6 i6 m6 f6 q => ?_
      have f26 := f24.trans (f5.trans f6)
      obtain ⟨p6, np6⟩ := f26.keep p _ hp' np
      have il6 : KRel g.X.K H6 acc ws := ⟨il.1, IsL.ext (f26.ext m') _ _ il.2⟩
      obtain ⟨hz, kk, hk, q⟩ := q
      have ey := keyD_is (Is.ext (f6.ext m5) _ _ i5) hk
      have eo : Ext g.X.K H6 (upd H6 p (.dK (putK ws kk z))) := ext_outK p6
      have rp := il6.put (k := kk) i6
      exact ⟨ws, kk, ey, p6, by rw [KRel.length il6]; exact hz, putG acc kk dz, putK ws kk z, M6, upd_same, ⟨rp.1, IsL.ext eo _ _ rp.2⟩, np6, mr_outK m6 p6 np6, fr_out (f'.trans f26) hp, q⟩
theorem new_inK {K : PySem.W.Frag} {M M' : Mem} {H H' : Hp} {a : Addr} {ws : List (Key × V)} {kvs : List (Key × D)} (h : H' a = some (.dK ws)) (l : KRel K H' kvs ws) (n : M' a = none) (n0 : H a = none) (m : MRel K M' H') (f : Fr M H M' H') :
    MRel K (wr M' a (.dK kvs)) H' ∧ Fr M H (wr M' a (.dK kvs)) H' := by
  refine ⟨fun b o e => ?_, ⟨fun b o hb nb => ?_, f.there⟩⟩
  · by_cases z : b = a
    · subst z; rw [wr_same] at e; cases e; exact ⟨ws, h, l.1, l.2⟩
    · rw [wr_ne z] at e; exact m b o e
  · have ne : b ≠ a := fun z => by subst z; rw [n0] at hb; cases hb
    obtain ⟨q1, q2⟩ := f.keep b o hb nb
    exact ⟨q1, by rw [wr_ne ne]; exact q2⟩
theorem de_dc (hc : g.X.calm = true) (hN : g.X.N.Nodup) (hi : DI g tg iter w) (ok : BlkOk g.X.N g.X.env.scope scope own) (hg : BlkG g scope tg gt ns) (ht : BlkT g scope ifs tt) (hk : BlkE g scope kx tk) (he : BlkE g scope vx tv) (hns : ∀ i ∈ ns, i ∈ own.map (·.2))
    (hs : ∀ x, foldedSetIterable iter g.X.env x = pure x) : DE g (.DictComp kx vx [⟨tg, iter, ifs, 0⟩] scope pos) (dNewD (dDc w gt tt tk tv (own.map (·.2)))) := by
  obtain ⟨w', pi, ki⟩ := hi.pi
  obtain ⟨g', pg, kg⟩ := hg
  obtain ⟨t', pt, kt⟩ := ht
  refine DE.of (pe_dc hc hN pi ok pg pt hk.pe he.pe hs) fun σ H e M Q sl mr fr q => ?_
  refine dc_low ki kg kt hns sl mr fr q fun a ws kvs M' H' h l n n0 m f q => ?_
  obtain ⟨m2, f2⟩ := new_inK h l n n0 m f
  exact lowQ.mk ii_ref m2 f2 (q a n)
end
def dNewK : DTE := fun _ M Q _ => ∀ p, M p = none → Q (.ref p) (wr M p (.dK []))
theorem de_newK {g : Gd} {pos : Pos} : DE g (.Dict [] [] pos) dNewK := DE.of pe_dnewK fun σ H e M Q sl mr fr q => Fin.newK fin_low mr Fr.refl KRel.nil q
def dNewT : DTE := fun _ M Q _ => ∀ p, M p = none → Q (.ref p) (wr M p (.dT []))
theorem de_newT {g : Gd} {pos : Pos} : DE g (.Dict [] [] pos) dNewT := DE.of pe_dnewT fun σ H e M Q sl mr fr q p hp => by
  have q' : MOk g.X.K (upd H p (.dT [])) p (.dT []) := ⟨[], upd_same, rfl, isL_nil.mpr rfl⟩
  exact lowQ.mk ii_ref (mr_alloc mr hp q') (fr_alloc mr hp) (q p (mr.none_of hp))
end DL

namespace DL
open PySem PySem.Spec PyProof.Rows L2
theorem WalksS.tail {prog : Program} {w : World} {A : Around} {I : Addr} {fp wr : List Addr} {G : Array GenState → Array GenState → Prop} {n : Nat} {P : Nat → Value → Prop} {St : Nat → Shared → Prop} (W : WalksS prog w A I fp wr G (n + 1) P St) :
    WalksS prog w A I fp wr G n (fun i => P (i + 1)) (fun i => St (i + 1)) where
  sub := W.sub
  grefl := W.grefl
  gtrans := W.gtrans
  frame := fun i => W.frame (i + 1)
  item := fun i s Q E hi st hQ => W.item (i + 1) s Q E (by omega) st hQ
  done := W.done
  self := fun i => W.self (i + 1)
section
variable {prog : Program} {w : World} {A : Around} {E : Value → Shared → Prop} {s : Shared}
theorem unpack_star {t : Addr} {x : Value} {rest : List Value} {targets : List (Bool × (Value → Sem Unit))} {Q : Unit → Shared → Prop} (hh : A.handled = none) (ht : IsTup s.heap t (x :: rest).toArray) (hz : rest.length ≤ sizeLine)
    (hn : targets.length = 2) (hstar : targets.findIdx? (·.1) = some 1)
    (h : ∀ (h' : Heap) (tk : Nat), (∀ b o, s.heap.get? b = some o → h'.get? b = some o) → wpAny (model prog w) A (assignInOrder (targets.map (·.2)) [x, .ref h'.objs.size]) Q E { s with heap := h'.push { cls := .type "list", data := .seq rest.toArray }, toks := tk }) :
    wpAny (model prog w) A (unpack (.ref t) targets) Q E s := by
  have htt : t < s.heap.objs.size := by obtain ⟨o, ho, _⟩ := ht; exact Heap.lt_size ho
  have hlt : t ≠ s.heap.objs.size := Nat.ne_of_lt htt
  unfold unpack
  rw [hn, hstar]
  refine wpAny_bind (wpAny_holding ?_)
  unfold unpackItems
  refine wpAny_bind ?_
  unfold notIterableAtAll
  refine wpAny_bind (wpAny_specialOf ht.typeIs slot_tuple_iter.lookup ?_)
  refine wpAny_pure ?_
  simp only [Bool.false_eq_true, if_false]
  refine wpAny_bind (wpAny_holding (iter_tuple ht ?_))
  show wpAny _ _ (holding [Value.ref s.heap.objs.size] (draw (.ref s.heap.objs.size) 1) >>= _) _ _ _
  refine wpAny_bind (wpAny_holding (draw_tuple hlt 1 0 _ _ ⟨_, Heap.get?_push_size _ rfl, rfl, rfl⟩ (ht.push _) (by simp) fun h1 it1 hs1 => ?_))
  have e1 : List.take 1 (List.drop 0 (x :: rest).toArray.toList) = [x] := by simp
  rw [e1]
  rw [if_neg (by simp)]
  have ht1 : IsTup h1 t (x :: rest).toArray := (ht.push _).extBut hs1.extBut hlt
  have W := (Walks.tuple (prog := prog) (w := w) (A := A.in1) (by simp [hh]) s.heap.objs.size t hlt (x :: rest).toArray).toS
  have W1 : WalksS prog w A.in1 s.heap.objs.size [s.heap.objs.size, t] [s.heap.objs.size] (fun a b => b = a) (rest.length + 1) (fun i v => (x :: rest).toArray[i]? = some v) (fun i s' => s'.heap.IsTupleIter s.heap.objs.size t i ∧ s'.heap.IsTuple t (x :: rest).toArray) := by
    have e : (x :: rest).toArray.size = rest.length + 1 := by simp
    rw [e] at W
    exact W
  have ltI : s.heap.objs.size < h1.objs.size := by
    obtain ⟨o, ho, _⟩ := it1
    exact Heap.lt_size ho
  have keep1 : ∀ b o, s.heap.get? b = some o → h1.get? b = some o := fun b o e => hs1.extBut b o (Nat.ne_of_lt (Heap.lt_size e)) (Heap.get?_push_of_some _ e)
  refine wpAny_bind (wpAny_holding (wpAny_collect_iter (T := "tuple_iterator") (.inr (.inr (.inr rfl))) (WalksS.tail W1) (fun i s' st => by obtain ⟨⟨o, ho, hc, _⟩, _⟩ := st; exact ⟨o, ho, hc⟩) ⟨it1, ht1⟩ (fun b hb => ?_) (List.mem_cons_self) (fun s2 acc mv hacc => ?_) hz))
  · show b < h1.objs.size
    rcases List.mem_cons.mp hb with e | hb
    · rw [e]; exact ltI
    · rw [List.mem_singleton.mp hb]; exact Nat.lt_trans htt ltI
  · have ea : acc.toList = rest := by
      obtain ⟨hl, hi⟩ := hacc
      refine List.ext_getElem? fun i => ?_
      cases hr : rest[i]? with
      | none =>
        rw [List.getElem?_eq_none_iff] at hr ⊢
        rw [Array.length_toList]
        omega
      | some v =>
        have hlt2 : i < rest.length := (List.getElem?_eq_some_iff.mp hr).1
        have hlt3 : i < acc.size := by omega
        have q : (x :: rest).toArray[i + 1]? = some acc[i] := hi i acc[i] (by simp [hlt3])
        have q2 : (x :: rest).toArray[i + 1]? = rest[i]? := by simp
        rw [q2, hr] at q
        rw [Array.getElem?_toList, Array.getElem?_eq_getElem hlt3]
        exact q.symm
    rw [ea]
    rw [if_neg (by simp)]
    obtain ⟨h2, g2, d2, tk2, os2⟩ := s2
    obtain rfl : g2 = s.gens := mv.gens
    obtain rfl : d2 = s.drawn := mv.drawn
    obtain rfl : os2 = s.os := mv.os
    have e2 : rest.take (rest.length - (2 - 1 - 1)) = rest := by simp
    have e3 : rest.drop (rest.length - (2 - 1 - 1)) = [] := by simp
    rw [e2]
    refine wpAny_bind (wpAny_newList ?_ hz)
    refine wpAny_pure ?_
    rw [e3]
    have keep2 : ∀ b o, s.heap.get? b = some o → h2.get? b = some o := fun b o e => mv.heap b o (by rw [List.mem_singleton]; exact Nat.ne_of_lt (Heap.lt_size e)) (keep1 b o e)
    exact h h2 tk2 keep2
end
end DL

namespace DL
open PySem PySem.Spec PyProof.Rows L2
def gStar (K : PySem.W.Frag) (t0 t1 : TG) : TG := fun v σ H Q => ∃ t x xs, v = .ref t ∧ SqT K H t (x :: xs) ∧ ∀ p, H p = none → t0 x σ (upd H p (.lst xs)) fun σ1 H1 => t1 (.ref p) σ1 H1 Q
theorem each_star {a b : Expr} {p : Pos} {env : PySem.Env} (h : isStar a = false) : assignEach [a, .Starred b p] env = [(false, assign a env), (true, assign b env)] := by
  cases a <;> first | rfl | cases h
theorem pg_star {X : Cx} {a b : Expr} {p pos : Pos} {k : Nat} {t0 t1 : TG} (hc : X.calm = true) (ha : isStar a = false) (h0 : PG X a t0) (h1 : PG X b t1) : PG X (.Tuple [a, .Starred b p] k pos) (gStar X.K t0 t1) := by
  refine ⟨fun pins s σ H v u Q I r hw => ?_⟩
  obtain ⟨t, x, xs, rfl, hq, hw⟩ := hw
  cases r
  obtain ⟨its, rv, ht, hz⟩ := I.tuple hq
  cases rv with
  | @cons _ u0 _ us r0 rr =>
    have hl := rr.length
    rw [List.length_cons] at hz
    rw [assign_Tuple]
    refine wpAny_bind (wpAny_standAt (unpack_star (I.ok.hd hc) ht (by omega) (by rw [each_star ha]; rfl) (by rw [each_star ha]; rfl) fun h' tk hk => ?_))
    rw [each_star ha]
    have I0 : Inv X pins σ H { s with heap := h', toks := tk } := I.kept (t' := tk) hk
    have hn : H h'.objs.size = none := I0.hok.fresh (Nat.le_refl _)
    have I1 : Inv X pins σ (upd H h'.objs.size (.lst xs)) { s with heap := h'.push { cls := .type "list", data := .seq us.toArray }, toks := tk } := I0.laid (t' := tk) (a := h'.objs.size) (o := .lst xs) (fun b o e => Heap.get?_push_of_some _ e) (Nat.le_refl _) ⟨by omega, us, _, rr, Heap.get?_push_size _ rfl⟩
    refine assignInOrder_cons (thn (h0.run pins _ σ _ x u0 _ I1 r0 (hw _ hn)) fun _ s2 z => ?_)
    obtain ⟨σ2, H2, I2, z⟩ := z
    refine assignInOrder_cons (thn (h1.run pins s2 σ2 H2 (.ref h'.objs.size) (.ref h'.objs.size) _ I2 rfl z) fun _ s3 z => ?_)
    exact assignInOrder_nil z
def dgStar (i j : Nat) : DTG := fun d e M Q _ => match d with
  | .tup (x :: _) => Q (setS (setS e i (some x)) j none) M
  | _ => False
section
variable {K : PySem.W.Frag} {i j : Nat}
theorem star_low {σ : L2.St} {H : Hp} {e : Sl} {M : Mem} {v : V} {d : D} {Q : Sl → Mem → Prop} {E : EX} {QV : L2.St → Hp → Prop} (sl : SRel K H e σ) (mr : MRel K M H) (id : Is K H d v) (q : dgStar i j d e M Q E)
    (k : ∀ σ' H' e' M', SRel K H' e' σ' → MRel K M' H' → Fr M H M' H' → (∀ vs, (∀ z ∈ [i, j], z ∈ vs) → L2.wipe σ' vs = L2.wipe σ vs) → Q e' M' → QV σ' H') : gStar K (gName i) (gName j) v σ H QV := by
  cases d with
  | tup ds =>
    cases ds with
    | nil => exact q.elim
    | cons x xs =>
      rw [is_tup] at id
      obtain ⟨a, vs, rfl, h, l⟩ := id
      rw [isL_cons] at l
      obtain ⟨u, r, rfl, ix, l⟩ := l
      refine ⟨a, u, r, rfl, SqT.of h, fun p hp => ?_⟩
      have f1 : Fr M H M (upd H p (.lst r)) := fr_new mr hp
      have ex := f1.ext mr
      have s1 := SRel.set (Is.ext ex _ _ ix) i (sl.ext ex)
      exact k _ _ _ M (SRel.unset j (some (V.ref p)) s1) (mr_new mr hp) f1 (fun vs hv => (set_wipe _ j _ vs (hv j (by simp))).trans (set_wipe σ i _ vs (hv i (by simp)))) q
  | _ => exact q.elim
end
theorem dg_star {g : Gd} {a b : Expr} {p pos : Pos} {k i j : Nat} (hc : g.X.calm = true) (ha : isStar a = false) (h0 : PG g.X a (gName i)) (h1 : PG g.X b (gName j)) : DG g (.Tuple [a, .Starred b p] k pos) (dgStar i j) [i, j] :=
  ⟨⟨_, pg_star hc ha h0 h1, fun σ H e M v d Q QV sl mr fr id q kk => star_low sl mr id q kk⟩⟩
end DL

namespace DL
open PySem PySem.Spec PyProof.Rows L2
section
variable {K : PySem.W.Frag} {M Mo : Mem} {H Ho : Hp} {Q : QE} {QV : VK}
theorem Fin.newX (fin : Fin K Mo Ho Q QV) (m : MRel K M H) (f : Fr Mo Ho M H) {ds : List D} {vs : List V} (l : IsL K H ds vs) (q : Q (.tx ds) M) :
    ∀ p, H p = none → ∀ o : Obj, o.dict = none → QV (.ref p) (upd H p (.frz o (.tup vs))) := fun p hp o ho =>
  fin _ _ _ _ (is_tx.mpr ⟨p, vs, rfl, ⟨o, upd_same, ho⟩, IsL.ext ((fr_new (o := HO.frz o (.tup vs)) m hp).ext m) _ _ l⟩) (mr_new m hp) (f.trans (fr_new m hp)) q
end
section
variable {X : Cx}
theorem laidX {pins : List (Addr × Obj)} {σ : L2.St} {H : Hp} {s : Shared} (I : Inv X pins σ H s) {xs : List V} {us : List Value} {tk : Nat} (r : Vals xs us) (z : xs.length ≤ sizeLine) :
    Inv X pins σ (upd H s.heap.objs.size (.frz { cls := .type "tuple", data := .seq us.toArray } (.tup xs))) { s with heap := s.heap.push { cls := .type "tuple", data := .seq us.toArray }, toks := tk } :=
  I.laid (t' := tk) (fun b o e => Heap.get?_push_of_some _ e) (Nat.le_refl _) ⟨Heap.get?_push_size _ rfl, z, us, r, ⟨_, Heap.get?_push_size _ rfl, rfl, _, rfl⟩⟩
theorem call_tupleX : CallR X (.type "tuple") (fun xs H Q => ∃ p ys, xs = [.ref p] ∧ SqL X.K H p ys ∧ ∀ l, H l = none → ∀ o : Obj, o.dict = none → Q (.ref l) (upd H l (.frz o (.tup ys)))) := by
  intro pins s σ H xs us Q I r h
  obtain ⟨p, ys, rfl, hq, q⟩ := h
  obtain ⟨u, rfl, rx⟩ := vals1 r
  cases rx
  obtain ⟨its, r', pl, hz⟩ := I.list hq
  have hlen := r'.length
  refine call_tuple_list pl.isList (fun h' kp => ?_) (by simp only [List.size_toArray] <;> omega)
  have I1 : Inv X pins σ H { s with heap := h' } := I.kept (t' := s.toks) kp
  exact ⟨.ref h'.objs.size, _, laidX (tk := s.toks) I1 r' hz, rfl, q _ (I1.hok.fresh (Nat.le_refl _)) _ rfl⟩
def rTupleX : RnD := fun ds M Q => match ds with
  | [.rl xs] => Q (.tx xs) M
  | [.ref a] => ∃ xs, M a = some (.lst xs) ∧ Q (.tx xs) M
  | _ => False
theorem cd_tupleX : CallD X (.type "tuple") rTupleX := by
  refine ⟨_, call_tupleX, fun M H Mo Ho vs ds Q QV m f l fin q => ?_⟩
  match ds, q with
  | [.rl xs], q =>
    obtain ⟨v, rfl, j⟩ := isL_one l
    rw [is_rl] at j
    obtain ⟨a, ws, rfl, e, l1⟩ := j
    exact ⟨a, ws, rfl, e.sq, Fin.newX fin m f l1 q⟩
  | [.ref a], q =>
    obtain ⟨v, rfl, j⟩ := isL_one l
    rw [is_ref] at j
    subst j
    obtain ⟨xs, h, q⟩ := q
    obtain ⟨ws, e, l1⟩ := m a _ h
    exact ⟨a, ws, rfl, SqL.of e, Fin.newX fin m f l1 q⟩
def tTupleX : RtD := fun ds M Q => Q (.tx ds) M
theorem ok_tTupleX : TmpOk rTupleX tTupleX := fun ds M Q q p hp => ⟨ds, wr_same, M, sub_wr hp, q⟩
def dTupX (r : DTA) : DTE := fun e M Q E => r e M (fun xs M1 => xs.length ≤ sizeLine ∧ Q (.tx xs) M1) E
theorem pe_tupX {es : List Expr} {t : TA} {x1 : Nat} {pos : Pos} (h : PA X es t) : PE X (.Tuple es x1 pos) (fun σ H Q => t σ H fun xs H1 => xs.length ≤ sizeLine ∧ ∀ p, H1 p = none → ∀ o : Obj, o.dict = none → Q (.ref p) (upd H1 p (.frz o (.tup xs)))) := by
  refine ⟨fun pins s σ H Q I hq => ?_⟩
  refine wpAny_Tuple_spliced (thn (h.run pos pins s σ H _ I hq) fun us s1 ⟨xs, H1, I1, r, z, q⟩ => ⟨by rw [← r.length]; exact z, ?_⟩)
  exact ⟨.ref s1.heap.objs.size, _, laidX (tk := s1.toks) I1 r z, rfl, q _ (I1.hok.fresh (Nat.le_refl _)) _ rfl⟩
end
theorem de_tupX {g : Gd} {xs : List Expr} {r : DTA} {n : Nat} {pos : Pos} (h : DA g xs r) : DE g (.Tuple xs n pos) (dTupX r) := by
  obtain ⟨t', pa, k⟩ := h.pa
  refine DE.of (pe_tupX pa) fun σ H e M Q sl mr fr q => ?_
  refine k σ H e M _ _ sl mr fr q fun ds vs M' H' l m f q => ?_
  exact ⟨by rw [l.length]; exact q.1, Fin.newX fin_low m f l q.2⟩
def dRevX (t : DTE) (tl th tc : DTO) : DTE := fun e M Q E => t e M (fun x M1 => tl e M1 (fun l M2 => th e M2 (fun h M3 => tc e M3 (fun c M4 => l = none ∧ h = none ∧ c = some (-1) ∧ match x with | .tx xs => Q (.tx xs.reverse) M4 | .tup xs => Q (.tx xs.reverse) M4 | _ => False) E) E) E) E
section
variable {g : Gd} {a c : Expr} {lo hi : Option Expr} {ta : DTE} {tl th tcc : DTO} {pos p2 : Pos}
theorem pe_revX {X : Cx} {te : TE} {tl th ts : TO} (he : PE X a te) (hl : PO X lo tl) (hu : PO X hi th) (hst : PO X (some c) ts) : PE X (.Subscript a (.Slice lo hi (some c) p2) pos)
    (fun σ H Q => te σ H fun x H1 => tl σ H1 fun l H2 => th σ H2 fun u H3 => ts σ H3 fun z H4 => l = none ∧ u = none ∧ z = some (-1) ∧ ∃ p xs, x = V.ref p ∧ SqT X.K H4 p xs ∧ ∀ q, H4 q = none → ∀ o : Obj, o.dict = none → Q (.ref q) (upd H4 q (.frz o (.tup xs.reverse)))) := by
  refine ⟨fun pins s σ H Q I h => ?_⟩
  refine Subscript_ (thn (he.run pins s σ H _ I h) fun v s1 ⟨x, H1, I1, r1, q1⟩ => ?_)
  refine wpAny_Slice (thn (hl.run pins s1 σ H1 _ I1 q1) fun vl s2 ⟨l, H2, I2, pl, q2⟩ => thn (hu.run pins s2 σ H2 _ I2 q2) fun vu s3 ⟨u, H3, I3, pu, q3⟩ => thn (hst.run pins s3 σ H3 _ I3 q3) fun vs s4 ⟨o, H4, I4, ps, q4⟩ => ?_)
  obtain ⟨rfl, rfl, rfl, p, xs, rfl, hx, q⟩ := q4
  have I5 : Inv X pins σ H4 { s4 with heap := s4.heap.push { cls := .type "slice", data := .fields #[vl, vu, vs] } } := I4.kept (t' := s4.toks) fun b ob q => Heap.get?_push_of_some _ q
  show wpAny (model X.prog X.w) X.A (subscriptTail a (.Slice lo hi (some c) p2) v (.ref s4.heap.objs.size)) (EP X pins σ Q) X.xe { s4 with heap := s4.heap.push { cls := .type "slice", data := .fields #[vl, vu, vs] } }
  cases r1
  obtain ⟨its, r, ht, hz⟩ := I5.tuple hx
  have hlen := r.length
  refine tail_any (ops := [.ref p, .ref s4.heap.objs.size]) ht.typeIs PyProof.Rows.slot_tuple_getitem.lookup ?_ (by with_unfolding_all rfl)
  refine getItem_tuple_rev ht (Heap.IsSliceOf.new _ vl vu vs) pl pu ps ?_ (by rw [List.size_toArray]; omega)
  exact ⟨.ref _, _, laidX (tk := s4.toks) I5 r.reverse (by rw [List.length_reverse]; exact hz), rfl, q _ (I5.hok.fresh (Nat.le_refl _)) _ rfl⟩
theorem de_revX (ha : DE g a ta) (hl : DO g lo tl) (hh : DO g hi th) (hc : DO g (some c) tcc) : DE g (.Subscript a (.Slice lo hi (some c) p2) pos) (dRevX ta tl th tcc) := by
  obtain ⟨tl', pl, kl⟩ := hl.po
  obtain ⟨th', ph, kh⟩ := hh.po
  obtain ⟨tc', pc, kc⟩ := hc.po
  refine DE.of (pe_revX ha.pe pl ph pc) fun σ H e M Q sl mr fr q => ?_
  refine low_start sl mr fr q fun v d M1 H1 i m f q => ?_
  refine kl σ H1 e M1 _ _ (sl.ext (f.ext mr)) m (fr.trans f) q fun l M2 H2 m2 f2 q => ?_
  have f12 := f.trans f2
  refine kh σ H2 e M2 _ _ (sl.ext (f12.ext mr)) m2 (fr.trans f12) q fun u M3 H3 m3 f3 q => ?_
  have f13 := f12.trans f3
  refine kc σ H3 e M3 _ _ (sl.ext (f13.ext mr)) m3 (fr.trans f13) q fun o M4 H4 m4 f4 q => ?_
  have f14 := f13.trans f4
  obtain ⟨rfl, rfl, rfl, q⟩ := q
  have i4 := Is.ext (((f2.trans f3).trans f4).ext m) _ _ i
  refine ⟨rfl, rfl, rfl, ?_⟩
  cases d with
  | tx xs =>
    rw [is_tx] at i4
    obtain ⟨p, vs, rfl, h1, l1⟩ := i4
    exact ⟨p, vs, rfl, h1.sq, Fin.newX fin_low m4 f14 l1.reverse q⟩
  | tup xs =>
    rw [is_tup] at i4
    obtain ⟨p, vs, rfl, h1, l1⟩ := i4
    exact ⟨p, vs, rfl, SqT.of h1, Fin.newX fin_low m4 f14 l1.reverse q⟩
  | _ => exact q.elim
end
end DL

namespace DL
open PySem PySem.Spec PyProof.Rows L2
section
variable {prog : Program} {w : World} {A : Around} {E : Value → Shared → Prop} {s : Shared}
theorem bounds_head {c n : Nat} (hc : c ≤ n) : sliceBounds none (some (c : Int)) none n = (0, (c : Int), 1) := by
  simp only [sliceBounds, Option.getD_none]
  have h2 : ¬ ((c : Int) < 0) := by omega
  simp only [h2, if_false, show (1 : Int) > 0 by decide, if_true]
  congr 1
  congr 1
  omega
theorem setItem_head {l b sl : Addr} {items new : Array Value} {n : Nat} {vl vu : Value} {c : Nat} {Q : Unit → Shared → Prop}
    (e : s.heap.get? l = some { cls := .type "list", data := .seq items n }) (hb : s.heap.IsList b new) (hne : l ≠ b)
    (hs : s.heap.IsSliceOf sl vl vu .none) (pl : IsPart vl none) (pu : IsPart vu (some (c : Int))) (hc : c ≤ items.size)
    (hsz : items.size + new.size ≤ sizeLine) (h : Q () { s with heap := s.heap.update l (Obj.mapSeq fun xs => xs.extract 0 0 ++ new ++ xs.extract c xs.size) }) :
    wpAny (model prog w) A (setItem (.ref l) (.ref sl) (.ref b)) Q E s := by
  have hl : s.heap.IsList l items := PySem.IsL.isList e
  obtain ⟨o2, ho2, hc2, ne2, hd2⟩ := id hb
  obtain ⟨os, hos, hcs, hds⟩ := id hs
  have hTs : s.TypeIs (.ref sl) "slice" := ⟨os, hos, hcs⟩
  have hstep : ¬ ((rawPart none == rawInt 0) = true) := Bool.false_ne_true
  have hsame : Builtin.List.listSameRef (.ref l) (.ref b) = false := by
    unfold Builtin.List.listSameRef
    exact beq_eq_false_iff_ne.mpr hne
  have hmax : (max (0 : Int) (c : Int)).toNat = c := by omega
  have hz' : ((fun xs : Array Value => xs.extract 0 0 ++ new ++ xs.extract c xs.size) items).size ≤ sizeLine + 1 := by
    simp only [Array.size_append, Array.size_extract]
    omega
  unfold setItem
  try with_reducible refine wpAny_holding ?_
  first | refine wpAny_bind (wpAny_pure ?_) | skip
  refine wpAny_bind (wpAny_sequenceKey hl.typeIs (by decide) ?_)
  refine wpAny_bind (wpAny_callSpecial?_slot (name := Str.ofString "__setitem__") hl.typeIs PySem.F.slot_list_setitem
    (wpAny_call_entry PySem.F.slot_list_setitem hl.typeIs PySem.F.entry_list_setitem ?_ (PySem.F.args_list_setitem_3 _ _ _)))
  show wpAny _ _ (Builtin.List.listSubscript? (.ref sl) >>= _) _ _ s
  refine wpAny_bind ?_
  unfold Builtin.List.listSubscript?
  refine wpAny_bind (wpAny_specialOf hTs slice_no_index ?_)
  simp only [Option.isNone_none, if_true]
  refine wpAny_pure ?_
  show wpAny _ _ (typeOf (.ref sl) >>= _) _ _ s
  refine wpAny_bind (wpAny_typeOf hTs ?_)
  first
    | rw [if_neg (by decide)]
    | refine PySem.W.KFB.if_not (by decide) ?_
  rw [listSliceParts_eq]
  refine wpAny_bind (wpAny_bind (wpAny_field hos hds (x := .none) rfl (wpAny_bind (wpAny_listPart .none ?_))))
  rw [if_neg hstep]
  refine wpAny_bind (wpAny_field hos hds (x := vl) rfl (wpAny_bind (wpAny_listPart pl ?_)))
  refine wpAny_bind (wpAny_field hos hds (x := vu) rfl (wpAny_bind (wpAny_listPart pu (wpAny_pure ?_))))
  first
    | simp only [hsame, Bool.false_eq_true, if_false]
    | refine PySem.W.KFB.if_not hsame ?_
    | (dsimp only
       rw [if_neg (by rw [hsame]; exact Bool.false_ne_true)])
  refine wpAny_bind (m := Builtin.List.listAllItems (.ref b) "must assign iterable to extended slice") ?_
  unfold Builtin.List.listAllItems
  refine wpAny_bind (wpAny_typeOf hb.typeIs ?_)
  first
    | refine PySem.W.KFB.if_so (by decide) ?_
    | rw [if_pos (by decide)]
    | simp only [beq_self_eq_true, Bool.true_or, if_true]
  unfold Builtin.List.listItems
  refine wpAny_bind (wpAny_seqItems ho2 hd2 (wpAny_pure ?_))
  refine wpAny_bind (wpAny_bind (wpAny_seqItems e rfl (wpAny_pure ?_)))
  refine wpAny_bind (wpAny_of_eq ((sliceIndices_raw none (some (c : Int)) none items.size (by simp)).trans (congrArg (pure : Int × Int × Int → Sem (Int × Int × Int)) (bounds_head hc))) ?_)
  show wpAny _ _ (if ((1 : Int) == 1) = true then _ else _) _ _ s
  rw [if_pos (by decide)]
  refine wpAny_bind (wpAny_rule ?_)
  have hnl : ¬ (decide (items.size + new.size > sizeLine) = true) := by simpa using hsz
  first
    | simp only [L2.notLongL hsz, Bool.false_eq_true, if_false]
    | refine PySem.W.KFB.if_not (L2.notLongL hsz) ?_
  first | refine wpAny_bind (wpAny_pure ?_) | skip
  show wpAny _ _ (updateSeq l (fun xs => xs.extract 0 ((0 : Int)).toNat ++ new ++ xs.extract (max (0 : Int) (c : Int)).toNat xs.size) >>= _) _ _ s
  rw [hmax, show ((0 : Int)).toNat = 0 from rfl]
  refine wpAny_bind (wpAny_updateSeq (hz := Nat.le_trans (Nat.le_add_right _ _) hsz) (_hz' := hz') e rfl ?_)
  refine wpAny_bind (wpAny_letGo ?_)
  first
    | exact wpAny_bind (wpAny_pure (wpAny_pure ⟨.none, rfl, wpAny_pure h⟩))
    | exact wpAny_pure ⟨.none, rfl, wpAny_pure h⟩
end
section
variable {X : Cx} {o c : Expr} {p2 pos : Pos}
def gHead (K : PySem.W.Frag) (to : TE) (tc : TO) : TG := fun v σ H Q => to σ H fun x H1 => tc σ H1 fun z H2 => ∃ l b xs ys i, x = V.ref l ∧ v = V.ref b ∧ z = some i ∧ H2 l = some (.lst xs) ∧ RdL K H2 b ys ∧ 0 ≤ i ∧ i ≤ xs.length ∧ xs.length + ys.length ≤ sizeLine ∧ Q σ (upd H2 l (.lst (ys ++ xs.drop i.toNat)))
theorem pg_head {to : TE} {tc : TO} (ho : PE X o to) (hc : PO X (some c) tc) : PG X (.Subscript o (.Slice none (some c) none p2) pos) (gHead X.K to tc) := by
  refine ⟨fun pins s σ H v u Q I r h => ?_⟩
  show wpAny _ _ (do
    let ov ← holding [u] (eval o X.env)
    let iv ← holding [u, ov] (eval (.Slice none (some c) none p2) X.env)
    standAt pos
    holding [u, ov, iv] (setItem ov iv u)
    release [iv, u, ov] []) _ _ s
  refine wpAny_bind (wpAny_holding (thn (ho.run pins s σ H _ I h) fun ov s1 ⟨x, H1, I1, r1, q1⟩ => ?_))
  refine wpAny_bind (wpAny_holding (wpAny_Slice ?_))
  refine thn (po_none.run pins s1 σ H1 (fun o H2 => o = none ∧ H2 = H1) I1 ⟨rfl, rfl⟩) fun vl s2 ⟨l0, H2, I2, pl, el, e2⟩ => ?_
  subst el e2
  refine thn (hc.run pins s2 σ _ _ I2 q1) fun vu s3 ⟨z, H3, I3, pu, q3⟩ => ?_
  rw [evalPart_none]
  refine wpAny_pure ?_
  obtain ⟨l, b, xs, ys, i, rfl, rfl, rfl, hH, hB, h0, hi, hz, q⟩ := q3
  have I4 : Inv X pins σ H3 { s3 with heap := s3.heap.push { cls := .type "slice", data := .fields #[vl, vu, .none] } } := I3.kept (t' := s3.toks) fun b ob q => Heap.get?_push_of_some _ q
  cases r1
  cases r
  obtain ⟨i', rfl⟩ := Int.eq_ofNat_of_zero_le h0
  obtain ⟨z1, its, n, rr, hl, e⟩ := I4.lstM hH
  have hne : l ≠ b := fun z => by
    subst z
    rcases hB with ⟨ob, hB⟩ | ⟨ob, its0, n0, hk, _⟩
    · rw [hH] at hB; cases hB
    · have := (I4.bs l ob (I4.mod.kin l ob hk)).2
      rw [hH] at this; cases this
  obtain ⟨its2, r2, pl2, hz2⟩ := I4.list hB.sq
  have hl2 := r2.length
  refine wpAny_bind (wpAny_standAt (wpAny_bind (wpAny_holding ?_)))
  refine setItem_head (c := i') e pl2.isList hne (Heap.IsSliceOf.new _ vl vu .none) pl pu (by rw [List.size_toArray]; omega) (by rw [List.size_toArray, List.size_toArray]; omega) ?_
  refine wpAny_release ⟨σ, _, I4.lset (its' := its2 ++ its.drop i') (t' := s3.toks) hH e ?_ (Vals.append r2 (rr.drop _)) ?_, q⟩
  · have := L2.splice_eq its its2 0 i'
    simpa using this
  · rw [List.length_append, List.length_drop]
    omega
end
def dgHead (to : DTE) (tc : DTO) : DTG := fun d e M Q E => to e M (fun x M1 => tc e M1 (fun z M2 => match x, d, z with
  | .ref l, .rl ys, some i => ∃ xs, M2 l = some (.lst xs) ∧ 0 ≤ i ∧ i ≤ xs.length ∧ xs.length + ys.length ≤ sizeLine ∧ Q e (wr M2 l (.lst (ys ++ xs.drop i.toNat)))
  | _, _, _ => False) E) E
theorem dg_head {g : Gd} {o c : Expr} {p2 pos : Pos} {to : DTE} {tc : DTO} (ho : DE g o to) (hc : DO g (some c) tc) : DG g (.Subscript o (.Slice none (some c) none p2) pos) (dgHead to tc) [] := by
  obtain ⟨tc', pc, kc⟩ := hc.po
  refine ⟨⟨_, pg_head ho.pe pc, fun σ H e M v d Q QV sl mr fr id q kk => ?_⟩⟩
  refine low_start sl mr fr q fun x dx M1 H1 ix m f q => ?_
  refine kc σ H1 e M1 _ _ (sl.ext (f.ext mr)) m (fr.trans f) q fun z M2 H2 m2 f2 q => ?_
  have f12 := f.trans f2
  have id2 := Is.ext (f12.ext mr) _ _ id
  cases dx with
  | ref l => cases d with
    | rl ys => cases z with
      | some i =>
        obtain ⟨xs, hM, h0, hi, hz, q⟩ := q
        rw [is_ref] at ix
        subst ix
        rw [is_rl] at id2
        obtain ⟨b, vs, rfl, hB, lb⟩ := id2
        obtain ⟨us, hH, ll⟩ := m2 l _ hM
        have ex : Ext g.X.K H2 (upd H2 l (.lst (vs ++ us.drop i.toNat))) := ext_write m2 hM
        obtain ⟨m3, f3⟩ := set_mem m2 (Mo := M2) (Ho := H2) Fr.refl hM (u' := .lst (ys ++ xs.drop i.toNat)) (o := .lst (vs ++ us.drop i.toNat)) ⟨_, upd_same, IsL.ext ex _ _ (lb.append (ll.drop _))⟩
        refine ⟨l, b, us, vs, i, rfl, rfl, rfl, hH, hB, h0, by rw [ll.length]; exact hi, by rw [ll.length, lb.length]; exact hz, ?_⟩
        exact kk _ _ _ _ (sl.ext ((f12.trans f3).ext mr)) m3 (f12.trans f3) (fun _ _ => rfl) q
      | none => exact q.elim
    | _ => exact q.elim
  | _ => exact q.elim
end DL

namespace DL
open PySem PySem.Spec PyProof.Rows L2
theorem ps_frzA {X : Cx} {st : Stmt} {t : TS} (h : PS X st t) : PS X st (fun D σ H => t { D with nx := fun σ' H' => ∃ p xs, H' p = some (.lst xs) ∧ ∀ o, D.nx σ' (upd H' p (.frz o (.lst xs))) } σ H) := by
  refine ⟨fun pins s σ H D I q => ?_⟩
  refine wpAny_mono (h.run pins s σ H _ I q) (fun fl s' z => ?_) fun e s' z => z
  cases fl with
  | next =>
    obtain ⟨σ', H', J, p, xs, hp, q⟩ := z
    obtain ⟨o, J2⟩ := inv_freeze J hp
    exact ⟨σ', _, J2, q o⟩
  | brk => exact z
  | cont => exact z
  | ret u => exact z
section
variable {g : Gd} {elt tg iter tg1 iter1 : Expr} {ifs ifs1 : List Expr} {scope : Scope} {own : List (Str × Nat)} {vs1 : List Nat} {pos spos py : Pos} {w w1 : DTI} {gt gt1 : DTG} {tt tt1 : DTT} {te : DTE} {ns ms : List Nat}
theorem ds_lcF {i : Nat} {y : Str} (hc : g.X.calm = true) (hN : g.X.N.Nodup) (hy : g.X.N[i]? = some y) (hyl : g.X.env.scope.names.lookup y = some .local)
    (hsw : swapsWith (.ListComp elt [⟨tg, iter, ifs, 0⟩] scope pos) (some (.Name y py)) spos.line g.X.env = pure true) (hi : DI g tg iter w) (ok : BlkOk g.X.N g.X.env.scope scope own) (hg : BlkG g scope tg gt ns) (ht : BlkT g scope ifs tt) (he : BlkE g scope elt te) (hns : ∀ i ∈ ns, i ∈ own.map (·.2))
    (hs : ∀ x, foldedSetIterable iter g.X.env x = pure x) : DS g (.Assign [.Name y py] (.ListComp elt [⟨tg, iter, ifs, 0⟩] scope pos) spos) (dAsg (dLcF (dLc w gt tt te (own.map (·.2)))) (dgName i)) := by
  obtain ⟨w', pi, ki⟩ := hi.pi
  obtain ⟨g', pg, kg⟩ := hg
  obtain ⟨t', pt, kt⟩ := ht
  refine ⟨⟨_, ps_frzA (ps_setLc hc hN hy hyl hsw pi ok pg pt he.pe hs), fun P hP σ H e M D DV sl mr pm le q => ?_⟩⟩
  have fr := hP.base _ _ pm
  refine lc_low ki kg kt hns sl mr fr q fun a vs ds M' H' h l n n0 m f q => ?_
  refine ⟨a, vs, h, fun o => ?_⟩
  have m2 : MRel g.X.K M' (upd H' a (.frz o (.lst vs))) := fun b u e => by
    have ne : b ≠ a := fun z => by subst z; rw [n] at e; cases e
    exact (m b u e).ext (ext_frz h) (upd_ne ne)
  have f2 : Fr M H M' (upd H' a (.frz o (.lst vs))) := ⟨fun b u q nb => by
    have ne : b ≠ a := fun z => by subst z; rw [n0] at q; cases q
    obtain ⟨q1, q2⟩ := f.keep b u q nb
    exact ⟨by rw [upd_ne ne]; exact q1, q2⟩, fun b q => f.there b (upd_none q)⟩
  exact le.nx _ _ _ _ (SRel.set (is_frz l h) i (sl.ext (f2.ext mr))) m2 (hP.step _ _ _ _ pm f2) q
theorem ds_lc2F {i : Nat} {y : Str} (hc : g.X.calm = true) (hN : g.X.N.Nodup) (hy : g.X.N[i]? = some y) (hyl : g.X.env.scope.names.lookup y = some .local)
    (hsw : swapsWith (.ListComp elt [⟨tg, iter, ifs, 0⟩, ⟨tg1, iter1, ifs1, 0⟩] scope pos) (some (.Name y py)) spos.line g.X.env = pure true) (hi : DI g tg iter w) (ok : BlkOk g.X.N g.X.env.scope scope own) (hv : ∀ i ∈ vs1, i ∈ own.map (·.2)) (hg : BlkG g scope tg gt ns) (ht : BlkT g scope ifs tt) (hi1 : BlkI g scope tg1 iter1 w1) (hg1 : BlkG g scope tg1 gt1 ms) (ht1 : BlkT g scope ifs1 tt1)
    (he : BlkE g scope elt te) (hns : ∀ i ∈ ns, i ∈ own.map (·.2)) (hms : ∀ i ∈ ms, i ∈ vs1) (hs : ∀ x, foldedSetIterable iter g.X.env x = pure x) (hs1 : ∀ env x, foldedSetIterable iter1 env x = pure x) :
    DS g (.Assign [.Name y py] (.ListComp elt [⟨tg, iter, ifs, 0⟩, ⟨tg1, iter1, ifs1, 0⟩] scope pos) spos) (dAsg (dLcF (dLc2 w gt tt w1 gt1 tt1 te (own.map (·.2)) vs1)) (dgName i)) := by
  obtain ⟨w', pi, ki⟩ := hi.pi
  obtain ⟨g', pg, kg⟩ := hg
  obtain ⟨t', pt, kt⟩ := ht
  obtain ⟨w1', pi1, ki1⟩ := hi1
  obtain ⟨g1', pg1, kg1⟩ := hg1
  obtain ⟨t1', pt1, kt1⟩ := ht1
  refine ⟨⟨_, ps_frzA (ps_setLc2 hc hN hy hyl hsw pi ok hv pg pt pi1 pg1 pt1 he.pe hs hs1), fun P hP σ H e M D DV sl mr pm le q => ?_⟩⟩
  have fr := hP.base _ _ pm
  refine lc2_low ki kg kt ki1 kg1 kt1 hns hms sl mr fr q fun a vs ds M' H' h l n n0 m f q => ?_
  refine ⟨a, vs, h, fun o => ?_⟩
  have m2 : MRel g.X.K M' (upd H' a (.frz o (.lst vs))) := fun b u e => by
    have ne : b ≠ a := fun z => by subst z; rw [n] at e; cases e
    exact (m b u e).ext (ext_frz h) (upd_ne ne)
  have f2 : Fr M H M' (upd H' a (.frz o (.lst vs))) := ⟨fun b u q nb => by
    have ne : b ≠ a := fun z => by subst z; rw [n0] at q; cases q
    obtain ⟨q1, q2⟩ := f.keep b u q nb
    exact ⟨by rw [upd_ne ne]; exact q1, q2⟩, fun b q => f.there b (upd_none q)⟩
  exact le.nx _ _ _ _ (SRel.set (is_frz l h) i (sl.ext (f2.ext mr))) m2 (hP.step _ _ _ _ pm f2) q
end
end DL

namespace DL
open PySem PySem.Spec PyProof.Rows L2
section
variable {K : PySem.W.Frag} {H1 : Hp}
def zipD (xs ys : List D) : List (List D) := List.zipWith (fun x y => [x, y]) xs ys
theorem zip_at {α β : Type} (f : α → α → β) {xs ys : List α} {i : Nat} {t : β} (h : (List.zipWith f xs ys)[i]? = some t) : ∃ x y, xs[i]? = some x ∧ ys[i]? = some y ∧ t = f x y := by
  rw [List.getElem?_zipWith] at h
  cases hx : xs[i]? with
  | none => rw [hx] at h; cases h
  | some x =>
    cases hy : ys[i]? with
    | none => rw [hx, hy] at h; cases h
    | some y => rw [hx, hy] at h; cases h; exact ⟨x, y, rfl, rfl, rfl⟩
theorem jrel_zip {J : It} {F G : Hp → List V → Prop} {xs ys : List D}
    (hl : ∀ M H, MRel K M H → Ext K H1 H → ∃ vs ws, F H vs ∧ G H ws ∧ IsL K H xs vs ∧ IsL K H ys ws)
    (go : ∀ i H vs ws x y, F H vs → G H ws → vs[i]? = some x → ws[i]? = some y → J.go i H ∧ ∀ z H', J.yld i H z H' → ∃ T, z = .ref T ∧ H T = none ∧ H' = upd H T (.tup [x, y]))
    (stop : ∀ i H vs ws, F H vs → G H ws → (vs.length ≤ i ∨ ws.length ≤ i) → J.stop i H) : JRel K H1 J ⟨(zipD xs ys).map D.tup, fun _ => True⟩ := by
  refine jrel_new (ts := zipD xs ys) (f := fun H vss => ∃ vs ws, F H vs ∧ G H ws ∧ vss = List.zipWith (fun x y => [x, y]) vs ws) rfl (fun M H m f p => ?_) (fun i H vss us h e => ?_) fun i H vss h e => ?_
  · obtain ⟨vs, ws, h1, h2, l1, l2⟩ := hl M H m f
    refine ⟨_, ⟨vs, ws, h1, h2, rfl⟩, by unfold zipD; rw [List.length_zipWith, List.length_zipWith, l1.length, l2.length], fun i t e => ?_⟩
    obtain ⟨x, y, hx, hy, rfl⟩ := zip_at _ e
    obtain ⟨v, e1, i1⟩ := l1.get hx
    obtain ⟨u, e2, i2⟩ := l2.get hy
    exact ⟨[v, u], by rw [List.getElem?_zipWith, e1, e2], IsL.mk i1 (IsL.mk i2 (isL_nil.mpr rfl))⟩
  · obtain ⟨vs, ws, h1, h2, rfl⟩ := h
    obtain ⟨x, y, hx, hy, rfl⟩ := zip_at _ e
    exact go i H vs ws x y h1 h2 hx hy
  · obtain ⟨vs, ws, h1, h2, rfl⟩ := h
    rw [List.length_zipWith] at e
    exact stop i H vs ws h1 h2 (by omega)
theorem go_zipT {a b : Addr} (i : Nat) (H : Hp) (vs ws : List V) (x y : V) (h1 : SqT K H a vs) (h2 : SqT K H b ws) (hx : vs[i]? = some x) (hy : ws[i]? = some y) :
    (RZ.ItzT K a b).go i H ∧ ∀ z H', (RZ.ItzT K a b).yld i H z H' → ∃ T, z = .ref T ∧ H T = none ∧ H' = upd H T (.tup [x, y]) := by
  refine ⟨⟨vs, ws, x, y, h1, h2, hx, hy⟩, fun z H' q => ?_⟩
  obtain ⟨T, x', y', e1, e2, e3, e4, e5⟩ := q
  have ex : x' = x := Option.some.inj ((e4 _ h1).symm.trans hx)
  have ey : y' = y := Option.some.inj ((e5 _ h2).symm.trans hy)
  subst ex ey
  exact ⟨T, e1, e2, e3⟩
theorem go_zipL {a b : Addr} (i : Nat) (H : Hp) (vs ws : List V) (x y : V) (h1 : SqL K H a vs) (h2 : SqL K H b ws) (hx : vs[i]? = some x) (hy : ws[i]? = some y) :
    (Itz K a b).go i H ∧ ∀ z H', (Itz K a b).yld i H z H' → ∃ T, z = .ref T ∧ H T = none ∧ H' = upd H T (.tup [x, y]) := by
  refine ⟨⟨vs, ws, x, y, h1, h2, hx, hy⟩, fun z H' q => ?_⟩
  obtain ⟨T, x', y', e1, e2, e3, e4, e5⟩ := q
  have ex : x' = x := Option.some.inj ((e4 _ h1).symm.trans hx)
  have ey : y' = y := Option.some.inj ((e5 _ h2).symm.trans hy)
  subst ex ey
  exact ⟨T, e1, e2, e3⟩
end
def tuD : D → Option (List D)
  | .tup xs => some xs
  | .tx xs => some xs
  | _ => none
theorem tuD_sq {K : PySem.W.Frag} {H : Hp} {d : D} {v : V} {xs : List D} (h : tuD d = some xs) (i : Is K H d v) : ∃ a vs, v = .ref a ∧ SqT K H a vs ∧ IsL K H xs vs ∧ ∀ H', Ext K H H' → SqT K H' a vs := by
  cases d with
  | tup ds =>
    cases h
    rw [is_tup] at i
    obtain ⟨a, vs, rfl, e, l⟩ := i
    exact ⟨a, vs, rfl, SqT.of e, l, fun H' x => SqT.of (x.1 _ _ e)⟩
  | tx ds =>
    cases h
    rw [is_tx] at i
    obtain ⟨a, vs, rfl, e, l⟩ := i
    exact ⟨a, vs, rfl, e.sq, l, fun H' x => (x.2.2.1 _ _ e).sq⟩
  | _ => cases h
def diZip (r : DTA) : DTI := fun e M R E => r e M (fun ds M1 => match ds with
  | [x, y] => (∃ xs ys, tuD x = some xs ∧ tuD y = some ys ∧ R ⟨(zipD xs ys).map D.tup, fun _ => True⟩ M1) ∨ (∃ xs ys, x = .rl xs ∧ y = .rl ys ∧ R ⟨(zipD xs ys).map D.tup, fun _ => True⟩ M1)
  | _ => False) E
theorem di_zip {g : Gd} {x y : Expr} {elts : List Expr} {kk : Nat} {p pos tpos : Pos} {r : DTA} (hg : Gl g.X "zip") (hm : g.X.mg "zip" = none) (h : DA g [x, y] r) (n1 : isStar x = false) (n2 : isStar y = false) : DI g (.Tuple elts kk tpos) (.Call (.Name "zip" p) [x, y] [] pos) (diZip r) := by
  obtain ⟨ta, pa, ka⟩ := h.pa
  refine ⟨⟨_, RZ.pi_zipA hg hm pa (star_cons n1) (by rw [star_cons n2]; rfl), fun σ H e M R RV sl mr fr q k => ?_⟩⟩
  refine ka σ H e M _ _ sl mr fr q fun ds vs M1 H1 l m f q => ?_
  match ds, q with
  | [x, y], q =>
    rw [isL_cons] at l
    obtain ⟨v, rv, rfl, i, l⟩ := l
    rw [isL_cons] at l
    obtain ⟨u, ru, rfl, j, l⟩ := l
    rw [isL_nil] at l
    subst l
    rcases q with ⟨xs, ys, e1, e2, q⟩ | ⟨xs, ys, rfl, rfl, q⟩
    · obtain ⟨a, vs, rfl, s1, l1, t1⟩ := tuD_sq e1 i
      obtain ⟨b, ws, rfl, s2, l2, t2⟩ := tuD_sq e2 j
      exact ⟨a, b, vs, ws, rfl, .inr ⟨s1, s2, k _ _ M1 H1 (jrel_zip (F := fun H vs => SqT _ H a vs) (G := fun H ws => SqT _ H b ws) (fun M' H' m' f' => ⟨vs, ws, t1 _ f', t2 _ f', IsL.ext f' _ _ l1, IsL.ext f' _ _ l2⟩) go_zipT fun i H vs ws h1 h2 e => ⟨vs, ws, h1, h2, e⟩) m f q⟩⟩
    · rw [is_rl] at i j
      obtain ⟨a, vs, rfl, s1, l1⟩ := i
      obtain ⟨b, ws, rfl, s2, l2⟩ := j
      exact ⟨a, b, vs, ws, rfl, .inl ⟨s1.sq, s2.sq, k _ _ M1 H1 (jrel_zip (F := fun H vs => SqL _ H a vs) (G := fun H ws => SqL _ H b ws) (fun M' H' m' f' => ⟨vs, ws, (f'.2.1 _ _ s1).sq, (f'.2.1 _ _ s2).sq, IsL.ext f' _ _ l1, IsL.ext f' _ _ l2⟩) go_zipL fun i H vs ws h1 h2 e => ⟨vs, ws, h1, h2, e⟩) m f q⟩⟩
end DL

namespace DL
open PySem PySem.Spec PyProof.Rows L2
def dAug (add : Bool) (i : Nat) (t : DTE) : DTS := fun D E e M => match getS e i with
  | some (.int a) => t e M (fun y M1 => match y with
    | .int b => D.nx (setS e i (some (.int (if add then a + b else a - b)))) M1
    | _ => False) E
  | _ => False
theorem ds_aug {g : Gd} {i : Nat} {n : Str} {x : Expr} {te : DTE} {op : Operator} {pos p : Pos} (add : Bool) (ho : op = if add then .Add else .Sub) (hN : g.X.N.Nodup) (hi : g.X.N[i]? = some n) (hx : Loc g.X.env.scope n) (hf : g.X.fn n = true ∨ g.X.env.scope.names.lookup n = some .local) (h : DE g x te) :
    DS g (.AugAssign (.Name n p) op x pos) (dAug add i te) := by
  subst ho
  have hop : PIp g.X (if add then .Add else .Sub) (fun x y H Q => ∃ i j, x = .int i ∧ y = .int j ∧ Q (.int (if add then i + j else i - j)) H) := by
    cases add
    · exact in_sub
    · exact in_add
  refine ⟨⟨_, ps_aug hN hi hx h.pe hop hf, fun P hP σ H e M D DV sl mr pm le q => ?_⟩⟩
  have fr := hP.base _ _ pm
  unfold dAug at q
  cases eg : getS e i with
  | none => rw [eg] at q; exact q.elim
  | some d =>
    rw [eg] at q
    cases d with
    | int a =>
      obtain ⟨v, hv, iv⟩ := sl.get eg
      rw [is_int] at iv
      subst iv
      refine ⟨_, hv, low_start sl mr fr q fun v d M1 H1 i m f q => ?_⟩
      cases d with
      | int b =>
        rw [is_int] at i
        subst i
        exact ⟨a, b, rfl, rfl, le.nx _ _ _ _ (SRel.set ii_int _ (sl.ext (f.ext mr))) m (hP.step _ _ _ _ pm f) q⟩
      | _ => exact q.elim
    | _ => exact q.elim
end DL

namespace DL
open PySem PySem.Spec PyProof.Rows L2
section
variable {X : Cx}
def rCatX : R2 := fun x y H Q => ∃ a b xs ys, x = .ref a ∧ y = .ref b ∧ TxA H a xs ∧ TxA H b ys ∧ xs.length + ys.length ≤ sizeLine ∧
  (xs = [] → Q (.ref b) H) ∧ (xs ≠ [] → ys = [] → Q (.ref a) H) ∧ (xs ≠ [] → ys ≠ [] → ∀ p, H p = none → ∀ o : Obj, o.dict = none → Q (.ref p) (upd H p (.frz o (.tup (xs ++ ys)))))
theorem op_catX : OpR X (binaryOp .Add) rCatX := by
  intro pins s σ H x y v u Q I rx ry h
  obtain ⟨a, b, xs, ys, rfl, rfl, ha, hb, hz, q0, q1, q2⟩ := h
  cases rx
  cases ry
  obtain ⟨its, r1, p1, _⟩ := I.tuple (ha.sq (K := X.K))
  obtain ⟨its2, r2, p2, _⟩ := I.tuple (hb.sq (K := X.K))
  by_cases hx : xs = []
  · subst hx
    cases r1
    exact cat_tup0 p1 p2 ⟨.ref b, H, I, rfl, q0 rfl⟩
  · refine HT.cat_tup p1 p2 (fun z => hx (r1.nil_iff.mp z)) (fun z => ⟨.ref a, H, I, rfl, q1 hx (r2.nil_iff.mp z)⟩) (fun z => ?_) (by rw [← r1.length, ← r2.length]; exact hz)
    exact ⟨.ref s.heap.objs.size, _, laidX (tk := s.toks) I (r1.append r2) (by rw [List.length_append]; exact hz), rfl, q2 hx (fun w => z (r2.nil_iff.mpr w)) _ (I.hok.fresh (Nat.le_refl _)) _ rfl⟩
def dAddX : R2D := fun x y M Q => match x with
  | .tx a => (match y with | .tx b => a.length + b.length ≤ sizeLine ∧ Q (.tx (a ++ b)) M | _ => False)
  | _ => False
theorem opd_addX : OpD X (binaryOp .Add) dAddX := by
  refine ⟨_, op_catX, fun M H Mo Ho x y a b Q QV m f i j fin q => ?_⟩
  cases a with
  | tx k =>
    cases b with
    | tx l =>
      have i0 := i
      have j0 := j
      rw [is_tx] at i j
      obtain ⟨p1, vs, rfl, h1, l1⟩ := i
      obtain ⟨p2, ws, rfl, h2, l2⟩ := j
      refine ⟨p1, p2, vs, ws, rfl, rfl, h1, h2, by rw [l1.length, l2.length]; exact q.1, fun e => ?_, fun _ e => ?_, fun _ _ => Fin.newX fin m f (l1.append l2) q.2⟩
      · have ek : k = [] := by
          have := l1.length
          rw [e] at this
          exact List.length_eq_zero_iff.mp this.symm
        subst ek
        exact fin _ _ _ _ j0 m f q.2
      · have el : l = [] := by
          have := l2.length
          rw [e] at this
          exact List.length_eq_zero_iff.mp this.symm
        subst el
        have q2 : Q (.tx k) M := by simpa using q.2
        exact fin _ _ _ _ i0 m f q2
    | _ => exact q.elim
  | _ => exact q.elim
end
end DL

namespace DL
open PySem PySem.Spec PyProof.Rows L2
section
variable {prog : Program} {w : World} {A : Around} {E : Value → Shared → Prop} {s : Shared} {r d : Addr} {κ' : Type} [DecidableEq κ'] {knd : KeyKind prog w κ'} {kvs : List (κ' × Value)} {ep : Nat}
theorem tuple_new_items {Q₁ : Value → Shared → Prop} (hh : A.handled = none) (hv : s.heap.IsItemsView r d) (hm : s.heap.DictAt knd d kvs ep) (hn : kvs.length ≤ sizeLine)
    (h : ∀ (h' : Heap) (tk : Nat) (as : List Addr), (∀ b o, s.heap.get? b = some o → h'.get? b = some o) → as.length = kvs.length → PySem.W.KdxG knd kvs s.heap.objs.size h' as →
      Q₁ (.ref h'.objs.size) { s with heap := h'.push { cls := .type "tuple", data := .seq (as.map Value.ref).toArray }, toks := tk }) :
    codeAny (model prog w) A (.call (.builtin "tuple.__new__") ⟨[.type "tuple", .ref r], []⟩) (wants Q₁ E) s := by
  refine codeAny_of_tree ?_
  show wpAny _ A.in1 (do checkBuiltinCall "tuple.__new__" ⟨[.type "tuple", .ref r], []⟩; again (.builtin "tuple.__new__" ⟨[.type "tuple", .ref r], []⟩)) _ _ s
  refine wpAny_bind (wpAny_of_eq (F.newCall_tuple_1 _) (wpAny_pure ⟨plainId_quiet F.plain_tuple_new _, codeAny_builtin F.entry_tuple_new ?_⟩))
  rw [Around.under_plainId F.plain_tuple_new _]
  have hsub := sub_tuple_self
  have hinit := init_tuple_lookup
  have hmh := madeHere_tuple
  have hTI : s.TypeIs (.ref r) "dict_items" := hv.typeIs
  have hh1 : A.in1.handled = none := hh
  wp_walk using wpAny_typeOf hTI, PySem.W.kdx_collect (A := A.in1) (knd := knd) (kvs := kvs) (ep := ep) hh1 hv hm hn
  intro h' tk as hk hl hG
  show wpAny _ _ (Builtin.Tuple.tupleExact (as.map Value.ref).toArray >>= fun v => ret v) _ _ _
  unfold Builtin.Tuple.tupleExact
  refine wpAny_bind (wpAny_newObj_type ?_ (by show (as.map Value.ref).toArray.size ≤ sizeLine; simp only [List.size_toArray, List.length_map]; omega))
  refine wpAny_pure ?_
  exact h h' tk as hk hl hG
theorem call_tuple_items {Q : Value → Shared → Prop} (hh : A.handled = none) (hv : s.heap.IsItemsView r d) (hm : s.heap.DictAt knd d kvs ep) (hn : kvs.length ≤ sizeLine)
    (hQ : ∀ (h' : Heap) (tk : Nat) (as : List Addr), (∀ b o, s.heap.get? b = some o → h'.get? b = some o) → as.length = kvs.length → PySem.W.KdxG knd kvs s.heap.objs.size h' as →
      Q (.ref h'.objs.size) { s with heap := h'.push { cls := .type "tuple", data := .seq (as.map Value.ref).toArray }, toks := tk }) :
    wpAny (model prog w) A (call (.type "tuple") [.ref r]) Q E s := by
  refine callType_codes (Q₁ := fun obj s₁ => s₁.TypeIs obj "tuple" ∧ Q obj s₁) F.called_tuple (F.typeCall_tuple_1 _) F.entry_object_init
    (tuple_new_items (A := A.in1) hh hv hm hn fun h' tk as hk hl hG => ⟨⟨_, Heap.get?_push_size _ rfl, rfl⟩, hQ h' tk as hk hl hG⟩) fun obj s₁ h₁ => ?_
  exact ⟨h₁.1, F.args_object_init_2 obj _, object_init_meets F.called_tuple.init.lookup F.called_tuple.made (by decide) prog w A.in1 _ s₁ ⟨h₁.1, rfl, h₁.2⟩⟩
end
section
variable {X : Cx}
theorem items_laid0 {pins : List (Addr × Obj)} {σ : L2.St} {H : Hp} {s : Shared} {h' : Heap} {tk : Nat} {kvs : List (Key × V)} {vs : List (Key × Value)} {as : List Addr} (I : Inv X pins σ H s) (kv : KV kvs vs)
    (hk : ∀ b o, s.heap.get? b = some o → h'.get? b = some o) (hl : as.length = vs.length) (hG : PySem.W.KdxG (mixKind X.prog X.w) vs s.heap.objs.size h' as) :
    ∃ H' : Hp, (∀ b o, H b = some o → H' b = some o) ∧ (∀ t ∈ as, H t = none) ∧ (∀ b, b ∉ as → H' b = H b) ∧ Paired (fun (t : Addr) (q : Key × V) => H' t = some (.tup [kV q.1, q.2])) as kvs ∧ Inv X pins σ H' { s with heap := h', toks := tk } := by
  have lk : kvs.length = vs.length := Paired.length kv
  have nd : as.Nodup := List.Pairwise.imp (fun {a b} (h : a < b) => Nat.ne_of_lt h) hG.rise
  have new : ∀ t ∈ as, H t = none := fun t ht => I.hok.fresh (Nat.le_of_lt (hG.above t ht))
  have atP := LiI.putT_at as kvs H (by omega) nd
  have off : ∀ b, b ∉ as → LiI.putT H as kvs b = H b := fun b h1 => LiI.putT_off as kvs _ h1
  have low : ∀ b o, s.heap.get? b = some o → b ∉ as := fun b o e z => absurd (Heap.lt_size e) (Nat.not_lt.mpr (Nat.le_of_lt (hG.above b z)))
  have kp : ∀ b u, H b = some u → LiI.putT H as kvs b = some u := fun b u e => by
    rw [off b (fun z => by rw [new b z] at e; cases e)]
    exact e
  refine ⟨LiI.putT H as kvs, kp, new, off, atP, ?_⟩
  refine I.call' (ch := []) rfl ⟨fun b o q _ _ _ => hk b o q, fun b o q _ _ _ => ⟨o.slots, hk b o q⟩, fun b o q n _ => ?_, fun b o q _ => ⟨o, hk b o q⟩, fun b xs q => kp b _ q, fun b o u q => kp b _ q, fun b ps q => ⟨#[], by rw [kp b _ q]; simp⟩⟩ (fun b u q => ?_) I.bare fun b z => by simp at z
  · rw [off b (low b o q)]
    exact n
  · by_cases hb : b ∈ as
    · obtain ⟨j, pk, e1, e2, e3⟩ := LiI.paired_ix atP hb
      rw [e3] at q
      cases q
      obtain ⟨key, k, x, f1, f2, f3⟩ := hG.pairs j b e1
      obtain ⟨qv, g1, g2, g3⟩ := LiI.paired_get kv e2
      rw [f1] at g1
      cases g1
      have rk : RelV (kV pk.1) key := by
        rw [g2]
        exact relV_key (show keyIs k key = true from f2)
      exact ⟨by show 2 ≤ sizeLine; decide, [key, x], .cons rk (.cons g3 .nil), ⟨_, f3, rfl, _, rfl⟩⟩
    · rw [off b hb] at q
      exact (I.hok b u q).stay (fun d v _ y => hk d v y) (fun d y => kp d _ y) fun d xs y => kp d _ y
end
theorem fr_more {M : Mem} {H H' : Hp} (hk : ∀ b u, H b = some u → H' b = some u) : Fr M H M H' := ⟨fun b o hb n => ⟨hk _ _ hb, n⟩, fun b h => by
  cases e : H b with
  | none => rfl
  | some u => rw [hk _ _ e] at h; cases h⟩
theorem mr_more {K : PySem.W.Frag} {M : Mem} {H H' : Hp} (r : MRel K M H) (hk : ∀ b u, H b = some u → H' b = some u) : MRel K M H' := fun a o e => by
  refine (r a o e).ext ((fr_more hk).ext r) ?_
  cases h : H a with
  | none => rw [r.none_of h] at e; cases e
  | some u => exact hk _ _ h
section
variable {X : Cx} {e : Expr} {te : TE} {p apos cpos pos : Pos}
def rItemsX : V → Hp → VK → Prop := fun x H Q => ∃ (d : Addr) (kvs : List (Key × V)), x = .ref d ∧ H d = some (.dK kvs) ∧
  ∀ (H' : Hp) (p : Addr) (ts : List Addr) (o : Obj), o.dict = none → (∀ b u, H b = some u → H' b = some u) → H' p = none → Paired (fun (t : Addr) (q : Key × V) => H' t = some (.tup [kV q.1, q.2])) ts kvs → Q (.ref p) (upd H' p (.frz o (.tup (ts.map V.ref))))
theorem pe_tupItems (hc : X.calm = true) (he : PE X e te) (hg : Gl X "tuple") (hm : X.mg "tuple" = none) (hv : bootBuiltins "tuple" = some (.type "tuple")) (hbase : attributeBase e "items" X.env (eval e X.env) = eval e X.env) (hline : (apos.endLine == cpos.line) = true)
    (hs : starEach [.Call (.Attribute e "items" apos) [] [] cpos] X.env = (false, eval (.Call (.Attribute e "items" apos) [] [] cpos) X.env) :: starEach [] X.env) :
    PE X (.Call (.Name "tuple" p) [.Call (.Attribute e "items" apos) [] [] cpos] [] pos) (fun σ H Q => te σ H fun x H1 => rItemsX x H1 Q) := by
  refine ⟨fun pins s σ H Q I hq => ?_⟩
  refine wpAny_Call_Name_kw (ld_blt I hg hm hv ?_)
  refine PyProof.Rows.callWith_type1 ?_ hs rfl
  rw [hs]
  show wpAny _ _ (spliced ((false, eval (.Call (.Attribute e "items" apos) [] [] cpos) X.env) :: backTo pos (starEach [] X.env))) _ _ s
  refine Calls.spliced_cons ?_
  refine wpAny_Call_method (T := "dict") (id := "dict.items") hbase rfl hline F.plainAttrs_dict F.slot_dict_items F.type_dict_items (thn (he.run pins s σ H _ I hq) fun u s1 ⟨x, H1, I1, rx, d, kvs, ex, hd, q⟩ => ?_)
  subst ex
  obtain rfl : u = Value.ref d := rx
  obtain ⟨hz, hs0, vs, kv, hdo⟩ := I1.hok d _ hd
  obtain ⟨ep, hat⟩ := hdo.dictAt
  have lk : kvs.length = vs.length := Paired.length kv
  have I2 : Inv X pins σ H1 { s1 with heap := s1.heap.push { cls := .type "dict_items", data := .fields #[.ref d] } } := I1.kept (t' := s1.toks) fun b ob q => Heap.get?_push_of_some _ q
  refine ⟨hdo.typeIs, hdo.mapOf.noDict, ?_⟩
  show wpAny _ _ (callWith cpos (.builtin "dict.items") [.ref d] [] []) _ X.xe s1
  refine method_meetsIn F.slot_dict_items F.entry_dict_items rfl (PySem.evalArgs_none ⟨rfl, hdo.typeIs, F.args_dict_items_1 _, _, meets_dict_items (mixKind X.prog X.w) d hs0, ⟨vs, hdo⟩, ?_⟩)
  refine Calls.spliced_nil ?_
  refine call_tuple_items (knd := mixKind X.prog X.w) (kvs := vs) (ep := ep) (I1.ok.hd hc) ⟨_, Heap.get?_push_size _ rfl, rfl, rfl⟩ (hat.push _) (by omega) fun h' tk as hk hl hG => ?_
  obtain ⟨H', k1, k2, k3, k4, J⟩ := items_laid0 (tk := tk) I2 kv hk hl hG
  refine ⟨.ref h'.objs.size, _, laidX (tk := tk) J (LiI.vals_refs as) (by rw [List.length_map]; omega), rfl, q H' _ as _ rfl k1 (J.hok.fresh (Nat.le_refl _)) k4⟩
end
def dItX (t : DTE) : DTE := fun e M Q E => t e M (fun x M1 => match x with
  | .ref a => ∃ kvs, M1 a = some (.dK kvs) ∧ Q (.tx (kvs.map pairD)) M1
  | _ => False) E
theorem paired_imp {α β : Type} {F G : α → β → Prop} (h : ∀ x y, F x y → G x y) : ∀ {xs : List α} {ys : List β}, Paired F xs ys → Paired G xs ys
  | _, _, .nil => .nil
  | _, _, .cons a t => .cons (h _ _ a) (paired_imp h t)
theorem isL_laid {K : PySem.W.Frag} {H H' : Hp} (x : Ext K H H') : ∀ {kvs : List (Key × D)} {ws : List (Key × V)} {ts : List Addr}, ws.map (·.1) = kvs.map (·.1) → IsL K H (kvs.map (·.2)) (ws.map (·.2)) → Paired (fun (t : Addr) (q : Key × V) => H' t = some (.tup [kV q.1, q.2])) ts ws → IsL K H' (kvs.map pairD) (ts.map V.ref)
  | [], [], _, _, _, .nil => isL_nil.mpr rfl
  | [], _ :: _, _, h, _, _ => by simp at h
  | _ :: _, [], _, h, _, _ => by simp at h
  | (k, d) :: kvs, (k', v) :: ws, _, h, l, .cons e t => by
    rw [List.map_cons, List.map_cons] at h
    injection h with h1 h2
    simp only at h1
    subst h1
    rw [List.map_cons, List.map_cons, isL_cons] at l
    obtain ⟨v', r, e1, i, l⟩ := l
    injection e1 with e1 e2
    subst e1 e2
    refine IsL.mk (ii_tup e (IsL.mk ?_ (IsL.mk (Is.ext x _ _ i) (isL_nil.mpr rfl)))) (isL_laid x h2 l t)
    cases k' with
    | inl j => exact ii_int
    | inr z => exact ii_str
theorem de_itX {g : Gd} {o : Expr} {to : DTE} {p apos cpos pos : Pos} (hc : g.X.calm = true) (ho : DE g o to) (hg : Gl g.X "tuple") (hm : g.X.mg "tuple" = none) (hbase : attributeBase o "items" g.X.env (eval o g.X.env) = eval o g.X.env) (hline : (apos.endLine == cpos.line) = true) :
    DE g (.Call (.Name "tuple" p) [.Call (.Attribute o "items" apos) [] [] cpos] [] pos) (dItX to) := by
  refine DE.of (pe_tupItems hc ho.pe hg hm rfl hbase hline rfl) fun σ H e M Q sl mr fr q => ?_
  refine low_start sl mr fr q fun v d M1 H1 i m f q => ?_
  cases d with
  | ref a =>
    rw [is_ref] at i
    subst i
    obtain ⟨kvs, hM, q⟩ := q
    obtain ⟨ws, hH, hk, hl⟩ := m a _ hM
    refine ⟨a, ws, rfl, hH, fun H' p ts ob hd k1 k2 pr => ?_⟩
    have m1 := mr_more m k1
    have f1 := fr_more (M := M1) k1
    have x1 := (f1.ext m).trans ((fr_new (o := HO.frz ob (.tup (ts.map V.ref))) m1 k2).ext m1)
    have f2 := f1.trans (fr_new (o := HO.frz ob (.tup (ts.map V.ref))) m1 k2)
    have pr' : Paired (fun (t : Addr) (q : Key × V) => upd H' p (.frz ob (.tup (ts.map V.ref))) t = some (.tup [kV q.1, q.2])) ts ws := paired_imp (fun t q e => by
      have : t ≠ p := fun z => by subst z; rw [k2] at e; cases e
      rw [upd_ne this]; exact e) pr
    exact lowQ.mk (is_tx.mpr ⟨p, ts.map V.ref, rfl, ⟨ob, upd_same, hd⟩, isL_laid x1 hk hl pr'⟩) (mr_new m1 k2) (f.trans f2) q
  | _ => exact q.elim
end DL

namespace DL
open PySem PySem.Spec PyProof.Rows L2
section
variable {prog : Program} {w : World} {A : Around} {E : Value → Shared → Prop} {s : Shared} {r d : Addr} {n : Nat} {P : Nat → Value → Prop} {OK : Heap → Prop}
theorem tuple_new_src {Q₁ : Value → Shared → Prop} (K : PySem.W.KdlSrc prog w "dict" r d n P OK) (hh : A.handled = none) (hok : OK s.heap) (hn : n ≤ sizeLine)
    (h : ∀ (h' : Heap) (tk : Nat) (acc : Array Value), (∀ b o, s.heap.get? b = some o → h'.get? b = some o) → ItemsOf P acc n →
      Q₁ (.ref h'.objs.size) { s with heap := h'.push { cls := .type "tuple", data := .seq acc }, toks := tk }) :
    codeAny (model prog w) A (.call (.builtin "tuple.__new__") ⟨[.type "tuple", .ref r], []⟩) (wants Q₁ E) s := by
  refine codeAny_of_tree ?_
  show wpAny _ A.in1 (do checkBuiltinCall "tuple.__new__" ⟨[.type "tuple", .ref r], []⟩; again (.builtin "tuple.__new__" ⟨[.type "tuple", .ref r], []⟩)) _ _ s
  refine wpAny_bind (wpAny_of_eq (F.newCall_tuple_1 _) (wpAny_pure ⟨plainId_quiet F.plain_tuple_new _, codeAny_builtin F.entry_tuple_new ?_⟩))
  rw [Around.under_plainId F.plain_tuple_new _]
  have hsub := sub_tuple_self
  have hinit := init_tuple_lookup
  have hmh := madeHere_tuple
  have hTI : s.TypeIs (.ref r) "dict" := K.type s hok
  have hh1 : A.in1.handled = none := hh
  wp_walk using wpAny_typeOf hTI, PySem.W.kdu_collect (A := A.in1) K hh1 hok hn
  intro h' tk acc hk hacc
  show wpAny _ _ (Builtin.Tuple.tupleExact acc.toList.toArray >>= fun v => ret v) _ _ _
  unfold Builtin.Tuple.tupleExact
  refine wpAny_bind (wpAny_newObj_type ?_ (by show acc.toList.toArray.size ≤ sizeLine; simp only [Array.toArray_toList]; rw [hacc.1]; omega))
  refine wpAny_pure ?_
  have e : acc.toList.toArray = acc := by simp
  rw [e]
  exact h h' tk acc hk hacc
theorem call_tuple_src {Q : Value → Shared → Prop} (K : PySem.W.KdlSrc prog w "dict" r d n P OK) (hh : A.handled = none) (hok : OK s.heap) (hn : n ≤ sizeLine)
    (hQ : ∀ (h' : Heap) (tk : Nat) (acc : Array Value), (∀ b o, s.heap.get? b = some o → h'.get? b = some o) → ItemsOf P acc n →
      Q (.ref h'.objs.size) { s with heap := h'.push { cls := .type "tuple", data := .seq acc }, toks := tk }) :
    wpAny (model prog w) A (call (.type "tuple") [.ref r]) Q E s := by
  refine callType_codes (Q₁ := fun obj s₁ => s₁.TypeIs obj "tuple" ∧ Q obj s₁) F.called_tuple (F.typeCall_tuple_1 _) F.entry_object_init
    (tuple_new_src (A := A.in1) K hh hok hn fun h' tk acc hk hacc => ⟨⟨_, Heap.get?_push_size _ rfl, rfl⟩, hQ h' tk acc hk hacc⟩) fun obj s₁ h₁ => ?_
  exact ⟨h₁.1, F.args_object_init_2 obj _, object_init_meets F.called_tuple.init.lookup F.called_tuple.made (by decide) prog w A.in1 _ s₁ ⟨h₁.1, rfl, h₁.2⟩⟩
end
section
variable {X : Cx}
theorem call_tuple_dK (hc : X.calm = true) : CallR X (.type "tuple") (fun xs H Q => ∃ p kvs, xs = [.ref p] ∧ H p = some (.dK kvs) ∧ ∀ q, H q = none → ∀ o : Obj, o.dict = none → Q (.ref q) (upd H q (.frz o (.tup (kvs.map fun kv => kV kv.1))))) := by
  intro pins s σ H xs us Q I r h
  obtain ⟨p, kvs, e, hk, q⟩ := h
  subst e
  obtain ⟨u, eu, rx⟩ := vals1 r
  subst eu
  obtain rfl : u = Value.ref p := rx
  obtain ⟨z, lo, vs, rk, hd⟩ := (show ObjOk X.prog X.w H s.heap p (.dK kvs) from I.hok p _ hk)
  obtain ⟨ep, hat⟩ := hd.dictAt
  have hl : kvs.length = vs.length := Paired.length rk
  refine call_tuple_src (PySem.W.kdl_dict (knd := mixKind X.prog X.w) (kvs := vs) (ep := ep) lo) (I.ok.hd hc) hat (by rw [← hl]; exact z) fun h' tk acc' hkeep hacc => ?_
  have J : Inv X pins σ H { s with heap := h', toks := tk } := I.kept hkeep
  have rel : Vals (kvs.map fun kv => kV kv.1) acc'.toList := by
    have el : acc'.toList.length = acc'.size := by simp
    refine vals_of_at (by rw [List.length_map, el, hacc.1, hl]) fun j x w h1 h2 => ?_
    obtain ⟨k, y, hky, hi⟩ := hacc.2 j w (by rw [← Array.getElem?_toList]; exact h2)
    have e1 : (kvs.map (·.1))[j]? = some k := by
      rw [KV.keys rk, List.getElem?_map, hky] <;> rfl
    have e2 : (kvs.map fun kv => kV kv.1)[j]? = some (kV k) := by
      have e3 : (kvs.map fun kv => kV kv.1) = (kvs.map (·.1)).map kV := by rw [List.map_map] <;> rfl
      rw [e3, List.getElem?_map, e1] <;> rfl
    rw [e2] at h1
    cases h1
    exact keyIs_rel hi
  have hlaid := laidX (tk := tk) J rel (by rw [List.length_map]; exact z)
  rw [Array.toArray_toList] at hlaid
  exact ⟨.ref h'.objs.size, _, hlaid, rfl, q _ (J.hok.fresh (Nat.le_refl _)) _ rfl⟩
def rTupleK : RnD := fun ds M Q => match ds with
  | [.ref a] => ∃ kvs, M a = some (.dK kvs) ∧ Q (.tx (kvs.map fun kv => keyV kv.1)) M
  | _ => False
theorem cd_tupleK (hc : X.calm = true) : CallD X (.type "tuple") rTupleK := by
  refine ⟨_, call_tuple_dK hc, fun M H Mo Ho vs ds Q QV m f l fin q => ?_⟩
  match ds, q with
  | [.ref a], q =>
    obtain ⟨v, rfl, j⟩ := isL_one l
    rw [is_ref] at j
    subst j
    obtain ⟨kvs, h, q⟩ := q
    obtain ⟨ws, e, hk, l1⟩ := m a _ h
    refine ⟨a, ws, rfl, e, Fin.newX fin m f ?_ q⟩
    have : (ws.map fun kv => kV kv.1) = (kvs.map fun kv => kV kv.1) := by
      have e3 : (ws.map fun kv => kV kv.1) = (ws.map (·.1)).map kV := by rw [List.map_map] <;> rfl
      have e4 : (kvs.map fun kv => kV kv.1) = (kvs.map (·.1)).map kV := by rw [List.map_map] <;> rfl
      rw [e3, e4, hk]
    rw [this]
    exact isL_map (fun kv => by
      cases kv.1 with
      | inl j => exact ii_int
      | inr z => exact ii_str) kvs
end
end DL

namespace DL
open PySem PySem.Spec PyProof.Rows L2
theorem nolenZ : typeLookup (.type "zip") "__len__" = pure none := by rw [typeLookup_type, builtinLookup_eq_fast]; kernel_rfl
theorem nohintZ : typeLookup (.type "zip") "__length_hint__" = pure none := by rw [typeLookup_type, builtinLookup_eq_fast]; kernel_rfl
abbrev ZHeld (h : Heap) (z TI TO a : Addr) (f : Bool) : Prop :=
  h.get? z = some { cls := .type "zip", dict := none, data := .fields #[rawInt a, .bool f, .bool false, .ref TI, .ref TO], slots := #[] }
section
variable {prog : Program} {w : World} {A : Around} {E : Value → Shared → Prop} {s : Shared} {z TI TO i1 i2 l1 l2 : Addr} {xs ys : Array Value}
theorem zh_free {a : Addr} {f : Bool} {oa : Obj} {Q : Bool → Shared → Prop} (hz : ZHeld s.heap z TI TO a f) (ha : s.heap.get? a = some oa)
    (h : ∀ h1, ZHeld h1 z TI TO a true → Heap.SameBut z s.heap h1 → Q false { s with heap := h1 }) : wpAny (model prog w) A (Builtin.SmallTypes.ownedTupleIsFree (.ref z)) Q E s := by
  unfold Builtin.SmallTypes.ownedTupleIsFree
  refine wpAny_bind (wpAny_field hz rfl (x := rawInt a) rfl ?_)
  show wpAny _ _ (loadIfAlive ((a : Int).toNat) >>= _) _ _ _
  rw [Int.toNat_natCast]
  refine wpAny_bind (PySem.W.kdx_alive ha ?_)
  simp only [Option.isNone_some, Bool.false_eq_true, if_false]
  refine wpAny_bind (wpAny_field hz rfl (x := .bool f) rfl ?_)
  cases f with
  | true =>
    rw [if_neg (show ¬ ((Value.bool true != Value.bool true) = true) from Bool.false_ne_true)]
    exact wpAny_pure (h s.heap hz (Heap.SameBut.refl _ _))
  | false =>
    rw [if_pos (show (Value.bool false != Value.bool true) = true from rfl)]
    exact wpAny_bind (wpAny_setField_rec hz (by simp) fun h3 hz3 hs3 => wpAny_pure (h h3 hz3 hs3))
theorem zh_next_item {a k1 k2 : Addr} {f : Bool} {oa : Obj} {x y : Value} {Q : Value → Shared → Prop} (D : ZipApart z TI TO i1 i2 l1 l2) (hz : ZHeld s.heap z TI TO a f) (ha : s.heap.get? a = some oa) (hTI : IsPair s.heap TI (.ref i1) (.ref i2))
    (h1 : s.heap.IsTupleIter i1 l1 k1) (h2 : s.heap.IsTupleIter i2 l2 k2) (hl1 : s.heap.IsTuple l1 xs) (hl2 : s.heap.IsTuple l2 ys) (hx : xs[k1]? = some x) (hy : ys[k2]? = some y)
    (hQ : ∀ h', ZHeld h' z TI TO a true → h'.IsTupleIter i1 l1 (k1 + 1) → h'.IsTupleIter i2 l2 (k2 + 1) → IsPair h' s.heap.objs.size x y → h'.objs.size = s.heap.objs.size + 1 →
      (∀ c o, c ≠ z → c ≠ i1 → c ≠ i2 → s.heap.get? c = some o → h'.get? c = some o) → Q (.ref s.heap.objs.size) { s with heap := h' }) :
    wpAny (model prog w) A (Builtin.«zip.__next__» ⟨[.ref z], []⟩) (fun fin s' => ∃ v, fin = .done (.ret v) ∧ Q v s') E s := by
  show wpAny _ _ (field (.ref z) 2 >>= _) _ _ _
  refine wpAny_bind (wpAny_field hz rfl (x := .bool false) rfl ?_)
  show wpAny _ _ (field (.ref z) 3 >>= _) _ _ _
  refine wpAny_bind (wpAny_field hz rfl (x := .ref TI) rfl ?_)
  refine wpAny_bind (wpAny_seqItems hTI rfl ?_)
  show wpAny _ _ (Builtin.SmallTypes.ownedTupleIsFree (.ref z) >>= _) _ _ _
  refine wpAny_bind (zh_free hz ha fun g1 hz1 hs1 => ?_)
  simp only [Bool.false_eq_true, if_false]
  refine wpAny_bind ?_
  first
  | rw [List.forIn_toArray]
  | (rw [← Array.forIn_toList]; simp only [List.toList_toArray])
  | rw [← Array.forIn_toList]
  simp only [List.forIn_cons, List.forIn_nil]
  refine wpAny_bind (wpAny_bind (wpAny_holding ?_))
  show wpAny _ _ (Builtin.SmallTypes.nextOf (.ref i1) >>= _) _ _ _
  refine wpAny_bind (RZ.nextOf_tuple_item (h1.extBut hs1.extBut D.i1z) (hl1.extBut hs1.extBut D.l1z) hx fun g2 h12 hs2 => wpAny_pure ?_)
  refine wpAny_pure ?_
  refine wpAny_bind (wpAny_bind (wpAny_holding ?_))
  show wpAny _ _ (Builtin.SmallTypes.nextOf (.ref i2) >>= _) _ _ _
  refine wpAny_bind (RZ.nextOf_tuple_item ((h2.extBut hs1.extBut D.i2z).extBut hs2.extBut D.i12.symm) ((hl2.extBut hs1.extBut D.l2z).extBut hs2.extBut D.l2i1) hy fun g3 h23 hs3 => wpAny_pure ?_)
  refine wpAny_pure (wpAny_pure ?_)
  have hsz : g3.objs.size = s.heap.objs.size := by rw [hs3.1, hs2.1, hs1.1]
  show wpAny _ _ (newTuple [x, y] >>= _) _ _ _
  refine wpAny_bind (wpAny_newTuple ?_)
  have hi1lt : i1 < g3.objs.size := by
    rw [hsz]
    obtain ⟨_, e, _⟩ := h1
    exact Heap.lt_size e
  have up : ∀ c o, g3.get? c = some o → (g3.push { cls := .type "tuple", data := .seq #[x, y] }).get? c = some o := fun c o e => Heap.get?_push_of_some _ e
  refine wpAny_pure ⟨_, rfl, ?_⟩
  show Q (.ref g3.objs.size) _
  have hT : IsPair (g3.push { cls := .type "tuple", data := .seq #[x, y] }) g3.objs.size x y := Heap.get?_push_size _ rfl
  have hz8 : (g3.push { cls := .type "tuple", data := .seq #[x, y] }).objs.size = g3.objs.size + 1 := Heap.size_push ..
  rw [hsz] at hT hz8 ⊢
  exact hQ _ (up _ _ (hs3.extBut _ _ D.i2z.symm (hs2.extBut _ _ D.i1z.symm hz1))) ((h12.extBut hs3.extBut D.i12).at fun o e => up _ o e) (h23.at fun o e => up _ o e) hT hz8 fun c o c1 c3 c4 e => up c o (hs3.extBut _ _ c4 (hs2.extBut _ _ c3 (hs1.extBut _ _ c1 e)))
theorem zh_next_end {a k1 k2 : Addr} {f : Bool} {oa : Obj} {Q : PySem.Fin → Shared → Prop} (hh : A.handled = none) (D : ZipApart z TI TO i1 i2 l1 l2) (hz : ZHeld s.heap z TI TO a f) (ha : s.heap.get? a = some oa) (hTI : IsPair s.heap TI (.ref i1) (.ref i2))
    (h1 : s.heap.IsTupleIter i1 l1 k1) (h2 : s.heap.IsTupleIter i2 l2 k2) (hl1 : s.heap.IsTuple l1 xs) (hl2 : s.heap.IsTuple l2 ys) (hend : xs[k1]? = none ∨ ys[k2]? = none)
    (hE : ∀ h' e, (∀ c o, c ≠ z → c ≠ i1 → c ≠ i2 → s.heap.get? c = some o → h'.get? c = some o) → (∃ o, h'.get? e = some o ∧ o.cls = .type "StopIteration") → E (.ref e) { s with heap := h' }) :
    wpAny (model prog w) A (Builtin.«zip.__next__» ⟨[.ref z], []⟩) Q E s := by
  show wpAny _ _ (field (.ref z) 2 >>= _) _ _ _
  refine wpAny_bind (wpAny_field hz rfl (x := .bool false) rfl ?_)
  show wpAny _ _ (field (.ref z) 3 >>= _) _ _ _
  refine wpAny_bind (wpAny_field hz rfl (x := .ref TI) rfl ?_)
  refine wpAny_bind (wpAny_seqItems hTI rfl ?_)
  show wpAny _ _ (Builtin.SmallTypes.ownedTupleIsFree (.ref z) >>= _) _ _ _
  refine wpAny_bind (zh_free hz ha fun g1 hz1 hs1 => ?_)
  simp only [Bool.false_eq_true, if_false]
  refine wpAny_bind ?_
  first
  | rw [List.forIn_toArray]
  | (rw [← Array.forIn_toList]; simp only [List.toList_toArray])
  | rw [← Array.forIn_toList]
  simp only [List.forIn_cons, List.forIn_nil]
  refine wpAny_bind (wpAny_bind (wpAny_holding ?_))
  show wpAny _ _ (Builtin.SmallTypes.nextOf (.ref i1) >>= _) _ _ _
  cases hx : xs[k1]? with
  | none =>
    exact wpAny_bind (RZ.nextOf_tuple_end hh (h1.extBut hs1.extBut D.i1z) (hl1.extBut hs1.extBut D.l1z) hx fun g2 e hs2 he => hE g2 e (fun c o c1 c3 _ q => hs2 _ _ c3 (hs1.extBut _ _ c1 q)) he)
  | some x =>
    have hy : ys[k2]? = none := by rcases hend with h | h; rw [hx] at h; cases h; exact h
    refine wpAny_bind (RZ.nextOf_tuple_item (h1.extBut hs1.extBut D.i1z) (hl1.extBut hs1.extBut D.l1z) hx fun g2 h12 hs2 => wpAny_pure ?_)
    refine wpAny_pure ?_
    refine wpAny_bind (wpAny_bind (wpAny_holding ?_))
    show wpAny _ _ (Builtin.SmallTypes.nextOf (.ref i2) >>= _) _ _ _
    exact wpAny_bind (RZ.nextOf_tuple_end hh ((h2.extBut hs1.extBut D.i2z).extBut hs2.extBut D.i12.symm) ((hl2.extBut hs1.extBut D.l2z).extBut hs2.extBut D.l2i1) hy fun g3 e hs3 he => hE g3 e (fun c o c1 c3 c4 q => hs3 _ _ c4 (hs2.extBut _ _ c3 (hs1.extBut _ _ c1 q))) he)
def ZSt (h : Heap) (z TI TO i1 i2 l1 l2 S : Addr) (i : Nat) : Prop :=
  IsPair h TI (.ref i1) (.ref i2) ∧ h.IsTupleIter i1 l1 i ∧ h.IsTupleIter i2 l2 i ∧ ((IsZip h z TI TO .none ∧ ∃ a b, IsPair h TO a b) ∨ ∃ (a : Addr) (f : Bool) (oa : Obj), ZHeld h z TI TO a f ∧ h.get? a = some oa ∧ S < a)
structure ZLow (z TI TO i1 i2 l1 l2 S : Addr) : Prop where
  z : z < S
  TI : TI < S
  TO : TO < S
  i1 : i1 < S
  i2 : i2 < S
  l1 : l1 < S
  l2 : l2 < S
theorem ZSt.keep {h h' : Heap} {S : Addr} {i : Nat} (L : ZLow z TI TO i1 i2 l1 l2 S) (x : ZSt h z TI TO i1 i2 l1 l2 S i) (hk : ∀ b o, b ≠ S → h.get? b = some o → h'.get? b = some o) : ZSt h' z TI TO i1 i2 l1 l2 S i := by
  obtain ⟨a1, a2, a3, a4⟩ := x
  refine ⟨hk _ _ (Nat.ne_of_lt L.TI) a1, a2.at fun o e => hk _ o (Nat.ne_of_lt L.i1) e, a3.at fun o e => hk _ o (Nat.ne_of_lt L.i2) e, ?_⟩
  rcases a4 with ⟨b1, a, b, b2⟩ | ⟨a, f, oa, b1, b2, b3⟩
  · exact .inl ⟨hk _ _ (Nat.ne_of_lt L.z) b1, a, b, hk _ _ (Nat.ne_of_lt L.TO) b2⟩
  · exact .inr ⟨a, f, oa, hk _ _ (Nat.ne_of_lt L.z) b1, hk _ _ (Nat.ne_of_gt b3) b2, b3⟩
theorem zs_item {S : Addr} {i : Nat} {x y : Value} {Q : Option Value → Shared → Prop} (D : ZipApart z TI TO i1 i2 l1 l2) (L : ZLow z TI TO i1 i2 l1 l2 S) (st : ZSt s.heap z TI TO i1 i2 l1 l2 S i) (hS : S < s.heap.objs.size)
    (hl1 : s.heap.IsTuple l1 xs) (hl2 : s.heap.IsTuple l2 ys) (hx : xs[i]? = some x) (hy : ys[i]? = some y)
    (hQ : ∀ h', ZSt h' z TI TO i1 i2 l1 l2 S (i + 1) → IsPair h' s.heap.objs.size x y → h'.objs.size = s.heap.objs.size + 1 →
      (∀ c o, c ≠ z → c ≠ TO → c ≠ i1 → c ≠ i2 → s.heap.get? c = some o → h'.get? c = some o) → Q (some (.ref s.heap.objs.size)) { s with heap := h' }) :
    wpAny (model prog w) A (pyNext (.ref z)) Q E s := by
  obtain ⟨hTI, h1, h2, ⟨hz, a, b, hTO⟩ | ⟨a, f, oa, hz, ha, haS⟩⟩ := st
  · refine RZ.pyNext_zipT_item D hz hTI hTO h1 h2 hl1 hl2 hx hy fun h' z' TO' h1' h2' hT hsz hk => hQ h' ⟨hk _ _ D.TIz D.TITO D.TIi1 D.TIi2 hTI, h1', h2', .inr ⟨s.heap.objs.size, false, _, z', hT, hS⟩⟩ hT hsz hk
  · have hT : s.TypeIs (.ref z) "zip" := ⟨_, hz, rfl⟩
    unfold pyNext
    exact wpAny_bind (wpAny_attempt (wpAny_callSpecial?_slot (name := Str.ofString "__next__") hT F.slot_zip_next
      (wpAny_call_entry F.slot_zip_next hT F.entry_zip_next
        (zh_next_item D hz ha hTI h1 h2 hl1 hl2 hx hy fun h' z' h1' h2' hT hsz hk => wpAny_pure (hQ h' ⟨hk _ _ D.TIz D.TIi1 D.TIi2 hTI, h1', h2', .inr ⟨a, true, oa, z',
          hk a oa (fun e => by subst e; exact absurd L.z (Nat.not_lt.mpr (Nat.le_of_lt haS))) (fun e => by subst e; exact absurd L.i1 (Nat.not_lt.mpr (Nat.le_of_lt haS))) (fun e => by subst e; exact absurd L.i2 (Nat.not_lt.mpr (Nat.le_of_lt haS))) ha, haS⟩⟩ hT hsz fun c o c1 _ c3 c4 e => hk c o c1 c3 c4 e)) (F.args_zip_next_1 _))))
theorem zs_done {S : Addr} {i : Nat} {Q : Option Value → Shared → Prop} (hh : A.handled = none) (D : ZipApart z TI TO i1 i2 l1 l2) (st : ZSt s.heap z TI TO i1 i2 l1 l2 S i)
    (hl1 : s.heap.IsTuple l1 xs) (hl2 : s.heap.IsTuple l2 ys) (hend : xs[i]? = none ∨ ys[i]? = none)
    (hQ : ∀ h', (∀ c o, c ≠ z → c ≠ TO → c ≠ i1 → c ≠ i2 → s.heap.get? c = some o → h'.get? c = some o) → Q none { s with heap := h' }) : wpAny (model prog w) A (pyNext (.ref z)) Q E s := by
  obtain ⟨hTI, h1, h2, ⟨hz, a, b, hTO⟩ | ⟨a, f, oa, hz, ha, haS⟩⟩ := st
  · exact RZ.pyNext_zipT_end hh D hz hTI hTO h1 h2 hl1 hl2 hend hQ
  · have hT : s.TypeIs (.ref z) "zip" := ⟨_, hz, rfl⟩
    unfold pyNext
    refine wpAny_bind (wpAny_attempt (wpAny_callSpecial?_slot (name := Str.ofString "__next__") hT F.slot_zip_next
      (wpAny_call_entry F.slot_zip_next hT F.entry_zip_next (zh_next_end hh D hz ha hTI h1 h2 hl1 hl2 hend fun h' e hk he => ?_) (F.args_zip_next_1 _))))
    obtain ⟨o, ho, hc⟩ := he
    refine wpAny_bind (wpAny_isInstance (T := "StopIteration") (b := true) ⟨o, ho, hc⟩ isSubtype_stop ?_)
    exact wpAny_pure (hQ _ fun c o c1 _ c3 c4 e => hk c o c1 c3 c4 e)
structure ZpG (xs ys : Array Value) (lo : Addr) (h : Heap) (as : List Addr) : Prop where
  rise : as.Pairwise (· < ·)
  above : ∀ a ∈ as, lo < a
  pairs : ∀ (j : Nat) (a : Addr), as[j]? = some a → ∃ x y, xs[j]? = some x ∧ ys[j]? = some y ∧ IsPair h a x y
theorem ZpG.there {lo : Addr} {h : Heap} {as : List Addr} (g : ZpG xs ys lo h as) {a : Addr} (ha : a ∈ as) : a < h.objs.size := by
  obtain ⟨j, hj⟩ := List.mem_iff_getElem?.mp ha
  obtain ⟨_, _, _, _, e⟩ := g.pairs j a hj
  exact Heap.lt_size e
end
section
variable {prog : Program} {w : World} {A : Around} {s : Shared} {R : Result → Shared → Prop} {z TI TO i1 i2 l1 l2 : Addr} {xs ys : Array Value}
theorem zp_loop {S : Addr} (hh : A.handled = none) (D : ZipApart z TI TO i1 i2 l1 l2) (L : ZLow z TI TO i1 i2 l1 l2 S) (n : Nat) (hn : n ≤ sizeLine) (hnx : n ≤ xs.size) (hny : n ≤ ys.size) (hnm : n = xs.size ∨ n = ys.size) (res : Value) {h₁ : Heap}
    (hR : ∀ h' tk acc c as, (∀ b o, b ≠ S → b ≠ z → b ≠ TO → b ≠ i1 → b ≠ i2 → h₁.get? b = some o → h'.get? b = some o) → h'.get? S = some { cls := .type "list", dict := none, data := .seq acc c, slots := #[] } → as.length = n → ZpG xs ys S h' as →
      acc.toList = as.map Value.ref → R (.ok (.ret res)) { s with heap := h', toks := tk }) :
    ∀ (k i : Nat) (h : Heap) (tk c : Nat) (acc : Array Value) (as : List Addr), n - i = k → i ≤ n → ZSt h z TI TO i1 i2 l1 l2 S i → h.IsTuple l1 xs → h.IsTuple l2 ys → (∀ b o, b ≠ S → b ≠ z → b ≠ TO → b ≠ i1 → b ≠ i2 → h₁.get? b = some o → h.get? b = some o) →
      h.get? S = some { cls := .type "list", dict := none, data := .seq acc c, slots := #[] } → acc.toList = as.map Value.ref → as.length = i → ZpG xs ys S h as →
      codeAny (model prog w) A (.builtin "list.extend.loop" ⟨[.ref S, .ref z, res], []⟩) R { s with heap := h, toks := tk } := by
  have nS : ∀ {c : Addr}, c < S → c ≠ S := fun h => Nat.ne_of_lt h
  intro k
  induction k with
  | zero =>
    intro i h tk c acc as hk hi hst p1 p2 hkeep hS hacc hal hG
    have hin : i = n := by omega
    refine codeAny_builtin PySem.F.entry_extend_loop ?_
    rw [Around.under_plainId PySem.F.plain_extend_loop _]
    show wpAny _ A.in1 (pyNext (.ref z) >>= _) _ _ _
    have hend : xs[i]? = none ∨ ys[i]? = none := by
      rcases hnm with e | e
      · exact .inl (by simp; omega)
      · exact .inr (by simp; omega)
    refine wpAny_bind (zs_done (s := { s with heap := h, toks := tk }) (A := A.in1) hh D hst p1 p2 hend fun h' he => ?_)
    refine wpAny_pure (hR h' tk acc c as (fun b o h1 h2 h3 h4 h5 e => he b o h2 h3 h4 h5 (hkeep b o h1 h2 h3 h4 h5 e)) (he S _ (nS L.z).symm (nS L.TO).symm (nS L.i1).symm (nS L.i2).symm hS) (by omega) ⟨hG.rise, hG.above, fun j a hj => ?_⟩ hacc)
    obtain ⟨x, y, e1, e2, e3⟩ := hG.pairs j a hj
    have up := hG.above a (List.mem_of_getElem? hj)
    have ne : ∀ {c : Addr}, c < S → a ≠ c := fun h => Nat.ne_of_gt (Nat.lt_trans h up)
    exact ⟨x, y, e1, e2, he a _ (ne L.z) (ne L.TO) (ne L.i1) (ne L.i2) e3⟩
  | succ k ih =>
    intro i h tk c acc as hk hi hst p1 p2 hkeep hS hacc hal hG
    have hlt : i < n := by omega
    obtain ⟨x, hx⟩ : ∃ p, xs[i]? = some p := ⟨xs[i], Array.getElem?_eq_getElem (by omega)⟩
    obtain ⟨y, hy⟩ : ∃ p, ys[i]? = some p := ⟨ys[i], Array.getElem?_eq_getElem (by omega)⟩
    have hsz : acc.size = i := by rw [← Array.length_toList, hacc, List.length_map, hal]
    have hSl : S < h.objs.size := Heap.lt_size hS
    refine codeAny_builtin PySem.F.entry_extend_loop ?_
    rw [Around.under_plainId PySem.F.plain_extend_loop _]
    show wpAny _ A.in1 (pyNext (.ref z) >>= _) _ _ _
    refine wpAny_bind (zs_item (s := { s with heap := h, toks := tk }) D L hst hSl p1 p2 hx hy fun h' hst' ht hz hkp => ?_)
    dsimp only at ht hz hkp ⊢
    have hS' := hkp S _ (nS L.z).symm (nS L.TO).symm (nS L.i1).symm (nS L.i2).symm hS
    have up : ∀ b o, b ≠ S → h'.get? b = some o → (h'.update S (Obj.mapSeq (·.push (Value.ref h.objs.size)))).get? b = some o := fun b o hb e => (Heap.get?_update_other _ _ (Ne.symm hb)).trans e
    show wpAny _ A.in1 (updateSeq S (·.push (Value.ref h.objs.size)) >>= _) _ _ _
    refine wpAny_bind ?_
    refine wpAny_updateSeq hS' rfl (wpAny_pure ⟨plainId_quiet PySem.F.plain_extend_loop _, ih (i + 1) _ tk _ (acc.push (Value.ref h.objs.size)) (as ++ [h.objs.size]) (by omega) hlt (hst'.keep L up)
      (p1.at fun o e => up l1 o (nS L.l1) (hkp l1 o D.l1z D.l1TO D.l1i1 D.l1i2 e)) (p2.at fun o e => up l2 o (nS L.l2) (hkp l2 o D.l2z D.l2TO D.l2i1 D.l2i2 e))
      (fun b o h1 h2 h3 h4 h5 e => up b o h1 (hkp b o h2 h3 h4 h5 (hkeep b o h1 h2 h3 h4 h5 e))) (Heap.get?_update_self _ hS' rfl) (by rw [Array.toList_push, hacc, List.map_append]; rfl) (by rw [List.length_append, hal]; rfl) ⟨?_, ?_, ?_⟩⟩) (by rw [hsz]; omega) (by show (acc.push (Value.ref h.objs.size)).size ≤ sizeLine + 1; rw [Array.size_push, hsz]; omega)
    · refine List.pairwise_append.mpr ⟨hG.rise, List.pairwise_singleton _ _, fun a ha b hb => ?_⟩
      rw [List.mem_singleton.mp hb]
      exact hG.there ha
    · intro a ha
      rcases List.mem_append.mp ha with ha | ha
      · exact hG.above a ha
      · rw [List.mem_singleton.mp ha]; exact hSl
    · intro j b hj
      rcases Nat.lt_trichotomy j as.length with q | q | q
      · rw [List.getElem?_append_left q] at hj
        obtain ⟨x', y', e1, e2, e3⟩ := hG.pairs j b hj
        have hb := hG.above b (List.mem_of_getElem? hj)
        have ne : ∀ {c : Addr}, c < S → b ≠ c := fun h => Nat.ne_of_gt (Nat.lt_trans h hb)
        exact ⟨x', y', e1, e2, up b _ (Nat.ne_of_gt hb) (hkp b _ (ne L.z) (ne L.TO) (ne L.i1) (ne L.i2) e3)⟩
      · subst q
        have hb : h.objs.size = b := by simpa using hj
        subst hb
        exact ⟨x, y, by rw [hal]; exact hx, by rw [hal]; exact hy, up _ _ (Nat.ne_of_gt hSl) ht⟩
      · have hnone : (as ++ [h.objs.size])[j]? = none := List.getElem?_eq_none (by rw [List.length_append, List.length_singleton]; omega)
        rw [hnone] at hj; cases hj
end

section
variable {prog : Program} {w : World} {A : Around} {E : Value → Shared → Prop} {s : Shared} {z TI TO i1 i2 l1 l2 : Addr} {xs ys : Array Value}
theorem call_listZ {a b : Value} {Q : Value → Shared → Prop} (hh : A.handled = none) (D : ZipApart z TI TO i1 i2 l1 l2) (L : ZLow z TI TO i1 i2 l1 l2 s.heap.objs.size) (hz : IsZip s.heap z TI TO .none) (hTI : IsPair s.heap TI (.ref i1) (.ref i2)) (hTO : IsPair s.heap TO a b)
    (h1 : s.heap.IsTupleIter i1 l1 0) (h2 : s.heap.IsTupleIter i2 l2 0) (hl1 : s.heap.IsTuple l1 xs) (hl2 : s.heap.IsTuple l2 ys) (n : Nat) (hn : n ≤ sizeLine) (hnx : n ≤ xs.size) (hny : n ≤ ys.size) (hnm : n = xs.size ∨ n = ys.size)
    (hQ : ∀ h' tk acc c as, (∀ b o, b ≠ z → b ≠ TO → b ≠ i1 → b ≠ i2 → s.heap.get? b = some o → h'.get? b = some o) → h'.get? s.heap.objs.size = some { cls := .type "list", dict := none, data := .seq acc c, slots := #[] } → as.length = n → ZpG xs ys s.heap.objs.size h' as →
      acc.toList = as.map Value.ref → Q (.ref s.heap.objs.size) { s with heap := h', toks := tk }) :
    wpAny (model prog w) A (call (.type "list") [.ref z]) Q E s := by
  refine callType_codes (Q₁ := fun obj s₁ => obj = .ref s.heap.objs.size ∧ s₁ = { s with heap := s.heap.push { cls := .type "list", data := .seq #[] } }) PySem.F.called_list (PySem.F.typeCall_list_1 _) PySem.F.entry_list_init
    (code_list_new _ ⟨rfl, rfl⟩) fun obj s₁ q => ?_
  obtain ⟨rfl, rfl⟩ := q
  have hS : (s.heap.push { cls := .type "list", data := .seq #[] }).get? s.heap.objs.size = some { cls := .type "list", data := .seq #[] } := Heap.get?_push_size _ rfl
  refine ⟨⟨_, hS, rfl⟩, PySem.F.args_list_init_2 _ _, ?_⟩
  generalize hSe : s.heap.objs.size = S at *
  show wpAny _ _ (do let old ← Builtin.List.listItems (.ref S); Builtin.List.listUpdate (.ref S) (fun _ => #[]); letGo old.toList.reverse; Builtin.List.listExtendWith (.ref S) (.ref z) .none) _ _ _
  refine wpAny_bind ?_
  unfold Builtin.List.listItems
  refine wpAny_bind (wpAny_seqItems hS rfl (wpAny_pure ?_))
  show wpAny _ _ (updateSeq S (fun _ => #[]) >>= fun _ => letGo (#[] : Array Value).toList.reverse >>= fun _ => Builtin.List.listExtendWith (.ref S) (.ref z) .none) _ _ _
  refine wpAny_bind (wpAny_updateSeq hS rfl ?_)
  have hS2 := Heap.get?_update_self (Obj.mapSeq (fun _ => (#[] : Array Value))) hS rfl
  have oth0 : ∀ b o, b ≠ S → s.heap.get? b = some o → ((s.heap.push { cls := .type "list", data := .seq #[] }).update S (Obj.mapSeq (fun _ => (#[] : Array Value)))).get? b = some o :=
    fun b o hb e => (Heap.get?_update_other _ _ (Ne.symm hb)).trans (Heap.get?_push_of_some _ e)
  generalize (s.heap.push { cls := .type "list", data := .seq #[] }).update S (Obj.mapSeq (fun _ => (#[] : Array Value))) = g at hS2 oth0 ⊢
  refine wpAny_bind (wpAny_letGo ?_)
  have zg : IsZip g z TI TO .none := oth0 _ _ (Nat.ne_of_lt L.z) hz
  have hT : Shared.TypeIs { s with heap := g } (.ref z) "zip" := ⟨_, zg, rfl⟩
  unfold Builtin.List.listExtendWith
  refine wpAny_bind (wpAny_typeOf hT ?_)
  have q1 : Builtin.List.listSameRef (.ref S) (.ref z) = false := by simp [Builtin.List.listSameRef, Nat.ne_of_gt L.z]
  have q2 : (Value.type "zip" == Value.type "list") = false := by decide
  have q3 : (Value.type "zip" == Value.type "tuple") = false := by decide
  simp only [q1, q2, q3, Bool.or_false, Bool.false_eq_true, if_false]
  refine wpAny_bind (wpAny_pyIter_zip zg ?_)
  refine wpAny_bind (wpAny_holding ?_)
  unfold Builtin.List.listLengthHint
  refine wpAny_bind (wpAny_specialOf hT nolenZ ?_)
  show wpAny _ _ (specialOf (Value.ref z) (Str.ofString "__length_hint__") >>= _) _ _ _
  refine wpAny_bind (wpAny_specialOf hT nohintZ ?_)
  refine wpAny_pure ?_
  show wpAny _ _ (rule "list.extend.makes-room" >>= fun _ => Builtin.List.listTouch (.ref S) >>= fun _ => again (.builtin "list.extend.loop" ⟨[.ref S, .ref z, .none], []⟩)) _ _ _
  refine wpAny_bind (wpAny_rule ?_)
  refine wpAny_bind ?_
  show wpAny _ _ (updateSeq S (·.push .none) >>= fun _ => updateSeq S (·.pop)) _ _ _
  refine wpAny_bind (wpAny_updateSeq hS2 rfl ?_)
  have hS3 := Heap.get?_update_self (Obj.mapSeq (·.push Value.none)) hS2 rfl
  refine wpAny_updateSeq (hz := by seq_fits) hS3 rfl ?_
  have hS4 := Heap.get?_update_self (Obj.mapSeq (·.pop)) hS3 rfl
  have oth : ∀ b o, b ≠ S → s.heap.get? b = some o → ((g.update S (Obj.mapSeq (·.push Value.none))).update S (Obj.mapSeq (·.pop))).get? b = some o :=
    fun b o hb e => (Heap.get?_update_other _ _ (Ne.symm hb)).trans ((Heap.get?_update_other _ _ (Ne.symm hb)).trans (oth0 b o hb e))
  refine wpAny_pure ⟨plainId_quiet PySem.F.plain_extend_loop _, zp_loop (A := A.in1) (s := s) (h₁ := s.heap) hh D L n hn hnx hny hnm .none (fun h' tk acc c as hk hS' hl hG hacc => ?_) n 0 _ _ _ #[] [] (Nat.sub_zero _) (Nat.zero_le _) ⟨oth _ _ (Nat.ne_of_lt L.TI) hTI, h1.at fun o e => oth _ o (Nat.ne_of_lt L.i1) e, h2.at fun o e => oth _ o (Nat.ne_of_lt L.i2) e, .inl ⟨oth _ _ (Nat.ne_of_lt L.z) hz, a, b, oth _ _ (Nat.ne_of_lt L.TO) hTO⟩⟩
    (hl1.at fun o e => oth _ o (Nat.ne_of_lt L.l1) e) (hl2.at fun o e => oth _ o (Nat.ne_of_lt L.l2) e) (fun b o hb _ _ _ _ e => oth b o hb e) hS4 rfl rfl ⟨List.Pairwise.nil, (fun _ ha => nomatch ha), (fun j a hj => by simp at hj)⟩⟩
  refine ⟨rfl, hQ h' tk acc c as (fun b o k1 k2 k3 k4 e => hk b o (fun q => ?_) k1 k2 k3 k4 e) hS' hl hG hacc⟩
  subst q
  rw [← hSe] at e
  exact absurd (Heap.lt_size e) (Nat.lt_irrefl _)
end
section
variable {X : Cx}
theorem laid_zip {pins : List (Addr × Obj)} {σ : L2.St} {H : Hp} {s : Shared} {h' : Heap} {tk c : Nat} {xs ys : List V} {us ws : Array Value} {acc : Array Value} {as : List Addr} {S : Addr} (I : Inv X pins σ H s) (rx : Vals xs us.toList) (ry : Vals ys ws.toList) (hz : as.length ≤ sizeLine)
    (hk : ∀ b o, s.heap.get? b = some o → h'.get? b = some o) (hS0 : s.heap.objs.size ≤ S) (hS : h'.get? S = some { cls := .type "list", dict := none, data := .seq acc c, slots := #[] }) (hl : as.length = min xs.length ys.length) (hG : ZpG us ws S h' as) (hacc : acc.toList = as.map Value.ref) :
    ∃ H' : Hp, (∀ b o, H b = some o → H' b = some o) ∧ H S = none ∧ H' S = some (.lst (as.map V.ref)) ∧ Paired (fun (t : Addr) (q : V × V) => H' t = some (.tup [q.1, q.2])) as (List.zip xs ys) ∧ Inv X pins σ H' { s with heap := h', toks := tk } := by
  have hSn : S ∉ as := fun z => Nat.lt_irrefl _ (hG.above _ z)
  have nd : as.Nodup := List.Pairwise.imp (fun {a b} (h : a < b) => Nat.ne_of_lt h) hG.rise
  have new : ∀ t ∈ as, H t = none := fun t ht => I.hok.fresh (Nat.le_trans hS0 (Nat.le_of_lt (hG.above t ht)))
  have newS : H S = none := I.hok.fresh hS0
  have ex : ∃ H' : Hp, H' S = some (.lst (as.map V.ref)) ∧ Paired (fun (t : Addr) (q : V × V) => H' t = some (.tup [q.1, q.2])) as (List.zip xs ys) ∧ ∀ b, b ∉ as → b ≠ S → H' b = H b := by
    have hl' : as.length = (List.zip xs ys).length := by rw [List.length_zip]; exact hl
    clear hl hacc hz
    have gen : ∀ (as : List Addr) (qs : List (V × V)) (H0 : Hp), as.length = qs.length → as.Nodup → ∃ H' : Hp, Paired (fun (t : Addr) (q : V × V) => H' t = some (.tup [q.1, q.2])) as qs ∧ ∀ b, b ∉ as → H' b = H0 b := by
      intro as
      induction as with
      | nil =>
        intro qs H0 e _
        cases qs with
        | nil => exact ⟨H0, .nil, fun _ _ => rfl⟩
        | cons _ _ => cases e
      | cons a as ih =>
        intro qs H0 e n
        cases qs with
        | nil => cases e
        | cons q qs =>
          have n' := List.nodup_cons.mp n
          obtain ⟨H', p, o⟩ := ih qs (upd H0 a (.tup [q.1, q.2])) (Nat.succ.inj e) n'.2
          exact ⟨H', .cons (by rw [o a n'.1, upd_same]) p, fun b hb => by rw [o b (fun z => hb (List.mem_cons_of_mem _ z)), upd_ne (fun z => hb (by rw [z]; exact List.mem_cons_self))]⟩
    obtain ⟨H', p, o⟩ := gen as (List.zip xs ys) (upd H S (.lst (as.map V.ref))) hl' nd
    exact ⟨H', by rw [o S hSn, upd_same], p, fun b h1 h2 => by rw [o b h1, upd_ne h2]⟩
  obtain ⟨H', eS, atP, off⟩ := ex
  have low : ∀ b o, s.heap.get? b = some o → b ∉ as ∧ b ≠ S := fun b o e => ⟨fun z => absurd (Heap.lt_size e) (Nat.not_lt.mpr (Nat.le_trans hS0 (Nat.le_of_lt (hG.above b z)))), Nat.ne_of_lt (Nat.lt_of_lt_of_le (Heap.lt_size e) hS0)⟩
  have kp : ∀ b u, H b = some u → H' b = some u := fun b u e => by
    rw [off b (fun z => by rw [new b z] at e; cases e) (fun z => by rw [z, newS] at e; cases e)]
    exact e
  refine ⟨H', kp, newS, eS, atP, ?_⟩
  refine I.call' (ch := []) rfl ⟨fun b o q _ _ _ => hk b o q, fun b o q _ _ _ => ⟨o.slots, hk b o q⟩, fun b o q n _ => ?_, fun b o q _ => ⟨o, hk b o q⟩, fun b xs q => kp b _ q, fun b o u q => kp b _ q, fun b ps q => ⟨#[], by rw [kp b _ q]; simp⟩⟩ (fun b u q => ?_) I.bare fun b z => by simp at z
  · obtain ⟨z1, z2⟩ := low b o q
    rw [off b z1 z2]
    exact n
  · by_cases hb : b ∈ as
    · obtain ⟨j, pk, e1, e2, e3⟩ := LiI.paired_ix atP hb
      rw [e3] at q
      cases q
      obtain ⟨x, y, f1, f2, f3⟩ := hG.pairs j b e1
      have e2' : xs[j]? = some pk.1 ∧ ys[j]? = some pk.2 := List.getElem?_zip_eq_some.mp e2
      obtain ⟨u, g1, r1⟩ := rx.get e2'.1
      obtain ⟨u2, g2, r2⟩ := ry.get e2'.2
      rw [Array.getElem?_toList, f1] at g1
      rw [Array.getElem?_toList, f2] at g2
      cases g1
      cases g2
      exact ⟨by show 2 ≤ sizeLine; decide, [x, y], .cons r1 (.cons r2 .nil), ⟨_, f3, rfl, _, rfl⟩⟩
    · by_cases hb2 : b = S
      · rw [hb2] at q ⊢
        rw [eS] at q
        cases q
        refine ⟨by rw [List.length_map]; exact hz, acc.toList, c, by rw [hacc]; exact LiI.vals_refs as, ?_⟩
        rw [Array.toArray_toList]
        exact hS
      · rw [off b hb hb2] at q
        exact (I.hok b u q).stay (fun d v _ y => hk d v y) (fun d y => kp d _ y) fun d xs y => kp d _ y
def rZipL (K : PySem.W.Frag) : List V → Hp → VK → Prop := fun vs H Q => ∃ (a b : Addr) (xs ys : List V), vs = [.ref a, .ref b] ∧ SqT K H a xs ∧ SqT K H b ys ∧
  ∀ (H' : Hp) (p : Addr) (ts : List Addr), (∀ b o, H b = some o → H' b = some o) → H p = none → H' p = some (.lst (ts.map V.ref)) → Paired (fun (t : Addr) (q : V × V) => H' t = some (.tup [q.1, q.2])) ts (List.zip xs ys) → Q (.ref p) H'
theorem pe_listZip {e e2 : Expr} {ta : TA} {p p2 pos2 pos : Pos} (hc : X.calm = true) (hg : Gl X "zip") (hm : X.mg "zip" = none) (hgL : Gl X "list") (hmL : X.mg "list" = none) (hvL : bootBuiltins "list" = some (.type "list")) (ha : PA X [e, e2] ta)
    (hs : starEach [e, e2] X.env = (false, eval e X.env) :: starEach [e2] X.env) (hpl : (backTo pos2 (starEach [e2] X.env)).any (·.1) = false)
    (hs2 : starEach [.Call (.Name "zip" p2) [e, e2] [] pos2] X.env = (false, eval (.Call (.Name "zip" p2) [e, e2] [] pos2) X.env) :: starEach [] X.env) :
    PE X (.Call (.Name "list" p) [.Call (.Name "zip" p2) [e, e2] [] pos2] [] pos) (fun σ H Q => ta σ H fun vs H1 => rZipL X.K vs H1 Q) := by
  refine ⟨fun pins s σ H Q I hq => ?_⟩
  refine wpAny_Call_Name_kw (ld_blt I hgL hmL hvL ?_)
  refine PyProof.Rows.callWith_type1 ?_ hs2 rfl
  rw [hs2]
  show wpAny _ _ (spliced ((false, eval (.Call (.Name "zip" p2) [e, e2] [] pos2) X.env) :: backTo pos (starEach [] X.env))) _ _ s
  refine Calls.spliced_cons ?_
  refine Call_ (ld_blt I hg hm PyProof.Rows.boot_zip (PyProof.Rows.callWith_type1 (thn (ha.run pos2 pins s σ H _ I hq) fun us s1 ⟨vs, H1, I1, r1, q1⟩ => ?_) hs hpl))
  obtain ⟨a, b, xs, ys, ex, hqx, hqy, q⟩ := q1
  subst ex
  cases r1 with
  | cons r rr =>
    cases rr with
    | cons r' rr =>
      cases rr
      cases r
      cases r'
      obtain ⟨its, rv, p1, z1⟩ := I1.tuple hqx
      obtain ⟨its2, rv2, p2, z2⟩ := I1.tuple hqy
      obtain ⟨o1, ho1, _⟩ := id p1
      obtain ⟨o2, ho2, _⟩ := id p2
      refine RZ.call_zipT (show s1.heap.IsTuple a its.toArray from p1) (show s1.heap.IsTuple b its2.toArray from p2) fun g hz hTI hTO k1 k2 hsz hk => ?_
      refine Calls.spliced_nil ?_
      have n1 : its.toArray.size = xs.length := by rw [List.size_toArray, rv.length]
      have n2 : its2.toArray.size = ys.length := by rw [List.size_toArray, rv2.length]
      have la : a < s1.heap.objs.size := Heap.lt_size ho1
      have lb : b < s1.heap.objs.size := Heap.lt_size ho2
      refine call_listZ (s := { s1 with heap := g }) (I1.ok.hd hc) (PySem.W.ktu_apart s1.heap.objs.size a b la lb) ?_ hz hTI hTO k1 k2 (Heap.IsTuple.at p1 fun o e => hk _ o e) (Heap.IsTuple.at p2 fun o e => hk _ o e) (min xs.length ys.length) (by omega) (by omega) (by omega) (by omega) fun h' tk acc c as hk2 hS hl hG hacc => ?_
      · have q : ∀ k : Nat, k < 5 → s1.heap.objs.size + k < g.objs.size := fun k hk => by rw [hsz]; exact Nat.add_lt_add_left hk _
        have q' : ∀ c : Addr, c < s1.heap.objs.size → c < g.objs.size := fun c hc => by rw [hsz]; exact Nat.lt_of_lt_of_le hc (Nat.le_add_right _ _)
        exact ⟨q 4 (by decide), q 2 (by decide), q 3 (by decide), q 0 (by decide), q 1 (by decide), q' a la, q' b lb⟩
      · have I2 : Inv X pins σ H1 { s1 with heap := g } := I1.kept (t' := s1.toks) hk
        have up : ∀ c o, s1.heap.get? c = some o → h'.get? c = some o := fun c o e => by
          have := Heap.lt_size e
          have ne : ∀ k : Nat, c ≠ s1.heap.objs.size + k := fun k => Nat.ne_of_lt (Nat.lt_of_lt_of_le this (Nat.le_add_right _ _))
          exact hk2 c o (ne 4) (ne 3) (ne 0) (ne 1) (hk c o e)
        obtain ⟨H', kp, newS, eS, atP, J⟩ := laid_zip (tk := tk) I1 (us := its.toArray) (ws := its2.toArray) (by simpa using rv) (by simpa using rv2) (by omega) up (by show s1.heap.objs.size ≤ g.objs.size; rw [hsz]; omega) hS hl hG hacc
        exact ⟨.ref _, H', J, rfl, q H' _ as kp newS eS atP⟩
end
def dLz (r : DTA) : DTE := fun e M Q E => r e M (fun ds M1 => match ds with
  | [x, y] => ∃ xs ys, tuD x = some xs ∧ tuD y = some ys ∧ ∀ p, M1 p = none → Q (.ref p) (wr M1 p (.lst ((zipD xs ys).map D.tup)))
  | _ => False) E
theorem isL_zip {K : PySem.W.Frag} {H H' : Hp} (x : Ext K H H') : ∀ {xs ys : List D} {vs ws : List V} {ts : List Addr}, IsL K H xs vs → IsL K H ys ws → Paired (fun (t : Addr) (q : V × V) => H' t = some (.tup [q.1, q.2])) ts (List.zip vs ws) → IsL K H' ((zipD xs ys).map D.tup) (ts.map V.ref)
  | [], _, _, _, _, h, _, p => by
    rw [isL_nil] at h
    subst h
    cases p
    exact isL_nil.mpr rfl
  | _ :: _, [], _, _, _, h, g, p => by
    rw [isL_nil] at g
    subst g
    rw [isL_cons] at h
    obtain ⟨v, r, rfl, i, l⟩ := h
    cases p
    exact isL_nil.mpr rfl
  | d :: xs, d2 :: ys, vs, ws, ts, h, g, p => by
    rw [isL_cons] at h g
    obtain ⟨v, r, rfl, i, l⟩ := h
    obtain ⟨v2, r2, rfl, i2, l2⟩ := g
    rw [List.zip_cons_cons] at p
    cases p with
    | cons e t =>
      refine IsL.mk ?_ (isL_zip x l l2 t)
      exact is_tup.mpr ⟨_, _, rfl, e, IsL.mk (Is.ext x _ _ i) (IsL.mk (Is.ext x _ _ i2) (isL_nil.mpr rfl))⟩
theorem de_listZip {g : Gd} {x y : Expr} {p p2 pos2 pos : Pos} {r : DTA} (hc : g.X.calm = true) (hg : Gl g.X "zip") (hm : g.X.mg "zip" = none) (hgL : Gl g.X "list") (hmL : g.X.mg "list" = none) (h : DA g [x, y] r) (n1 : isStar x = false) (n2 : isStar y = false) :
    DE g (.Call (.Name "list" p) [.Call (.Name "zip" p2) [x, y] [] pos2] [] pos) (dLz r) := by
  obtain ⟨ta, pa, ka⟩ := h.pa
  refine DE.of (pe_listZip hc hg hm hgL hmL rfl pa (star_cons n1) (by rw [star_cons n2]; rfl) rfl) fun σ H e M Q sl mr fr q => ?_
  refine ka σ H e M _ _ sl mr fr q fun ds vs M1 H1 l m f q => ?_
  match ds, q with
  | [x, y], q =>
    rw [isL_cons] at l
    obtain ⟨v, rv, rfl, i, l⟩ := l
    rw [isL_cons] at l
    obtain ⟨u, ru, rfl, j, l⟩ := l
    rw [isL_nil] at l
    subst l
    obtain ⟨xs, ys, e1, e2, q⟩ := q
    obtain ⟨a, vs, rfl, s1, l1, t1⟩ := tuD_sq e1 i
    obtain ⟨b, ws, rfl, s2, l2, t2⟩ := tuD_sq e2 j
    refine ⟨a, b, vs, ws, rfl, s1, s2, fun H' p ts kp hp hS pr => ?_⟩
    have f1 : Fr M1 H1 (wr M1 p (.lst ((zipD xs ys).map D.tup))) H' := ⟨fun b o hb n => ⟨kp _ _ hb, by rw [wr_ne (ne_of_none hb hp)]; exact n⟩, (fr_more (M := M1) kp).there⟩
    have x1 : Ext g.X.K H1 H' := (fr_more (M := M1) kp).ext m
    have m1 : MRel g.X.K (wr M1 p (.lst ((zipD xs ys).map D.tup))) H' := fun a o e => by
      by_cases z : a = p
      · subst z
        rw [wr_same] at e
        cases e
        exact ⟨_, hS, isL_zip x1 l1 l2 pr⟩
      · rw [wr_ne z] at e
        exact mr_more m kp a o e
    exact lowQ.mk (is_ref.mpr rfl) m1 (f.trans f1) (q p (m.none_of hp))
end DL

namespace DL
open PySem PySem.Spec PyProof.Rows L2
theorem compTurn2D_out (kx vx t0 i0 t1 i1 : Expr) (ifs0 ifs1 : List Expr) (scope : Scope) (pos : Pos) (it : Value) (D : Addr) (env : Env) :
    compTurn (.DictComp kx vx [⟨t0, i0, ifs0, 0⟩, ⟨t1, i1, ifs1, 0⟩] scope pos) 0 it (.ref D) env = (do
      standAt i0.pos
      match ← pyNext it with
      | none => pure (.done .next)
      | some v =>
        letOwnedTupleGo t0 it v
        assign t0 env v
        let mut ok := true
        for c in ifs0 do
          if ok then ok ← isTrue c env (eval c env)
        if ok then
          let x ← eval i1 env
          standAt i1.pos
          let x ← foldedSetIterable i1 env x
          let _ ← runOwn (.compStart (.DictComp kx vx [⟨t0, i0, ifs0, 0⟩, ⟨t1, i1, ifs1, 0⟩] scope pos) 1 (← holding [x] (pyIter x)) (.ref D) env) env
        again (.compLoop (.DictComp kx vx [⟨t0, i0, ifs0, 0⟩, ⟨t1, i1, ifs1, 0⟩] scope pos) 0 it (.ref D) env)) := by rfl
theorem compTurn2D_in (kx vx t0 i0 t1 i1 : Expr) (ifs0 ifs1 : List Expr) (scope : Scope) (pos : Pos) (it : Value) (D : Addr) (env : Env) :
    compTurn (.DictComp kx vx [⟨t0, i0, ifs0, 0⟩, ⟨t1, i1, ifs1, 0⟩] scope pos) 1 it (.ref D) env = (do
      standAt i1.pos
      match ← pyNext it with
      | none => pure (.done .next)
      | some v =>
        letOwnedTupleGo t1 it v
        assign t1 env v
        let mut ok := true
        for c in ifs1 do
          if ok then ok ← isTrue c env (eval c env)
        if ok then
          (do
            let kv ← eval kx env
            let vv ← holding [kv] (eval vx env)
            standAt { kx.pos with endLine := vx.pos.endLine, endCol := vx.pos.endCol }
            holding [kv, vv] (dictSet D kv vv))
        again (.compLoop (.DictComp kx vx [⟨t0, i0, ifs0, 0⟩, ⟨t1, i1, ifs1, 0⟩] scope pos) 1 it (.ref D) env)) := by rfl

section
variable {prog : Program} {w : World} {A : Around} {R : Result → Shared → Prop} {s : Shared} {kx vx t0 i0 t1 i1 : Expr} {ifs0 ifs1 : List Expr} {scope : Scope} {pos : Pos} {it : Value} {D : Addr} {env : Env}
theorem compLoop2D_out (hs : ∀ x, foldedSetIterable i1 env x = pure x) (I : Nat → Shared → Prop)
    (turn : ∀ n s, I n s → wpAny (model prog w) A (pyNext it) (fun r z₁ => match r with
      | none => R (.ok .next) z₁
      | some v => wpAny (model prog w) A (letOwnedTupleGo t0 it v) (fun _ z₁' => wpAny (model prog w) A (assign t0 env v) (fun _ z₂ =>
          wpAny (model prog w) A (forIn ifs0 true fun c r => if r = true then do let ok ← isTrue c env (eval c env); pure (ForInStep.yield ok) else pure (ForInStep.yield r)) (fun ok z₃ =>
            if ok = true then wpAny (model prog w) A (eval i1 env) (fun x z₄ => wpAny (model prog w) A (pyIter x) (fun it1 z₅ =>
              codeAny (model prog w) A (.compStart (.DictComp kx vx [⟨t0, i0, ifs0, 0⟩, ⟨t1, i1, ifs1, 0⟩] scope pos) 1 it1 (.ref D) env) (fun r s' => match r with
                | .ok _ => ∃ m, m < n ∧ I m s'
                | .error _ => False) z₅) (notedBy (model prog w) A env fun e s' => R (.error e) s') z₄) (notedBy (model prog w) A env fun e s' => R (.error e) s') z₃
            else ∃ m, m < n ∧ I m z₃) (notedBy (model prog w) A env fun e s' => R (.error e) s') z₂) (notedBy (model prog w) A env fun e s' => R (.error e) s') z₁') (notedBy (model prog w) A env fun e s' => R (.error e) s') z₁) (notedBy (model prog w) A env fun e s' => R (.error e) s') s)
    (n : Nat) (h : I n s) :
    codeAny (model prog w) A (.compLoop (.DictComp kx vx [⟨t0, i0, ifs0, 0⟩, ⟨t1, i1, ifs1, 0⟩] scope pos) 0 it (.ref D) env) R s := by
  refine codeAny_loop rfl I (fun n s hI => ?_) n h
  show wpAny _ A ((compTurn (.DictComp kx vx [⟨t0, i0, ifs0, 0⟩, ⟨t1, i1, ifs1, 0⟩] scope pos) 0 it (.ref D) env).onRaise (fun x => do noteFrame x env; theTreesLotGoes x)) _ _ s
  refine wpAny_noted ?_
  rw [compTurn2D_out]
  refine wpAny_bind (wpAny_standAt (wpAny_bind (wpAny_mono (turn n s hI) (fun r z₁ k₁ => ?_) fun _ _ h' => h')))
  cases r with
  | none => exact wpAny_pure k₁
  | some v =>
    refine wpAny_bind (wpAny_mono k₁ (fun _ z₁' k₁' => ?_) fun _ _ h' => h')
    refine wpAny_bind (wpAny_mono k₁' (fun _ z₂ k₂ => wpAny_bind (wpAny_mono k₂ (fun ok z₃ k₃ => ?_) fun _ _ h' => h')) fun _ _ h' => h')
    cases ok with
    | false => exact wpAny_pure ⟨rfl, k₃⟩
    | true =>
      refine wpAny_bind (wpAny_mono k₃ (fun x z₄ k₄ => ?_) fun _ _ h' => h')
      refine wpAny_bind (wpAny_standAt (wpAny_bind (wpAny_of_eq (hs x) (wpAny_bind (wpAny_holding (wpAny_mono k₄ (fun it1 z₅ k₅ => ?_) fun _ _ h' => h'))))))
      refine wpAny_bind (wpAny_runOwn ?_)
      rw [Around.mark_none]
      refine codeAny_mono k₅ fun r s' hr => ?_
      cases r with
      | ok f =>
        first
          | exact wpAny_pure ⟨rfl, hr⟩
          | exact wpAny_bind (wpAny_pure (wpAny_pure ⟨rfl, hr⟩))
      | error e => exact hr.elim
theorem compLoop2D_in (I : Nat → Shared → Prop)
    (turn : ∀ n s, I n s → wpAny (model prog w) A (pyNext it) (fun r z₁ => match r with
      | none => R (.ok .next) z₁
      | some v => wpAny (model prog w) A (letOwnedTupleGo t1 it v) (fun _ z₁' => wpAny (model prog w) A (assign t1 env v) (fun _ z₂ =>
          wpAny (model prog w) A (forIn ifs1 true fun c r => if r = true then do let ok ← isTrue c env (eval c env); pure (ForInStep.yield ok) else pure (ForInStep.yield r)) (fun ok z₃ =>
            if ok = true then wpAny (model prog w) A (eval kx env) (fun kv z₄ => wpAny (model prog w) A (eval vx env) (fun vv z₅ =>
              wpAny (model prog w) A (dictSet D kv vv) (fun _ z₆ => ∃ m, m < n ∧ I m z₆) (notedBy (model prog w) A env fun e s' => R (.error e) s') z₅) (notedBy (model prog w) A env fun e s' => R (.error e) s') z₄) (notedBy (model prog w) A env fun e s' => R (.error e) s') z₃
            else ∃ m, m < n ∧ I m z₃) (notedBy (model prog w) A env fun e s' => R (.error e) s') z₂) (notedBy (model prog w) A env fun e s' => R (.error e) s') z₁') (notedBy (model prog w) A env fun e s' => R (.error e) s') z₁) (notedBy (model prog w) A env fun e s' => R (.error e) s') s)
    (n : Nat) (h : I n s) :
    codeAny (model prog w) A (.compLoop (.DictComp kx vx [⟨t0, i0, ifs0, 0⟩, ⟨t1, i1, ifs1, 0⟩] scope pos) 1 it (.ref D) env) R s := by
  refine codeAny_loop rfl I (fun n s hI => ?_) n h
  show wpAny _ A ((compTurn (.DictComp kx vx [⟨t0, i0, ifs0, 0⟩, ⟨t1, i1, ifs1, 0⟩] scope pos) 1 it (.ref D) env).onRaise (fun x => do noteFrame x env; theTreesLotGoes x)) _ _ s
  refine wpAny_noted ?_
  rw [compTurn2D_in]
  refine wpAny_bind (wpAny_standAt (wpAny_bind (wpAny_mono (turn n s hI) (fun r z₁ k₁ => ?_) fun _ _ h' => h')))
  cases r with
  | none => exact wpAny_pure k₁
  | some v =>
    refine wpAny_bind (wpAny_mono k₁ (fun _ z₁' k₁' => ?_) fun _ _ h' => h')
    refine wpAny_bind (wpAny_mono k₁' (fun _ z₂ k₂ => wpAny_bind (wpAny_mono k₂ (fun ok z₃ k₃ => ?_) fun _ _ h' => h')) fun _ _ h' => h')
    cases ok with
    | false => exact wpAny_pure ⟨rfl, k₃⟩
    | true =>
      exact wpAny_bind (wpAny_bind (wpAny_mono k₃ (fun kv z₄ k₄ => wpAny_bind (wpAny_holding (wpAny_mono k₄ (fun vv z₅ k₅ => wpAny_bind (wpAny_standAt (wpAny_holding (wpAny_mono k₅ (fun _ z₆ k₆ => wpAny_pure ⟨rfl, k₆⟩) fun _ _ h' => h')))) fun _ _ h' => h'))) fun _ _ h' => h'))
theorem compStart1D_ok (h0 : codeAny (model prog w) A (.compLoop (.DictComp kx vx [⟨t0, i0, ifs0, 0⟩, ⟨t1, i1, ifs1, 0⟩] scope pos) 1 it (.ref D) env) R s)
    (h : wpAny (model prog w) A (pyIter it) (fun it' s' => codeAny (model prog w) A (.compLoop (.DictComp kx vx [⟨t0, i0, ifs0, 0⟩, ⟨t1, i1, ifs1, 0⟩] scope pos) 1 it' (.ref D) env) R s')
      (notedBy (model prog w) A env fun x s' => R (.error x) s') s) :
    codeAny (model prog w) A (.compStart (.DictComp kx vx [⟨t0, i0, ifs0, 0⟩, ⟨t1, i1, ifs1, 0⟩] scope pos) 1 it (.ref D) env) R s := by
  refine codeAny_of_tree ?_
  show wpAny _ _ ((compStart (.DictComp kx vx [⟨t0, i0, ifs0, 0⟩, ⟨t1, i1, ifs1, 0⟩] scope pos) 1 it (.ref D) env).onRaise (fun x => do noteFrame x env; standAt theWindowsPlace)) _ _ s
  refine wpAny_notedAt ?_
  unfold compStart
  show wpAny _ _ (ask >>= _) _ _ s
  refine wpAny_bind (wpAny_askSetting (wpAny_ite ?_))
  split
  · first
      | exact wpAny_bind (wpAny_pure (wpAny_pure (And.intro rfl h0)))
      | exact wpAny_pure (And.intro rfl h0)
  · first
      | exact wpAny_bind (wpAny_rule (wpAny_bind (wpAny_standAt (wpAny_bind (wpAny_mono h (fun it' s' h' => wpAny_pure (And.intro rfl h')) fun _ _ x => x)))))
      | (refine wpAny_bind (wpAny_rule ?_); show wpAny _ _ (standAt i1.pos >>= _) _ _ s; exact wpAny_bind (wpAny_standAt (wpAny_bind (wpAny_mono h (fun it' s' h' => wpAny_pure (And.intro rfl h')) fun _ _ x => x))))
end

section
variable {X : Cx}
def tDc2 (wi : TI) (g : TG) (tt : TT) (wi1 : TI) (g1 : TG) (tt1 : TT) (tk tv : TE) (vs vs1 : List Nat) : TE := fun σ H Q => wi σ H fun J Hz1 => ∀ D, Hz1 D = none → ∃ W : Nat → Nat → Hp → Prop, (∃ m, W 0 m (upd Hz1 D (.dK []))) ∧ ∀ i m H, W i m H →
  (J.stop i H ∧ Q (.ref D) H) ∨ (J.go i H ∧ ∃ Nx : Hp → Prop, (∀ H', Nx H' → ∃ m', m' < m ∧ W (i + 1) m' H') ∧ ∀ x H', J.yld i H x H' → g x (wipe σ vs) H' fun σ2 Hz2 => wipe σ2 vs = wipe σ vs ∧ tt σ2 Hz2 fun b Hz3 =>
    if b = true then wi1 σ2 Hz3 fun J1 Hz4 => ∃ W1 : Nat → Nat → Hp → Prop, (∃ m, W1 0 m Hz4) ∧ ∀ j k H, W1 j k H →
      (J1.stop j H ∧ Nx H) ∨ (J1.go j H ∧ ∃ Nx1 : Hp → Prop, (∀ H', Nx1 H' → ∃ k', k' < k ∧ W1 (j + 1) k' H') ∧ ∀ x H', J1.yld j H x H' → g1 x (wipe σ2 vs1) H' fun σ3 Hz5 => wipe σ3 vs1 = wipe σ2 vs1 ∧ tt1 σ3 Hz5 fun b Hz6 =>
        if b = true then tk σ3 Hz6 fun y Hz7 => tv σ3 Hz7 fun z Hz8 => ∃ kvs k, y = kV k ∧ Hz8 D = some (.dK kvs) ∧ kvs.length < sizeLine ∧ Nx1 (upd Hz8 D (.dK (putK kvs k z))) else Nx1 Hz6)
    else Nx Hz3)
theorem dc2_core {pins : List (Addr × Obj)} {s : Shared} {σ : L2.St} {H : Hp} {Q : VK} {kx vx tg iter tg1 iter1 : Expr} {ifs ifs1 : List Expr} {scope : Scope} {own : List (Str × Nat)} {vs1 : List Nat} {pos pos' : Pos} {wi wi1 : TI} {g g1 : TG} {tt tt1 : TT} {tk tv : TE} {use : Option (Value → Sem Unit)} {Qf : Value → Shared → Prop}
    (hc : X.calm = true) (hN : X.N.Nodup) (I : Inv X pins σ H s) (hi : PI X tg iter wi) (ok : BlkOk X.N X.env.scope scope own) (hv : ∀ i ∈ vs1, i ∈ own.map (·.2))
    (hg : ∀ (s : Shared) (H : Hp) (C : Addr) (cl : List (Str × Addr)) (fp : List Addr), PG (X.blk s H scope (compEnvC scope cl C X.env) fp) tg g) (ht : ∀ (s : Shared) (H : Hp) (C : Addr) (cl : List (Str × Addr)) (fp : List Addr), PTs (X.blk s H scope (compEnvC scope cl C X.env) fp) ifs tt)
    (hk : ∀ (s : Shared) (H : Hp) (C : Addr) (cl : List (Str × Addr)) (fp : List Addr), PE (X.blk s H scope (compEnvC scope cl C X.env) fp) kx tk)
    (he : ∀ (s : Shared) (H : Hp) (C : Addr) (cl : List (Str × Addr)) (fp : List Addr), PE (X.blk s H scope (compEnvC scope cl C X.env) fp) vx tv) (hs : ∀ x, foldedSetIterable iter X.env x = pure x)
    (hi1 : ∀ (s : Shared) (H : Hp) (C : Addr) (cl : List (Str × Addr)) (fp : List Addr), PI (X.blk s H scope (compEnvC scope cl C X.env) fp) tg1 iter1 wi1)
    (hg1 : ∀ (s : Shared) (H : Hp) (C : Addr) (cl : List (Str × Addr)) (fp : List Addr), PG (X.blk s H scope (compEnvC scope cl C X.env) fp) tg1 g1)
    (ht1 : ∀ (s : Shared) (H : Hp) (C : Addr) (cl : List (Str × Addr)) (fp : List Addr), PTs (X.blk s H scope (compEnvC scope cl C X.env) fp) ifs1 tt1)
    (hs1 : ∀ env x, foldedSetIterable iter1 env x = pure x)
    (h : tDc2 wi g tt wi1 g1 tt1 tk tv (own.map (·.2)) vs1 σ H Q)
    (hRR : ∀ D C s' m H', Inv X pins σ H' s' → Q (.ref D) H' → s'.heap.Ns C m → FpOk X pins H' C → compPost (model X.prog X.w) X.A X.xe use Qf (.ref D) C (.ok .next) s') :
    wpAny (model X.prog X.w) X.A (comprehension (.DictComp kx vx [⟨tg, iter, ifs, 0⟩, ⟨tg1, iter1, ifs1, 0⟩] scope pos) scope X.env pos' newDict false (eval iter X.env) use) Qf X.xe s := by
  have hfree : ∀ y ∈ scope.names, y.2 = .free → ∃ c, X.env.cells.lookup y.1 = some c := fun y hy e => by
    rcases ok.free y hy e with k | k
    · exact I.ok.has _ (.inl k)
    · exact I.ok.has _ (.inr k)
  refine wpAny_comprehension_free (use := use) rfl hs (closure_ok hfree) ok.kind (fun y hy e => by rw [ok.uniq y hy, e])
    (thn (hi.run pins s σ H _ I h) fun xv ss1 hx => thn hx fun itv ss2 h2 => ?_)
  obtain ⟨it, fp, tn, J, Hz2, e, Iv2, T, st2, f2, q⟩ := h2
  subst e
  refine wpAny_newObj_type (newEnv_comp ?_)
  generalize hD : ss2.heap.objs.size = D
  have hDn : Hz2 D = none := Iv2.hok.fresh (Nat.le_of_eq hD)
  obtain ⟨W, ⟨m0, w0⟩, turn⟩ := q D hDn
  -- the new list
  generalize hs3 : ({ ss2 with heap := ss2.heap.push { cls := .type "dict", data := .dict #[] } } : Shared) = ss3
  have Iv3 : Inv X pins σ (upd Hz2 D (.dK [])) ss3 := by
    rw [← hs3]
    refine Iv2.laid (t' := ss2.toks) (fun b o e => Heap.get?_push_of_some _ e) (Nat.le_of_eq hD) ?_
    rw [← hD]
    exact dk_empty ss2.heap Iv2.big
  have h3 : ss3.heap = ss2.heap.push { cls := .type "dict", data := .dict #[] } := by rw [← hs3]
  have sz : ∀ b ∈ fp, b < ss2.heap.objs.size := fun b hb => by
    obtain ⟨o, e, _⟩ := T.obj _ _ st2 b hb
    exact Heap.lt_size e
  have f3 : ∀ b ∈ fp, FpOk X pins (upd Hz2 D (.dK [])) b ∧ b < ss3.heap.objs.size := fun b hb => by
    have hlt := sz b hb
    refine ⟨⟨?_, (f2 b hb).2⟩, by rw [h3, Heap.size_push]; exact Nat.lt_succ_of_lt hlt⟩
    rw [upd_ne (by rw [← hD]; exact Nat.ne_of_lt hlt)]
    exact (f2 b hb).1
  have st3 : tn 0 ss3.heap := T.keep _ _ _ st2 fun b _ o e => by rw [h3]; exact Heap.get?_push_of_some _ e
  have Iv4 := block_start Iv3 ok hN f3
  have pg := hg ss3 (upd Hz2 D (.dK [])) ss3.heap.objs.size (cellsFrom (ss3.heap.objs.size + 1) scope.names (cloFrom X.env.cells scope.names [])) fp
  have pt := ht ss3 (upd Hz2 D (.dK [])) ss3.heap.objs.size (cellsFrom (ss3.heap.objs.size + 1) scope.names (cloFrom X.env.cells scope.names [])) fp
  have pk := hk ss3 (upd Hz2 D (.dK [])) ss3.heap.objs.size (cellsFrom (ss3.heap.objs.size + 1) scope.names (cloFrom X.env.cells scope.names [])) fp
  have pe := he ss3 (upd Hz2 D (.dK [])) ss3.heap.objs.size (cellsFrom (ss3.heap.objs.size + 1) scope.names (cloFrom X.env.cells scope.names [])) fp
  have pi1 := hi1 ss3 (upd Hz2 D (.dK [])) ss3.heap.objs.size (cellsFrom (ss3.heap.objs.size + 1) scope.names (cloFrom X.env.cells scope.names [])) fp
  have pg1 := hg1 ss3 (upd Hz2 D (.dK [])) ss3.heap.objs.size (cellsFrom (ss3.heap.objs.size + 1) scope.names (cloFrom X.env.cells scope.names [])) fp
  have pt1 := ht1 ss3 (upd Hz2 D (.dK [])) ss3.heap.objs.size (cellsFrom (ss3.heap.objs.size + 1) scope.names (cloFrom X.env.cells scope.names [])) fp
  show codeAny _ _ (.compStart (.DictComp kx vx [⟨tg, iter, ifs, 0⟩, ⟨tg1, iter1, ifs1, 0⟩] scope pos) 0 (.ref it) (.ref D) (compEnvC scope (cellsFrom (ss3.heap.objs.size + 1) scope.names (cloFrom X.env.cells scope.names [])) ss3.heap.objs.size X.env)) (compPost (model X.prog X.w) X.A X.xe use Qf (.ref D) ss3.heap.objs.size) { ss3 with heap := pushCells (ss3.heap.push { cls := .type "dict", data := .dict #[] }) scope.names }
  have nfp : ∀ b ∈ fp, (upd Hz2 D (.dK [])) b = none := fun b hb => (f3 b hb).1.1
  generalize hce : compEnvC scope (cellsFrom (ss3.heap.objs.size + 1) scope.names (cloFrom X.env.cells scope.names [])) ss3.heap.objs.size X.env = ce at Iv4 pg pt pk pe pi1 pg1 pt1 ⊢
  have cL : ce.locals = ss3.heap.objs.size := by subst hce; rfl
  generalize hH3 : upd Hz2 D (.dK []) = Hz3 at Iv3 Iv4 pg pt pk pe pi1 pg1 pt1 w0 nfp f3
  generalize hs4 : ({ ss3 with heap := pushCells (ss3.heap.push { cls := .type "dict", data := .dict #[] }) scope.names } : Shared) = ss4 at Iv4 ⊢
  have st4 : tn 0 ss4.heap := T.keep _ _ _ st3 fun b _ o e => by rw [← hs4]; exact pushCells_keeps _ _ _ _ (Heap.get?_push_of_some _ e)
  have stat : ∀ {σ' : L2.St} {H' : Hp} {s' : Shared}, Inv (X.blk ss3 Hz3 scope ce fp) [] σ' H' s' → (∀ b ∈ fp, H' b = none) → ∀ b ∈ fp, FpOk (X.blk ss3 Hz3 scope ce fp) [] H' b := fun {σ' H' s'} I' hn b hb =>
    ⟨hn b hb, (I'.ok.exf b hb).1, I'.ok.exfs b hb, .inl hb, fun x c e => (I'.ok.exf b hb).2 x c e, fun p hp => absurd (show p ∈ ([] : List (Addr × Obj)) ++ [] from hp) (by simp)⟩
  have loop : codeAny (model X.prog X.w) X.A (.compLoop (.DictComp kx vx [⟨tg, iter, ifs, 0⟩, ⟨tg1, iter1, ifs1, 0⟩] scope pos) 0 (.ref it) (.ref D) ce) (compPost (model X.prog X.w) X.A X.xe use Qf (.ref D) ss3.heap.objs.size) ss4 := by
    refine compLoop2D_out (hs1 ce) (fun n s' => ∃ i H', Inv (X.blk ss3 Hz3 scope ce fp) [] (wipe σ (own.map (·.2))) H' s' ∧ tn i s'.heap ∧ (∀ b ∈ fp, H' b = none) ∧ W i n H') ?_ m0 ⟨0, Hz3, Iv4, st4, nfp, w0⟩
    rintro n ss5 ⟨i, Hz5, Iv5, st5, n5, w5⟩
    rcases turn i n Hz5 w5 with ⟨stop, qq⟩ | ⟨go, Nx, hNx, step⟩
    · have td := T.done (X.blk ss3 Hz3 scope ce fp) rfl rfl rfl hc i [] ss5 _ Hz5 (fun _ _ => False) Iv5 (stat Iv5 n5) st5 stop
      refine thnF td fun r ss6 ⟨hr, Iv6⟩ => ?_
      subst hr
      -- back in the def's context
      have Iv7 : Inv X pins σ Hz5 ss6 := Iv3.call' (ch := fp) Iv6.os Iv6.base Iv6.hok Iv6.bare fun b hb => ⟨(f3 b hb).1.2.2.2.1, (f3 b hb).1.2.1, (f3 b hb).1.2.2.2.2.1, (f3 b hb).1.2.2.2.2.2⟩
      have nC : Hz5 ss3.heap.objs.size = none := by
        have z : Hz5 ce.locals = none := Iv6.free
        rw [cL] at z
        exact z
      obtain ⟨m, hn, _⟩ := Iv6.loc
      have hn : ss6.heap.Ns ce.locals m := hn
      rw [cL] at hn
      exact hRR D ss3.heap.objs.size ss6 m Hz5 Iv7 qq hn (Iv3.fpOk (Nat.le_refl _) nC)
    · have ti := T.item (X.blk ss3 Hz3 scope ce fp) rfl rfl rfl hc i [] ss5 _ Hz5 (fun _ _ => False) Iv5 (stat Iv5 n5) st5 go
      refine thnF ti fun r ss6 ⟨u, hr, h6⟩ => ?_
      subst hr
      refine thnF h6 fun _ ss7 ⟨x, Hz7, Iv7, r7, y7, st7, n7⟩ => ?_
      have Iv7' := Iv7.pinned (stat Iv7 n7) (T.obj _ _ st7)
      refine thnF (pg.run _ ss7 _ Hz7 x u _ Iv7' r7 (step x Hz7 y7)) fun _ ss8 ⟨σ8, Hz8, Iv8, hw8, q8⟩ => ?_
      refine thnF (pt.run _ ss8 σ8 Hz8 _ Iv8 q8) fun b ss9 ⟨Hz9, Iv9, q9⟩ => ?_
      -- the turn's end, from any slots that know what the block knew at its start
      have fin : ∀ {σ9 : L2.St} {s' : Shared} {H' : Hp}, Inv (X.blk ss3 Hz3 scope ce fp) ([] ++ pinsAt fp ss7.heap) σ9 H' s' → (wipe σ (own.map (·.2))).length = σ9.length → (∀ (j : Nat) v, (wipe σ (own.map (·.2)))[j]? = some (some v) → σ9[j]? = some (some v)) → Nx H' →
          ∃ m, m < n ∧ ∃ i H', Inv (X.blk ss3 Hz3 scope ce fp) [] (wipe σ (own.map (·.2))) H' s' ∧ tn i s'.heap ∧ (∀ b ∈ fp, H' b = none) ∧ W i m H' := fun {σ9 s' H'} I' hl hk nx => by
        obtain ⟨m', hm, w'⟩ := hNx H' nx
        have pin' : ∀ b ∈ fp, ∀ o, ss7.heap.get? b = some o → s'.heap.get? b = some o ∧ H' b = none := fun b hb o e =>
          let z := I'.pin (b, o) (List.mem_append_right _ (List.mem_append_right _ (mem_pinsAt hb e)))
          ⟨z.1, z.2.1⟩
        refine ⟨m', hm, i + 1, H', (I'.unpinned (pins := [])).weak hl hk, T.keep _ _ _ st7 fun b hb o e => (pin' b hb o e).1, fun b hb => ?_, w'⟩
        obtain ⟨o, e, _⟩ := T.obj _ _ st7 b hb
        exact (pin' b hb o e).2
      have hl8 : (wipe σ (own.map (·.2))).length = σ8.length := by rw [← hw8, wipe_length]
      have hk8 : ∀ (j : Nat) v, (wipe σ (own.map (·.2)))[j]? = some (some v) → σ8[j]? = some (some v) := fun j v e => by
        rw [← hw8] at e
        exact (wipe_some e).1
      have hk9 : ∀ (j : Nat) v, (wipe σ (own.map (·.2)))[j]? = some (some v) → (wipe σ8 vs1)[j]? = some (some v) := fun j v e => by
        rw [← hw8] at e
        obtain ⟨e1, e2⟩ := wipe_some e
        rw [wipe_out fun z => e2 (hv j z)]
        exact e1
      cases b with
      | false =>
        simp only [Bool.false_eq_true, if_false] at q9 ⊢
        exact fin Iv9 hl8 hk8 q9
      | true =>
        simp only [if_true] at q9 ⊢
        refine thnF (pi1.run _ ss9 σ8 Hz9 _ Iv9 q9) fun xv ss10 hx => thnF hx fun itv ss11 h11 => ?_
        obtain ⟨it1, fp1, tn1, J1, Hz11, e1, Iv11, T1, st11, f11, W1, ⟨m1, w1⟩, turn1⟩ := h11
        subst e1
        -- the inner loop
        have stat1 : ∀ {H' : Hp}, (∀ b ∈ fp1, H' b = none) → ∀ b ∈ fp1, FpOk (X.blk ss3 Hz3 scope ce fp) ([] ++ pinsAt fp ss7.heap) H' b := fun hn b hb => ⟨hn b hb, (f11 b hb).2⟩
        have loop1 : codeAny (model X.prog X.w) X.A (.compLoop (.DictComp kx vx [⟨tg, iter, ifs, 0⟩, ⟨tg1, iter1, ifs1, 0⟩] scope pos) 1 (.ref it1) (.ref D) ce)
            (fun r s' => match r with
              | .ok _ => ∃ m, m < n ∧ ∃ i H', Inv (X.blk ss3 Hz3 scope ce fp) [] (wipe σ (own.map (·.2))) H' s' ∧ tn i s'.heap ∧ (∀ b ∈ fp, H' b = none) ∧ W i m H'
              | .error _ => False) ss11 := by
          refine compLoop2D_in (fun k s' => ∃ j H', Inv (X.blk ss3 Hz3 scope ce fp) ([] ++ pinsAt fp ss7.heap) (wipe σ8 vs1) H' s' ∧ tn1 j s'.heap ∧ (∀ b ∈ fp1, H' b = none) ∧ W1 j k H') ?_ m1 ⟨0, Hz11, Iv11.weak (wipe_length _ _) (fun j v e => (wipe_some e).1), st11, fun b hb => (f11 b hb).1, w1⟩
          rintro k ss12 ⟨j, Hz12, Iv12, st12, n12, w12⟩
          rcases turn1 j k Hz12 w12 with ⟨stop1, nx1⟩ | ⟨go1, Nx1, hNx1, step1⟩
          · refine thnF (T1.done (X.blk ss3 Hz3 scope ce fp) rfl rfl rfl hc j _ ss12 (wipe σ8 vs1) Hz12 (fun _ _ => False) Iv12 (stat1 n12) st12 stop1) fun r ss13 ⟨hr, Iv13⟩ => ?_
            subst hr
            exact fin Iv13 (hl8.trans (wipe_length σ8 vs1).symm) hk9 nx1
          · refine thnF (T1.item (X.blk ss3 Hz3 scope ce fp) rfl rfl rfl hc j _ ss12 (wipe σ8 vs1) Hz12 (fun _ _ => False) Iv12 (stat1 n12) st12 go1) fun r ss13 ⟨u1, hr, h13⟩ => ?_
            subst hr
            refine thnF h13 fun _ ss14 ⟨x1, Hz14, Iv14, r14, y14, st14, n14⟩ => ?_
            have Iv14' := Iv14.pinned (stat1 n14) (T1.obj _ _ st14)
            refine thnF (pg1.run _ ss14 (wipe σ8 vs1) Hz14 x1 u1 _ Iv14' r14 (step1 x1 Hz14 y14)) fun _ ss15 ⟨σ15, Hz15, Iv15, hw15, q15⟩ => ?_
            refine thnF (pt1.run _ ss15 σ15 Hz15 _ Iv15 q15) fun b1 ss16 ⟨Hz16, Iv16, q16⟩ => ?_
            have fin1 : ∀ {s' : Shared} {H' : Hp}, Inv (X.blk ss3 Hz3 scope ce fp) (([] ++ pinsAt fp ss7.heap) ++ pinsAt fp1 ss14.heap) σ15 H' s' → Nx1 H' → ∃ m, m < k ∧ ∃ j H', Inv (X.blk ss3 Hz3 scope ce fp) ([] ++ pinsAt fp ss7.heap) (wipe σ8 vs1) H' s' ∧ tn1 j s'.heap ∧ (∀ b ∈ fp1, H' b = none) ∧ W1 j m H' := fun {s' H'} I' nx => by
              obtain ⟨m', hm, w'⟩ := hNx1 H' nx
              have pin' : ∀ b ∈ fp1, ∀ o, ss14.heap.get? b = some o → s'.heap.get? b = some o ∧ H' b = none := fun b hb o e =>
                let z := I'.pin (b, o) (List.mem_append_right _ (List.mem_append_right _ (mem_pinsAt hb e)))
                ⟨z.1, z.2.1⟩
              refine ⟨m', hm, j + 1, H', I'.unpinned.weak (by rw [← hw15, wipe_length]) (fun j v e => by rw [← hw15] at e; exact (wipe_some e).1), T1.keep _ _ _ st14 fun b hb o e => (pin' b hb o e).1, fun b hb => ?_, w'⟩
              obtain ⟨o, e, _⟩ := T1.obj _ _ st14 b hb
              exact (pin' b hb o e).2
            cases b1 with
            | false =>
              simp only [Bool.false_eq_true, if_false] at q16 ⊢
              exact fin1 Iv16 q16
            | true =>
              simp only [if_true] at q16 ⊢
              refine thnF (pk.run _ ss16 σ15 Hz16 _ Iv16 q16) fun zk ss17 ⟨yk, Hz17, Iv17, r17, q17⟩ => ?_
              refine thnF (pe.run _ ss17 σ15 Hz17 _ Iv17 q17) fun zv ss18 ⟨yv, Hz18, Iv18, r18, kvs, k, ek, hD18, hz18, nx⟩ => ?_
              subst ek
              exact d_dictSet (X := X.blk ss3 Hz3 scope ce fp) Iv18 hD18 hz18 r17 r18 fun ss19 Iv19 => fin1 Iv19 nx
        exact compStart1D_ok loop1 (T1.self X.A 0 _ _ _ st11 loop1)
  exact codeAny_compStart_dict loop (T.self X.A 0 _ _ _ st4 loop)

theorem pe_dc2 {kx vx tg iter tg1 iter1 : Expr} {ifs ifs1 : List Expr} {scope : Scope} {own : List (Str × Nat)} {vs1 : List Nat} {pos : Pos} {wi wi1 : TI} {g g1 : TG} {tt tt1 : TT} {tk tv : TE} (hc : X.calm = true) (hN : X.N.Nodup) (hi : PI X tg iter wi) (ok : BlkOk X.N X.env.scope scope own) (hv : ∀ i ∈ vs1, i ∈ own.map (·.2))
    (hg : ∀ (s : Shared) (H : Hp) (C : Addr) (cl : List (Str × Addr)) (fp : List Addr), PG (X.blk s H scope (compEnvC scope cl C X.env) fp) tg g) (ht : ∀ (s : Shared) (H : Hp) (C : Addr) (cl : List (Str × Addr)) (fp : List Addr), PTs (X.blk s H scope (compEnvC scope cl C X.env) fp) ifs tt)
    (hi1 : ∀ (s : Shared) (H : Hp) (C : Addr) (cl : List (Str × Addr)) (fp : List Addr), PI (X.blk s H scope (compEnvC scope cl C X.env) fp) tg1 iter1 wi1)
    (hg1 : ∀ (s : Shared) (H : Hp) (C : Addr) (cl : List (Str × Addr)) (fp : List Addr), PG (X.blk s H scope (compEnvC scope cl C X.env) fp) tg1 g1) (ht1 : ∀ (s : Shared) (H : Hp) (C : Addr) (cl : List (Str × Addr)) (fp : List Addr), PTs (X.blk s H scope (compEnvC scope cl C X.env) fp) ifs1 tt1)
    (hk : ∀ (s : Shared) (H : Hp) (C : Addr) (cl : List (Str × Addr)) (fp : List Addr), PE (X.blk s H scope (compEnvC scope cl C X.env) fp) kx tk)
    (he : ∀ (s : Shared) (H : Hp) (C : Addr) (cl : List (Str × Addr)) (fp : List Addr), PE (X.blk s H scope (compEnvC scope cl C X.env) fp) vx tv) (hs : ∀ x, foldedSetIterable iter X.env x = pure x := by intro _; rfl) (hs1 : ∀ env x, foldedSetIterable iter1 env x = pure x := by intro _ _; rfl) :
    PE X (.DictComp kx vx [⟨tg, iter, ifs, 0⟩, ⟨tg1, iter1, ifs1, 0⟩] scope pos) (tDc2 wi g tt wi1 g1 tt1 tk tv (own.map (·.2)) vs1) := by
  refine ⟨fun pins s σ H Q I h => ?_⟩
  rw [arm_eval_DictComp]
  refine dc2_core hc hN I hi ok hv hg ht hk he hs hi1 hg1 ht1 hs1 h fun D C s' m H' I' q hn f => ⟨m, hn, fun h'' sb => ?_⟩
  obtain ⟨f0, f1, f2, f3, f4, f5⟩ := f
  exact ⟨.ref D, H', I'.turned (t' := s'.toks) (fun b o hb e => (sb.2 b hb).trans e) f0 f1 f3 f4 f5, rfl, q⟩
end
end DL

namespace DL
open PySem PySem.Spec PyProof.Rows L2
section
variable {g : Gd} {kx vx tg iter tg1 iter1 : Expr} {ifs ifs1 : List Expr} {scope : Scope} {own : List (Str × Nat)} {pos : Pos} {w w1 : DTI} {gt gt1 : DTG} {tt tt1 : DTT} {tk tv : DTE} {ns ms vs1 : List Nat}
def dDc2 (w : DTI) (gt : DTG) (tt : DTT) (w1 : DTI) (gt1 : DTG) (tt1 : DTT) (tk tv : DTE) (vs vs1 : List Nat) : DTD := fun e M Q E => w e M (fun src M1 => ∃ I : Nat → List (Key × D) → Mem → Prop, I 0 [] M1 ∧
  (∀ i d acc M', src.items[i]? = some d → I i acc M' → src.live M' ∧ gt d (wipeS e vs) M' (fun e2 M2 => tt e2 M2 (fun b M3 =>
    if b = true then w1 e2 M3 (fun src1 M4 => ∃ I1 : Nat → List (Key × D) → Mem → Prop, I1 0 acc M4 ∧
      (∀ j d1 acc1 M5, src1.items[j]? = some d1 → I1 j acc1 M5 → src1.live M5 ∧ gt1 d1 (wipeS e2 vs1) M5 (fun e3 M6 => tt1 e3 M6 (fun b M7 =>
        if b = true then tk e3 M7 (fun y M8 => tv e3 M8 (fun z M9 => acc1.length < sizeLine ∧ ∃ k, keyD y = some k ∧ I1 (j + 1) (putG acc1 k z) M9) EF) EF else I1 (j + 1) acc1 M7) EF) EF) ∧
      ∀ acc1 M5, I1 src1.items.length acc1 M5 → src1.live M5 ∧ I (i + 1) acc1 M5) EF
    else I (i + 1) acc M3) EF) EF) ∧
  ∀ acc M', I src.items.length acc M' → src.live M' ∧ Q acc M') E
theorem dc2_low {w' w1' : TI} {g' g1' : TG} {tt' tt1' : TT} (ki : ∀ σ H e M R (RV : It → Hp → Prop), SRel g.X.K H e σ → MRel g.X.K M H → Fr g.M0 g.H0 M H → w e M R g.E →
      (∀ J src M1 H1, JRel g.X.K H1 J src → MRel g.X.K M1 H1 → Fr M H M1 H1 → R src M1 → RV J H1) → w' σ H RV)
    (kg : ∀ σ H e M v d Q (QV : L2.St → Hp → Prop), SRel g.X.K H e σ → MRel g.X.K M H → Is g.X.K H d v → gt d e M Q EF →
      (∀ σ' H' e' M', SRel g.X.K H' e' σ' → MRel g.X.K M' H' → Fr M H M' H' → (∀ vs, (∀ i ∈ ns, i ∈ vs) → L2.wipe σ' vs = L2.wipe σ vs) → Q e' M' → QV σ' H') → g' v σ H QV)
    (kt : ∀ σ H e M Q (QV : Bool → Hp → Prop), SRel g.X.K H e σ → MRel g.X.K M H → tt e M Q EF → (∀ b M' H', MRel g.X.K M' H' → Fr M H M' H' → Q b M' → QV b H') → tt' σ H QV)
    (ki1 : ∀ σ H e M R (RV : It → Hp → Prop), SRel g.X.K H e σ → MRel g.X.K M H → w1 e M R EF →
      (∀ J src M1 H1, JRel g.X.K H1 J src → MRel g.X.K M1 H1 → Fr M H M1 H1 → R src M1 → RV J H1) → w1' σ H RV)
    (kg1 : ∀ σ H e M v d Q (QV : L2.St → Hp → Prop), SRel g.X.K H e σ → MRel g.X.K M H → Is g.X.K H d v → gt1 d e M Q EF →
      (∀ σ' H' e' M', SRel g.X.K H' e' σ' → MRel g.X.K M' H' → Fr M H M' H' → (∀ vs, (∀ i ∈ ms, i ∈ vs) → L2.wipe σ' vs = L2.wipe σ vs) → Q e' M' → QV σ' H') → g1' v σ H QV)
    (kt1 : ∀ σ H e M Q (QV : Bool → Hp → Prop), SRel g.X.K H e σ → MRel g.X.K M H → tt1 e M Q EF → (∀ b M' H', MRel g.X.K M' H' → Fr M H M' H' → Q b M' → QV b H') → tt1' σ H QV)
    (hns : ∀ i ∈ ns, i ∈ own.map (·.2)) (hms : ∀ i ∈ ms, i ∈ vs1) {σ : L2.St} {H : Hp} {e : Sl} {M : Mem} {Q : List (Key × D) → Mem → Prop} {QV : VK} (sl : SRel g.X.K H e σ) (mr : MRel g.X.K M H) (fr : Fr g.M0 g.H0 M H)
    (q : dDc2 w gt tt w1 gt1 tt1 tk tv (own.map (·.2)) vs1 e M Q g.E)
    (k : ∀ a vs ds M' H', H' a = some (.dK vs) → KRel g.X.K H' ds vs → M' a = none → H a = none → MRel g.X.K M' H' → Fr M H M' H' → Q ds M' → QV (.ref a) H') : tDc2 w' g' tt' w1' g1' tt1' (lowAny g.X.K tk) (lowAny g.X.K tv) (own.map (·.2)) vs1 σ H QV := by
  refine ki σ H e M _ _ sl mr fr q fun J src M1 H1 jr m1 f1 q => ?_
  obtain ⟨I, h0, turn, last⟩ := q
  intro p hp
  have np1 : M1 p = none := m1.none_of hp
  have h0p : H p = none := f1.there p hp
  have fn := fr_new (o := HO.dK []) m1 hp
  refine ⟨fun i n H' => i + n = src.items.length ∧ ∃ acc vs M', H' p = some (.dK vs) ∧ KRel g.X.K H' acc vs ∧ M' p = none ∧ MRel g.X.K M' H' ∧ Fr M1 H1 M' H' ∧ I i acc M',
    ⟨src.items.length, by omega, [], [], M1, upd_same, KRel.nil, np1, mr_new m1 hp, fn, h0⟩, fun i n H' hw => ?_⟩
  obtain ⟨hn, acc, vs, M', hp', il, np, m', f', hw⟩ := hw
  cases n with
  | zero =>
    have hi : i = src.items.length := by omega
    subst hi
    obtain ⟨lv, q⟩ := last acc M' hw
    exact .inl ⟨(jr _ M' H' m' (f'.ext m1) lv).2 (Nat.le_refl _), k p vs acc M' H' hp' il np h0p m' (f1.trans f') q⟩
  | succ n =>
    have hi : i < src.items.length := by omega
    have hd := List.getElem?_eq_getElem hi
    obtain ⟨lv, q⟩ := turn i _ acc M' hd hw
    obtain ⟨go, yl⟩ := (jr i M' H' m' (f'.ext m1) lv).1 _ hd
    refine .inr ⟨go, fun H2 => ∃ acc vs M', H2 p = some (.dK vs) ∧ KRel g.X.K H2 acc vs ∧ M' p = none ∧ MRel g.X.K M' H2 ∧ Fr M1 H1 M' H2 ∧ I (i + 1) acc M', fun H2 z => ⟨n, by omega, by omega, z⟩, fun x H2 y => ?_⟩
    obtain ⟨ix, m2, f2⟩ := yl x H2 y
    refine kg (wipe σ (own.map (·.2))) H2 (wipeS e (own.map (·.2))) M' x _ _ _ ((sl.ext ((f1.trans (f'.trans f2)).ext mr)).wipe _) m2 ix q fun σ3 H3 e3 M3 sl3 m3 f3 hwp q => ?_
    refine ⟨(hwp _ hns).trans (wipe_wipe σ _), ?_⟩
    refine kt σ3 H3 e3 M3 _ _ sl3 m3 q fun b M4 H4 m4 f4 q => ?_
    have f24 := f2.trans (f3.trans f4)
    obtain ⟨p4, np4⟩ := f24.keep p _ hp' np
    have il4 := (show KRel g.X.K H4 acc vs from ⟨il.1, IsL.ext (f24.ext m') _ _ il.2⟩)
    have sl4 := sl3.ext (f4.ext m3)
    cases b with
    | false => exact ⟨acc, vs, M4, p4, il4, np4, m4, f'.trans f24, q⟩
    | true =>
      refine ki1 σ3 H4 e3 M4 _ _ sl4 m4 q fun J1 src1 M5 H5 jr1 m5 f5 q => ?_
      obtain ⟨I1, k0, turn1, last1⟩ := q
      have f15 := f'.trans (f24.trans f5)
      obtain ⟨p5, np5⟩ := f5.keep p _ p4 np4
      refine ⟨fun j n H' => j + n = src1.items.length ∧ ∃ acc vs M', H' p = some (.dK vs) ∧ KRel g.X.K H' acc vs ∧ M' p = none ∧ MRel g.X.K M' H' ∧ Fr M1 H1 M' H' ∧ Ext g.X.K H5 H' ∧ I1 j acc M',
        ⟨src1.items.length, by omega, acc, vs, M5, p5, ⟨il4.1, IsL.ext (f5.ext m4) _ _ il4.2⟩, np5, m5, f15, Ext.refl, k0⟩, fun j n' H' hw => ?_⟩
      obtain ⟨hn1, ac, us, M6, p6, il6, np6, m6, f6, e6, hw⟩ := hw
      cases n' with
      | zero =>
        have hj : j = src1.items.length := by omega
        subst hj
        obtain ⟨lv, q⟩ := last1 ac M6 hw
        exact .inl ⟨(jr1 _ M6 H' m6 e6 lv).2 (Nat.le_refl _), ac, us, M6, p6, il6, np6, m6, f6, q⟩
      | succ n' =>
        have hj : j < src1.items.length := by omega
        have hd1 := List.getElem?_eq_getElem hj
        obtain ⟨lv, q⟩ := turn1 j _ ac M6 hd1 hw
        obtain ⟨go1, yl1⟩ := (jr1 j M6 H' m6 e6 lv).1 _ hd1
        refine .inr ⟨go1, fun H2 => ∃ acc vs M', H2 p = some (.dK vs) ∧ KRel g.X.K H2 acc vs ∧ M' p = none ∧ MRel g.X.K M' H2 ∧ Fr M1 H1 M' H2 ∧ Ext g.X.K H5 H2 ∧ I1 (j + 1) acc M', fun H2 z => ⟨n', by omega, by omega, z⟩, fun x1 H7 y1 => ?_⟩
        obtain ⟨ix1, m7, f7⟩ := yl1 x1 H7 y1
        have e57 : Ext g.X.K H5 H7 := e6.trans (f7.ext m6)
        refine kg1 (wipe σ3 vs1) H7 (wipeS e3 vs1) M6 x1 _ _ _ ((sl4.ext ((f5.ext m4).trans e57)).wipe _) m7 ix1 q fun σ8 H8 e8 M8 sl8 m8 f8 hw8 q => ?_
        refine ⟨(hw8 _ hms).trans (wipe_wipe σ3 _), ?_⟩
        refine kt1 σ8 H8 e8 M8 _ _ sl8 m8 q fun b M9 H9 m9 f9 q => ?_
        have f79 := f7.trans (f8.trans f9)
        cases b with
        | false =>
          obtain ⟨p9, np9⟩ := f79.keep p _ p6 np6
          exact ⟨ac, us, M9, p9, ⟨il6.1, IsL.ext (f79.ext m6) _ _ il6.2⟩, np9, m9, f6.trans f79, e6.trans (f79.ext m6), q⟩
        | true =>
          have sl9 := sl8.ext (f9.ext m8)
          refine lowAny_start sl9 m9 q fun v d Ma Ha ia ma fa q => ?_
          refine lowAny_start (sl9.ext (fa.ext m9)) ma q fun z dz Mb Hb ib mb fb q => ?_
          have f7b := f79.trans (fa.trans fb)
          obtain ⟨pb, npb⟩ := f7b.keep p _ p6 np6
          have ilb : KRel g.X.K Hb ac us := ⟨il6.1, IsL.ext (f7b.ext m6) _ _ il6.2⟩
          obtain ⟨hz, kk, hk, q⟩ := q
          have ey := keyD_is (Is.ext (fb.ext ma) _ _ ia) hk
          have eo : Ext g.X.K Hb (upd Hb p (.dK (putK us kk z))) := ext_outK pb
          have rp := ilb.put (k := kk) ib
          exact ⟨us, kk, ey, pb, by rw [KRel.length ilb]; exact hz, putG ac kk dz, putK us kk z, Mb, upd_same, ⟨rp.1, IsL.ext eo _ _ rp.2⟩, npb, mr_outK mb pb npb, fr_out (f6.trans f7b) hp, (e6.trans (f7b.ext m6)).trans eo, q⟩
theorem de_dc2 (hc : g.X.calm = true) (hN : g.X.N.Nodup) (hi : DI g tg iter w) (ok : BlkOk g.X.N g.X.env.scope scope own) (hv : ∀ i ∈ vs1, i ∈ own.map (·.2)) (hg : BlkG g scope tg gt ns) (ht : BlkT g scope ifs tt) (hi1 : BlkI g scope tg1 iter1 w1) (hg1 : BlkG g scope tg1 gt1 ms) (ht1 : BlkT g scope ifs1 tt1)
    (hk : BlkE g scope kx tk) (he : BlkE g scope vx tv) (hns : ∀ i ∈ ns, i ∈ own.map (·.2)) (hms : ∀ i ∈ ms, i ∈ vs1) (hs : ∀ x, foldedSetIterable iter g.X.env x = pure x) (hs1 : ∀ env x, foldedSetIterable iter1 env x = pure x) :
    DE g (.DictComp kx vx [⟨tg, iter, ifs, 0⟩, ⟨tg1, iter1, ifs1, 0⟩] scope pos) (dNewD (dDc2 w gt tt w1 gt1 tt1 tk tv (own.map (·.2)) vs1)) := by
  obtain ⟨w', pi, ki⟩ := hi.pi
  obtain ⟨g', pg, kg⟩ := hg
  obtain ⟨t', pt, kt⟩ := ht
  obtain ⟨w1', pi1, ki1⟩ := hi1
  obtain ⟨g1', pg1, kg1⟩ := hg1
  obtain ⟨t1', pt1, kt1⟩ := ht1
  refine DE.of (pe_dc2 hc hN pi ok hv pg pt pi1 pg1 pt1 hk.pe he.pe hs hs1) fun σ H e M Q sl mr fr q => ?_
  refine dc2_low ki kg kt ki1 kg1 kt1 hns hms sl mr fr q fun a ws kvs M' H' h l n n0 m f q => ?_
  obtain ⟨m2, f2⟩ := new_inK h l n n0 m f
  exact lowQ.mk ii_ref m2 f2 (q a n)
end
end DL

namespace DL
open PySem PySem.Spec PyProof.Rows L2
theorem setK_fresh (P : Program) (w : World) (h : Heap) : (h.push { cls := .type "set", dict := none, data := .set #[] 0 (.fresh 0 0 (!w.params.followText "set-order")) }).SetOf (mixKind P w) h.objs.size (fun _ => false) 0 :=
  ⟨_, #[], 0, _, Heap.get?_push_size _ rfl, ⟨rfl, rfl, rfl⟩, rfl, (fun e he => by simp at he), (fun k => by simp), (by decide), (by rfl), rfl⟩
section
variable {X : Cx}
theorem addK_ok {pins : List (Addr × Obj)} {σ : L2.St} {H : Hp} {s : Shared} {E : Value → Shared → Prop} {D : Addr} {S : Key → Bool} {n : Nat} {k : Key} {u : Value} {Q : Value → Shared → Prop} (I : Inv X pins σ H s) (hD : H D = some (SetK X.prog X.w D S n)) (room : n + 1 < scanBound) (r : RelV (kV k) u)
    (h : ∀ s', Inv X pins σ (upd H D (SetK X.prog X.w D (fun j => S j || decide (j = k)) (if S k = true then n else n + 1))) s' → Q .none s') : wpAny (model X.prog X.w) X.A (call (.builtin "set.add") [.ref D, u]) Q E s := by
  refine call_set_add (kV_is r) (key_scan r) (setK_get I hD) room fun h' sb new => ?_
  have he : ∃ v, h'.get? D = some v := by
    have ⟨o, _, _, _, ho, _⟩ := new
    exact ⟨o, ho⟩
  exact h _ (I.write (e := D) (t' := s.toks + 1) (by rw [hD]; trivial) (.inl rfl) (fun b v hb hu => (sb.2 b hb).trans hu) he (setK_new new))
def tScK (P : Program) (w : World) (wi : TI) (g : TG) (tt : TT) (te : TE) (vs : List Nat) : TE := fun σ H Q => wi σ H fun J Hz1 => ∀ D, Hz1 D = none → ∃ W : Nat → Nat → Hp → Prop, (∃ m, W 0 m (upd Hz1 D (SetK P w D (fun _ => false) 0))) ∧ ∀ i m H, W i m H →
  (J.stop i H ∧ Q (.ref D) H) ∨ (J.go i H ∧ ∃ Nx : Hp → Prop, (∀ H', Nx H' → ∃ m', m' < m ∧ W (i + 1) m' H') ∧ ∀ x H', J.yld i H x H' → g x (wipe σ vs) H' fun σ2 Hz2 => wipe σ2 vs = wipe σ vs ∧ tt σ2 Hz2 fun b Hz3 =>
    if b = true then te σ2 Hz3 fun y Hz4 => ∃ (c : Key) (S : Key → Bool) (n : Nat), y = kV c ∧ Hz4 D = some (SetK P w D S n) ∧ n + 1 < scanBound ∧ Nx (upd Hz4 D (SetK P w D (fun j => S j || decide (j = c)) (if S c = true then n else n + 1))) else Nx Hz3)
theorem sk_core {pins : List (Addr × Obj)} {s : Shared} {σ : L2.St} {H : Hp} {Q : VK} {elt tg iter : Expr} {ifs : List Expr} {scope : Scope} {own : List (PySem.Str × Nat)} {pos pos' : Pos} {wi : TI} {g : TG} {tt : TT} {te : TE} {use : Option (Value → Sem Unit)} {Qf : Value → Shared → Prop}
    (hc : X.calm = true) (hN : X.N.Nodup) (I : Inv X pins σ H s) (hi : PI X tg iter wi) (ok : BlkOk X.N X.env.scope scope own)
    (hg : ∀ (s : Shared) (H : Hp) (C : Addr) (cl : List (PySem.Str × Addr)) (fp : List Addr), PG (X.blk s H scope (compEnvC scope cl C X.env) fp) tg g) (ht : ∀ (s : Shared) (H : Hp) (C : Addr) (cl : List (PySem.Str × Addr)) (fp : List Addr), PTs (X.blk s H scope (compEnvC scope cl C X.env) fp) ifs tt)
    (he : ∀ (s : Shared) (H : Hp) (C : Addr) (cl : List (PySem.Str × Addr)) (fp : List Addr), PE (X.blk s H scope (compEnvC scope cl C X.env) fp) elt te) (hs : ∀ x, foldedSetIterable iter X.env x = pure x)
    (h : tScK X.prog X.w wi g tt te (own.map (·.2)) σ H Q)
    (hRR : ∀ D C s' m H', Inv X pins σ H' s' → Q (.ref D) H' → s'.heap.Ns C m → FpOk X pins H' C → compPost (model X.prog X.w) X.A X.xe use Qf (.ref D) C (.ok .next) s') :
    wpAny (model X.prog X.w) X.A (comprehension (.SetComp elt [⟨tg, iter, ifs, 0⟩] scope pos) scope X.env pos' (newSet (.type "set")) false (eval iter X.env) use) Qf X.xe s := by
  have hfree : ∀ y ∈ scope.names, y.2 = .free → ∃ c, X.env.cells.lookup y.1 = some c := fun y hy e => by
    rcases ok.free y hy e with k | k
    · exact I.ok.has _ (.inl k)
    · exact I.ok.has _ (.inr k)
  refine wpAny_comprehension_free (use := use) rfl hs (closure_ok hfree) ok.kind (fun y hy e => by rw [ok.uniq y hy, e])
    (thn (hi.run pins s σ H _ I h) fun xv ss1 hx => thn hx fun itv ss2 h2 => ?_)
  obtain ⟨it, fp, tn, J, Hz2, e, Iv2, T, st2, f2, q⟩ := h2
  subst e
  refine PpSet.newSet_ok (newEnv_comp ?_)
  generalize hD : ss2.heap.objs.size = D
  have hDn : Hz2 D = none := Iv2.hok.fresh (Nat.le_of_eq hD)
  obtain ⟨W, ⟨m0, w0⟩, turn⟩ := q D hDn
  -- the new list
  generalize hs3 : ({ ss2 with heap := ss2.heap.push { cls := .type "set", dict := none, data := .set #[] 0 (.fresh 0 0 (!X.w.params.followText "set-order")) } } : Shared) = ss3
  have Iv3 : Inv X pins σ (upd Hz2 D (SetK X.prog X.w D (fun _ => false) 0)) ss3 := by
    rw [← hs3]
    refine Iv2.laid (t' := ss2.toks) (fun b o e => Heap.get?_push_of_some _ e) (Nat.le_of_eq hD) ?_
    rw [← hD]
    exact setK_new (setK_fresh X.prog X.w ss2.heap)
  have h3 : ss3.heap = ss2.heap.push { cls := .type "set", dict := none, data := .set #[] 0 (.fresh 0 0 (!X.w.params.followText "set-order")) } := by rw [← hs3]
  have sz : ∀ b ∈ fp, b < ss2.heap.objs.size := fun b hb => by
    obtain ⟨o, e, _⟩ := T.obj _ _ st2 b hb
    exact Heap.lt_size e
  have f3 : ∀ b ∈ fp, FpOk X pins (upd Hz2 D (SetK X.prog X.w D (fun _ => false) 0)) b ∧ b < ss3.heap.objs.size := fun b hb => by
    have hlt := sz b hb
    refine ⟨⟨?_, (f2 b hb).2⟩, by rw [h3, Heap.size_push]; exact Nat.lt_succ_of_lt hlt⟩
    rw [upd_ne (by rw [← hD]; exact Nat.ne_of_lt hlt)]
    exact (f2 b hb).1
  have st3 : tn 0 ss3.heap := T.keep _ _ _ st2 fun b _ o e => by rw [h3]; exact Heap.get?_push_of_some _ e
  have Iv4 := block_start Iv3 ok hN f3
  have pg := hg ss3 (upd Hz2 D (SetK X.prog X.w D (fun _ => false) 0)) ss3.heap.objs.size (cellsFrom (ss3.heap.objs.size + 1) scope.names (cloFrom X.env.cells scope.names [])) fp
  have pt := ht ss3 (upd Hz2 D (SetK X.prog X.w D (fun _ => false) 0)) ss3.heap.objs.size (cellsFrom (ss3.heap.objs.size + 1) scope.names (cloFrom X.env.cells scope.names [])) fp
  have pe := he ss3 (upd Hz2 D (SetK X.prog X.w D (fun _ => false) 0)) ss3.heap.objs.size (cellsFrom (ss3.heap.objs.size + 1) scope.names (cloFrom X.env.cells scope.names [])) fp
  show codeAny _ _ (.compStart (.SetComp elt [⟨tg, iter, ifs, 0⟩] scope pos) 0 (.ref it) (.ref D) (compEnvC scope (cellsFrom (ss3.heap.objs.size + 1) scope.names (cloFrom X.env.cells scope.names [])) ss3.heap.objs.size X.env)) (compPost (model X.prog X.w) X.A X.xe use Qf (.ref D) ss3.heap.objs.size) { ss3 with heap := pushCells (ss3.heap.push { cls := .type "dict", data := .dict #[] }) scope.names }
  have nfp : ∀ b ∈ fp, (upd Hz2 D (SetK X.prog X.w D (fun _ => false) 0)) b = none := fun b hb => (f3 b hb).1.1
  generalize hce : compEnvC scope (cellsFrom (ss3.heap.objs.size + 1) scope.names (cloFrom X.env.cells scope.names [])) ss3.heap.objs.size X.env = ce at Iv4 pg pt pe ⊢
  have cL : ce.locals = ss3.heap.objs.size := by subst hce; rfl
  generalize hH3 : upd Hz2 D (SetK X.prog X.w D (fun _ => false) 0) = Hz3 at Iv3 Iv4 pg pt pe w0 nfp f3
  generalize hs4 : ({ ss3 with heap := pushCells (ss3.heap.push { cls := .type "dict", data := .dict #[] }) scope.names } : Shared) = ss4 at Iv4 ⊢
  have st4 : tn 0 ss4.heap := T.keep _ _ _ st3 fun b _ o e => by rw [← hs4]; exact pushCells_keeps _ _ _ _ (Heap.get?_push_of_some _ e)
  have stat : ∀ {σ' : L2.St} {H' : Hp} {s' : Shared}, Inv (X.blk ss3 Hz3 scope ce fp) [] σ' H' s' → (∀ b ∈ fp, H' b = none) → ∀ b ∈ fp, FpOk (X.blk ss3 Hz3 scope ce fp) [] H' b := fun {σ' H' s'} I' hn b hb =>
    ⟨hn b hb, (I'.ok.exf b hb).1, I'.ok.exfs b hb, .inl hb, fun x c e => (I'.ok.exf b hb).2 x c e, fun p hp => absurd (show p ∈ ([] : List (Addr × Obj)) ++ [] from hp) (by simp)⟩
  have loop : codeAny (model X.prog X.w) X.A (.compLoop (.SetComp elt [⟨tg, iter, ifs, 0⟩] scope pos) 0 (.ref it) (.ref D) ce) (compPost (model X.prog X.w) X.A X.xe use Qf (.ref D) ss3.heap.objs.size) ss4 := by
    refine PpSet.compLoopS_any (fun n s' => ∃ i H', Inv (X.blk ss3 Hz3 scope ce fp) [] (wipe σ (own.map (·.2))) H' s' ∧ tn i s'.heap ∧ (∀ b ∈ fp, H' b = none) ∧ W i n H') ?_ m0 ⟨0, Hz3, Iv4, st4, nfp, w0⟩
    rintro n ss5 ⟨i, Hz5, Iv5, st5, n5, w5⟩
    rcases turn i n Hz5 w5 with ⟨stop, qq⟩ | ⟨go, Nx, hNx, step⟩
    · have td := T.done (X.blk ss3 Hz3 scope ce fp) rfl rfl rfl hc i [] ss5 _ Hz5 (fun _ _ => False) Iv5 (stat Iv5 n5) st5 stop
      refine thnF td fun r ss6 ⟨hr, Iv6⟩ => ?_
      subst hr
      -- back in the def's context
      have Iv7 : Inv X pins σ Hz5 ss6 := Iv3.call' (ch := fp) Iv6.os Iv6.base Iv6.hok Iv6.bare fun b hb => ⟨(f3 b hb).1.2.2.2.1, (f3 b hb).1.2.1, (f3 b hb).1.2.2.2.2.1, (f3 b hb).1.2.2.2.2.2⟩
      have nC : Hz5 ss3.heap.objs.size = none := by
        have z : Hz5 ce.locals = none := Iv6.free
        rw [cL] at z
        exact z
      obtain ⟨m, hn, _⟩ := Iv6.loc
      have hn : ss6.heap.Ns ce.locals m := hn
      rw [cL] at hn
      exact hRR D ss3.heap.objs.size ss6 m Hz5 Iv7 qq hn (Iv3.fpOk (Nat.le_refl _) nC)
    · have ti := T.item (X.blk ss3 Hz3 scope ce fp) rfl rfl rfl hc i [] ss5 _ Hz5 (fun _ _ => False) Iv5 (stat Iv5 n5) st5 go
      refine thnF ti fun r ss6 ⟨u, hr, h6⟩ => ?_
      subst hr
      refine thnF h6 fun _ ss7 ⟨x, Hz7, Iv7, r7, y7, st7, n7⟩ => ?_
      have Iv7' := Iv7.pinned (stat Iv7 n7) (T.obj _ _ st7)
      refine thnF (pg.run _ ss7 _ Hz7 x u _ Iv7' r7 (step x Hz7 y7)) fun _ ss8 ⟨σ8, Hz8, Iv8, hw8, q8⟩ => ?_
      refine thnF (pt.run _ ss8 σ8 Hz8 _ Iv8 q8) fun b ss9 ⟨Hz9, Iv9, q9⟩ => ?_
      -- the turn's end
      have fin : ∀ {s' : Shared} {H' : Hp}, Inv (X.blk ss3 Hz3 scope ce fp) ([] ++ pinsAt fp ss7.heap) σ8 H' s' → Nx H' → ∃ m, m < n ∧ ∃ i H', Inv (X.blk ss3 Hz3 scope ce fp) [] (wipe σ (own.map (·.2))) H' s' ∧ tn i s'.heap ∧ (∀ b ∈ fp, H' b = none) ∧ W i m H' := fun {s' H'} I' nx => by
        obtain ⟨m', hm, w'⟩ := hNx H' nx
        have pin' : ∀ b ∈ fp, ∀ o, ss7.heap.get? b = some o → s'.heap.get? b = some o ∧ H' b = none := fun b hb o e =>
          let z := I'.pin (b, o) (List.mem_append_right _ (List.mem_append_right _ (mem_pinsAt hb e)))
          ⟨z.1, z.2.1⟩
        have hl : (wipe σ (own.map (·.2))).length = σ8.length := by rw [← hw8, wipe_length]
        refine ⟨m', hm, i + 1, H', (I'.unpinned (pins := [])).weak hl (fun j v e => ?_), T.keep _ _ _ st7 fun b hb o e => (pin' b hb o e).1, fun b hb => ?_, w'⟩
        · rw [← hw8] at e
          exact (wipe_some e).1
        · obtain ⟨o, e, _⟩ := T.obj _ _ st7 b hb
          exact (pin' b hb o e).2
      cases b with
      | false =>
        simp only [Bool.false_eq_true, if_false] at q9 ⊢
        exact fin Iv9 q9
      | true =>
        simp only [if_true] at q9 ⊢
        refine thnF (pe.run _ ss9 σ8 Hz9 _ Iv9 q9) fun z ss10 ⟨yv, Hz10, Iv10, r10, cb, S0, n0, ey, hD10, hz10, nx⟩ => ?_
        subst ey
        exact addK_ok (X := X.blk ss3 Hz3 scope ce fp) Iv10 hD10 hz10 r10 fun ss11 Iv11 => fin Iv11 nx
  exact PpSet.codeAny_compStart_set loop (T.self X.A 0 _ _ _ st4 loop)
theorem pe_scK {elt tg iter : Expr} {ifs : List Expr} {scope : Scope} {own : List (PySem.Str × Nat)} {pos : Pos} {wi : TI} {g : TG} {tt : TT} {te : TE} (hc : X.calm = true) (hN : X.N.Nodup) (hi : PI X tg iter wi) (ok : BlkOk X.N X.env.scope scope own)
    (hg : ∀ (s : Shared) (H : Hp) (C : Addr) (cl : List (PySem.Str × Addr)) (fp : List Addr), PG (X.blk s H scope (compEnvC scope cl C X.env) fp) tg g) (ht : ∀ (s : Shared) (H : Hp) (C : Addr) (cl : List (PySem.Str × Addr)) (fp : List Addr), PTs (X.blk s H scope (compEnvC scope cl C X.env) fp) ifs tt)
    (he : ∀ (s : Shared) (H : Hp) (C : Addr) (cl : List (PySem.Str × Addr)) (fp : List Addr), PE (X.blk s H scope (compEnvC scope cl C X.env) fp) elt te) (hs : ∀ x, foldedSetIterable iter X.env x = pure x := by intro _; rfl) :
    PE X (.SetComp elt [⟨tg, iter, ifs, 0⟩] scope pos) (tScK X.prog X.w wi g tt te (own.map (·.2))) := by
  refine ⟨fun pins s σ H Q I h => ?_⟩
  rw [PpSet.eval_SetComp]
  refine sk_core hc hN I hi ok hg ht he hs h fun D C s' m H' I' q hn f => ⟨m, hn, fun h'' sb => ?_⟩
  obtain ⟨f0, f1, f2, f3, f4, f5⟩ := f
  exact ⟨.ref D, H', I'.turned (t' := s'.toks) (fun b o hb e => (sb.2 b hb).trans e) f0 f1 f3 f4 f5, rfl, q⟩
end
end DL

namespace DL
open PySem PySem.Spec PyProof.Rows L2
section
variable {X : Cx}
def tLenS (P : Program) (w : World) (te : TE) : TE := fun σ H Q => te σ H fun x H1 => ∃ (a : Addr) (S : Key → Bool) (n : Nat), x = V.ref a ∧ H1 a = some (SetK P w a S n) ∧ n < scanBound ∧ Q (.int n) H1
theorem pe_lenS {a : Expr} {ta : TE} {p pos : Pos} (hg : Gl X "len") (hm : X.mg "len" = none) (ha : PE X a ta) (na : isStar a = false) : PE X (.Call (.Name "len" p) [a] [] pos) (tLenS X.prog X.w ta) := by
  refine ⟨fun pins s σ H Q I h => ?_⟩
  refine Call_ (ld_blt I hg hm boot_len ?_)
  refine PyProof.Rows.callWith_builtin1 (PyProof.Rows.args_cons (thn (ha.run pins s σ H _ I h) fun v s1 ⟨x, H1, I1, r1, q1⟩ => PyProof.Rows.args_nil ?_) (star_cons na)) (star_cons na) rfl
  obtain ⟨l, S, n, rfl, hq, h1, q1⟩ := q1
  cases r1
  obtain ⟨o, es, ep, t, ho, hex, hd, _, _, _, hf, hn⟩ := setK_get I1 hq
  have hb : scanBound < 2 ^ 62 := by unfold scanBound; omega
  refine call_len_set ho hex hd hf (by rw [hn]; omega) ⟨.int n, H1, I1.tok _, ⟨_, by rw [hn]⟩, q1⟩
end
section
variable {K : PySem.W.Frag} {M M1 : Mem} {H H1 : Hp} {p : Addr} {P : Program} {w : World} {S S' : Key → Bool} {n n' : Nat}
theorem ext_outS (h : H p = some (SetK P w p S n)) : Ext K H (upd H p (SetK P w p S' n')) := by
  have ne : ∀ {a : Addr} {u : HO}, H a = some u → u ≠ SetK P w p S n → a ≠ p := fun {a u} q k z => by subst z; rw [h] at q; exact k (Option.some.inj q).symm
  refine ⟨fun a xs e => ?_, fun a xs e => ?_, fun a xs ⟨o, e, hd⟩ => ⟨o, by rw [upd_ne (ne e fun z => by unfold SetK at z; cases z)]; exact e, hd⟩, fun a o xs e => by rw [upd_ne (ne e fun z => by unfold SetK at z; cases z)]; exact e⟩
  · rw [upd_ne (ne e fun z => by unfold SetK at z; cases z)]; exact e
  · rcases e with ⟨o, e⟩ | e
    · exact .inl ⟨o, by rw [upd_ne (ne e fun z => by unfold SetK at z; cases z)]; exact e⟩
    · exact .inr e
theorem mr_outS (m : MRel K M H) (h : H p = some (SetK P w p S n)) (np : M p = none) : MRel K M (upd H p (SetK P w p S' n')) := fun a o e => by
  have : a ≠ p := fun z => by subst z; rw [np] at e; cases e
  exact (m a o e).ext (ext_outS h) (upd_ne this)
end
abbrev DTK := Sl → Mem → (List Key → Mem → Prop) → EX → Prop
def dSc (w : DTI) (gt : DTG) (tt : DTT) (te : DTE) (vs : List Nat) : DTK := fun e M Q E => w e M (fun src M1 => ∃ I : Nat → List Key → Mem → Prop, I 0 [] M1 ∧
  (∀ i d acc M', src.items[i]? = some d → I i acc M' → src.live M' ∧ gt d (wipeS e vs) M' (fun e2 M2 => tt e2 M2 (fun b M3 =>
    if b = true then te e2 M3 (fun y M4 => acc.length < 4000 ∧ ∃ k, keyD y = some k ∧ I (i + 1) (acc ++ [k]) M4) EF else I (i + 1) acc M3) EF) EF) ∧
  ∀ acc M', I src.items.length acc M' → src.live M' ∧ Q acc M') E
def dLenS (t : DTK) : DTE := fun e M Q E => t e M (fun ks M1 => ks.length ≤ 4000 ∧ Q (.int (ddup ks).length) M1) E
theorem setK_snoc (P : Program) (w : World) (p : Addr) (ks : List Key) (k : Key) : SetK P w p (fun j => memB j (ddup ks) || decide (j = k)) (if memB k (ddup ks) = true then (ddup ks).length else (ddup ks).length + 1) = SetK P w p (fun j => memB j (ddup (ks ++ [k]))) (ddup (ks ++ [k])).length := by
  rw [ddup_snoc]
  have e1 : (fun j => memB j (ddup ks) || decide (j = k)) = fun j => memB j (dstep (ddup ks) k) := by
    funext j
    unfold memB
    rw [Bool.eq_iff_iff]
    simp only [Bool.or_eq_true, decide_eq_true_eq, mem_dstep]
  have e2 : (if memB k (ddup ks) = true then (ddup ks).length else (ddup ks).length + 1) = (dstep (ddup ks) k).length := by
    unfold dstep
    by_cases h : k ∈ ddup ks
    · rw [if_pos (memB_iff.mpr h), if_pos h]
    · rw [if_neg (fun e => h (memB_iff.mp e)), if_neg h]; simp
  rw [e1, e2]
section
variable {g : Gd} {elt tg iter : Expr} {ifs : List Expr} {scope : Scope} {own : List (Str × Nat)} {pos : Pos} {w : DTI} {gt : DTG} {tt : DTT} {te : DTE} {ns : List Nat}
theorem sc_low {w' : TI} {g' : TG} {tt' : TT} (ki : ∀ σ H e M R (RV : It → Hp → Prop), SRel g.X.K H e σ → MRel g.X.K M H → Fr g.M0 g.H0 M H → w e M R g.E →
      (∀ J src M1 H1, JRel g.X.K H1 J src → MRel g.X.K M1 H1 → Fr M H M1 H1 → R src M1 → RV J H1) → w' σ H RV)
    (kg : ∀ σ H e M v d Q (QV : L2.St → Hp → Prop), SRel g.X.K H e σ → MRel g.X.K M H → Is g.X.K H d v → gt d e M Q EF →
      (∀ σ' H' e' M', SRel g.X.K H' e' σ' → MRel g.X.K M' H' → Fr M H M' H' → (∀ vs, (∀ i ∈ ns, i ∈ vs) → L2.wipe σ' vs = L2.wipe σ vs) → Q e' M' → QV σ' H') → g' v σ H QV)
    (kt : ∀ σ H e M Q (QV : Bool → Hp → Prop), SRel g.X.K H e σ → MRel g.X.K M H → tt e M Q EF → (∀ b M' H', MRel g.X.K M' H' → Fr M H M' H' → Q b M' → QV b H') → tt' σ H QV)
    (hns : ∀ i ∈ ns, i ∈ own.map (·.2)) {σ : L2.St} {H : Hp} {e : Sl} {M : Mem} {Q : List Key → Mem → Prop} {QV : VK} (sl : SRel g.X.K H e σ) (mr : MRel g.X.K M H) (fr : Fr g.M0 g.H0 M H) (q : dSc w gt tt te (own.map (·.2)) e M Q g.E)
    (k : ∀ a ks M' H', H' a = some (SetK g.X.prog g.X.w a (fun j => memB j (ddup ks)) (ddup ks).length) → M' a = none → H a = none → MRel g.X.K M' H' → Fr M H M' H' → Q ks M' → QV (.ref a) H') : tScK g.X.prog g.X.w w' g' tt' (lowAny g.X.K te) (own.map (·.2)) σ H QV := by
  refine ki σ H e M _ _ sl mr fr q fun J src M1 H1 jr m1 f1 q => ?_
  obtain ⟨I, h0, turn, last⟩ := q
  intro p hp
  have np1 : M1 p = none := m1.none_of hp
  have h0p : H p = none := f1.there p hp
  have fn := fr_new (o := SetK g.X.prog g.X.w p (fun _ => false) 0) m1 hp
  have e0 : SetK g.X.prog g.X.w p (fun _ => false) 0 = SetK g.X.prog g.X.w p (fun j => memB j (ddup [])) (ddup ([] : List Key)).length := rfl
  refine ⟨fun i n H' => i + n = src.items.length ∧ ∃ ks M', H' p = some (SetK g.X.prog g.X.w p (fun j => memB j (ddup ks)) (ddup ks).length) ∧ M' p = none ∧ MRel g.X.K M' H' ∧ Fr M1 H1 M' H' ∧ I i ks M',
    ⟨src.items.length, by omega, [], M1, by rw [upd_same, e0], np1, mr_new m1 hp, fn, h0⟩, fun i n H' hw => ?_⟩
  obtain ⟨hn, ks, M', hp', np, m', f', hw⟩ := hw
  cases n with
  | zero =>
    obtain rfl : i = src.items.length := by omega
    obtain ⟨lv, q⟩ := last ks M' hw
    exact .inl ⟨(jr _ M' H' m' (f'.ext m1) lv).2 (Nat.le_refl _), k p ks M' H' hp' np h0p m' (f1.trans f') q⟩
  | succ n =>
    have hi : i < src.items.length := by omega
    have hd := List.getElem?_eq_getElem hi
    obtain ⟨lv, q⟩ := turn i _ ks M' hd hw
    obtain ⟨go, yl⟩ := (jr i M' H' m' (f'.ext m1) lv).1 _ hd
    refine .inr ⟨go, fun H2 => ∃ ks M', H2 p = some (SetK g.X.prog g.X.w p (fun j => memB j (ddup ks)) (ddup ks).length) ∧ M' p = none ∧ MRel g.X.K M' H2 ∧ Fr M1 H1 M' H2 ∧ I (i + 1) ks M', fun H2 z => ⟨n, by omega, by omega, z⟩, fun x H2 y => ?_⟩
    obtain ⟨ix, m2, f2⟩ := yl x H2 y
    refine kg (wipe σ (own.map (·.2))) H2 (wipeS e (own.map (·.2))) M' x _ _ _ ((sl.ext ((f1.trans (f'.trans f2)).ext mr)).wipe _) m2 ix q fun σ3 H3 e3 M3 sl3 m3 f3 hwp q => ?_
    refine ⟨(hwp _ hns).trans (wipe_wipe σ _), ?_⟩
    refine kt σ3 H3 e3 M3 _ _ sl3 m3 q fun b M4 H4 m4 f4 q => ?_
    have f24 := f2.trans (f3.trans f4)
    cases b with
    | false =>
      obtain ⟨p4, np4⟩ := f24.keep p _ hp' np
      exact ⟨ks, M4, p4, np4, m4, f'.trans f24, q⟩
    | true =>
      refine lowAny_start (sl3.ext (f4.ext m3)) m4 q fun y dy M5 H5 i5 m5 f5 q => ?_
      have f25 := f24.trans f5
      obtain ⟨p5, np5⟩ := f25.keep p _ hp' np
      obtain ⟨hz, kk, hk, q⟩ := q
      have ey := keyD_is i5 hk
      have hle := ddup_le ks
      have hb : 4000 + 1 < scanBound := by unfold scanBound; omega
      refine ⟨kk, _, _, ey, p5, by omega, ks ++ [kk], M5, ?_, np5, mr_outS m5 p5 np5, fr_out (f'.trans f25) hp, q⟩
      rw [upd_same, setK_snoc]
theorem de_lenS {p pos2 : Pos} (hc : g.X.calm = true) (hN : g.X.N.Nodup) (hl : Gl g.X "len") (hm : g.X.mg "len" = none) (hi : DI g tg iter w) (ok : BlkOk g.X.N g.X.env.scope scope own) (hg : BlkG g scope tg gt ns) (ht : BlkT g scope ifs tt) (he : BlkE g scope elt te) (hns : ∀ i ∈ ns, i ∈ own.map (·.2))
    (hs : ∀ x, foldedSetIterable iter g.X.env x = pure x) : DE g (.Call (.Name "len" p) [.SetComp elt [⟨tg, iter, ifs, 0⟩] scope pos] [] pos2) (dLenS (dSc w gt tt te (own.map (·.2)))) := by
  obtain ⟨w', pi, ki⟩ := hi.pi
  obtain ⟨g', pg, kg⟩ := hg
  obtain ⟨t', pt, kt⟩ := ht
  refine DE.of (pe_lenS hl hm (pe_scK hc hN pi ok pg pt he.pe hs) rfl) fun σ H e M Q sl mr fr q => ?_
  refine sc_low ki kg kt hns sl mr fr q fun a ks M' H' h n n0 m f q => ?_
  have hle := ddup_le ks
  have hb : 4000 + 1 < scanBound := by unfold scanBound; omega
  exact ⟨a, _, _, rfl, h, by omega, lowQ.mk ii_int m f q.2⟩
end
end DL

namespace DL
open PySem PySem.Spec PyProof.Rows L2
def dgTup2 (u : DTGs) : DTG := fun d e M Q E => match d with
  | .tup ds => ds.length = 2 ∧ u ds e M Q E
  | .tx ds => ds.length = 2 ∧ u ds e M Q E
  | .rl ds => ds.length = 2 ∧ u ds e M Q E
  | _ => False
theorem dg_tup2 {g : Gd} {xs : List Expr} {pos : Pos} {u : DTGs} {ns : List Nat} {k : Nat} (hc : g.X.calm = true) (h : DGs g xs u ns) (h2 : xs.length = 2) (hst : xs.all (fun x => !isStar x) = true) : DG g (.Tuple xs k pos) (dgTup2 u) ns := by
  obtain ⟨u', p, k2⟩ := h.pg
  refine ⟨⟨_, pg_tupQ (n := xs.length) hc p dgs_len (dgs_nostar hst), fun σ H e M v d Q QV sl mr fr i q kk => ?_⟩⟩
  cases d with
  | tup ds =>
    rw [is_tup] at i
    obtain ⟨a, vs, rfl, h1, l⟩ := i
    exact ⟨a, vs, rfl, .inl (SqT.of h1), by rw [l.length, h2]; exact q.1, k2 σ H e M vs ds Q QV sl mr fr l q.2 kk⟩
  | tx ds =>
    rw [is_tx] at i
    obtain ⟨a, vs, rfl, h1, l⟩ := i
    exact ⟨a, vs, rfl, .inl h1.sq, by rw [l.length, h2]; exact q.1, k2 σ H e M vs ds Q QV sl mr fr l q.2 kk⟩
  | rl ds =>
    rw [is_rl] at i
    obtain ⟨a, vs, rfl, h1, l⟩ := i
    exact ⟨a, vs, rfl, .inr h1.sq, by rw [l.length, h2]; exact q.1, k2 σ H e M vs ds Q QV sl mr fr l q.2 kk⟩
  | _ => exact q.elim
theorem stores_sub {x y x2 y2 z : Expr} {p p2 pos : Pos} {n : Nat} {env : PySem.Env} : swappedStores [.Tuple [.Subscript x y p, .Subscript x2 y2 p2] n pos] z env = pure none := by
  unfold swappedStores
  cases z with
  | Tuple vs _ _ =>
    simp only [List.length_cons, List.length_nil, List.filterMap_cons, List.filterMap_nil]
    split
    · rfl
    · split
      · rfl
      · rfl
  | _ => rfl
theorem stores_long {a b c d : Expr} {r : List Expr} {z : Expr} {pos : Pos} {n : Nat} {env : PySem.Env} : swappedStores [.Tuple (a :: b :: c :: d :: r) n pos] z env = pure none := by
  unfold swappedStores
  cases z with
  | Tuple vs _ _ =>
    simp only [List.length_cons]
    split
    · rfl
    · rename_i h
      exfalso
      apply h
      have : ¬ (r.length + 1 + 1 + 1 + 1 = 2) := by omega
      have : ¬ (r.length + 1 + 1 + 1 + 1 = 3) := by omega
      simp_all
  | _ => rfl
end DL

namespace DL
open PySem PySem.Spec PyProof.Rows L2
section
variable {X : Cx} {pins : List (Addr × Obj)} {σ : L2.St} {H : Hp} {s : Shared}
theorem inv_freezeK (I : Inv X pins σ H s) {p : Addr} {xs : List (Key × V)} (h : H p = some (.dK xs)) : ∃ o, Inv X pins σ (upd H p (.frz o (.dK xs))) s := I.lock h trivial
end
section
variable {K : PySem.W.Frag} {M : Mem} {H : Hp} {p : Addr} {ds : List (Key × D)} {vs : List (Key × V)} {o : Obj}
theorem ext_frzK (h : H p = some (.dK vs)) : Ext K H (upd H p (.frz o (.dK vs))) := by
  have ne : ∀ {a : Addr} {u : HO}, H a = some u → u ≠ .dK vs → a ≠ p := fun {a u} q k z => by subst z; rw [h] at q; cases q; exact k rfl
  refine ⟨fun a xs e => ?_, fun a xs e => ?_, fun a xs ⟨o, e, hd⟩ => ⟨o, by rw [upd_ne (ne e fun z => by cases z)]; exact e, hd⟩, fun a o xs e => by rw [upd_ne (ne e fun z => by cases z)]; exact e⟩
  · rw [upd_ne (ne e fun z => by cases z)]; exact e
  · rcases e with ⟨o, e⟩ | e
    · exact .inl ⟨o, by rw [upd_ne (ne e fun z => by cases z)]; exact e⟩
    · exact .inr e
theorem fr_frzK (h : M p = some (.dK ds)) : Fr M H (mdel M p) (upd H p (.frz o (.dK vs))) := by
  refine ⟨fun b u q n => ?_, fun b q => ?_⟩
  · have : b ≠ p := fun z => by subst z; rw [h] at n; cases n
    exact ⟨by rw [upd_ne this]; exact q, by rw [mdel_ne this]; exact n⟩
  · exact upd_none q
theorem mr_frzK (r : MRel K M H) (hH : H p = some (.dK vs)) : MRel K (mdel M p) (upd H p (.frz o (.dK vs))) := fun a u e => by
  have ne : a ≠ p := fun z => by subst z; rw [mdel_same] at e; cases e
  rw [mdel_ne ne] at e
  exact (r a u e).ext (ext_frzK hH) (upd_ne ne)
theorem is_frzK (k : vs.map (·.1) = ds.map (·.1)) (l : IsL K H (ds.map (·.2)) (vs.map (·.2))) (hH : H p = some (.dK vs)) : Is K (upd H p (.frz o (.dK vs))) (.rk (ds.map (·.1)) (ds.map (·.2))) (.ref p) :=
  is_rk.mpr ⟨p, vs, rfl, ⟨o, upd_same⟩, k, IsL.ext (ext_frzK hH) _ _ l⟩
end
def dFzK (t : DTE) : DTE := fun e M Q E => t e M (fun x M1 => match x with | .ref p => ∃ kvs, M1 p = some (.dK kvs) ∧ Q (.rk (kvs.map (·.1)) (kvs.map (·.2))) (mdel M1 p) | _ => False) E
theorem de_fzK {g : Gd} {x : Expr} {t : DTE} (h : DE g x t) : DE g x (dFzK t) := by
  refine ⟨fun pins s σ H e M Q I q => thn (h.run pins s σ H e M _ I q) fun u s' z => ?_⟩
  obtain ⟨v, d, H', M', r, i, J, f, q⟩ := z
  cases d with
  | ref p =>
    obtain ⟨xs, hM, q⟩ := q
    obtain ⟨vs, hH, l⟩ := J.mr p _ hM
    obtain ⟨o, J2⟩ := inv_freezeK J.inv hH
    rw [is_ref] at i
    subst i
    exact ⟨.ref p, .rk _ _, _, mdel M' p, r, is_frzK l.1 l.2 hH, J.next J2 (mr_frzK J.mr hH) (fr_frzK hM), f.trans (fr_frzK hM), q⟩
  | _ => exact q.elim
def dFrzK (i : Nat) (t : DTS) : DTS := fun D E e M => match getS e i with
  | some (.ref p) => ∃ kvs, M p = some (.dK kvs) ∧ t D E (setS e i (some (.rk (kvs.map (·.1)) (kvs.map (·.2))))) (mdel M p)
  | _ => False
def tFrzK (t : TS) : TS := fun D σ H => ∃ p xs, H p = some (.dK xs) ∧ ∀ o, t D σ (upd H p (.frz o (.dK xs)))
theorem pss_frzK {X : Cx} {sts : List Stmt} {t : TS} (h : PSs X sts t) : PSs X sts (tFrzK t) := ⟨fun pins s σ H D I q => by
  obtain ⟨p, xs, hp, q⟩ := q
  obtain ⟨o, J⟩ := inv_freezeK I hp
  exact h.run pins s σ _ D J (q o)⟩
theorem ds_frzK {g : Gd} {sts : List Stmt} {t : DTS} (i : Nat) (h : DSs g sts t) : DSs g sts (dFrzK i t) := by
  obtain ⟨t', ps, k⟩ := h.ps
  refine ⟨⟨tFrzK t', pss_frzK ps, fun P hP σ H e M D DV sl mr pm le q => ?_⟩⟩
  have q : (match getS e i with
    | some (.ref p) => ∃ kvs, M p = some (.dK kvs) ∧ t D g.E (setS e i (some (.rk (kvs.map (·.1)) (kvs.map (·.2))))) (mdel M p)
    | _ => False) := q
  cases eg : getS e i with
  | none => rw [eg] at q; exact q.elim
  | some d =>
    rw [eg] at q
    cases d with
    | ref p =>
      obtain ⟨xs, hM, q⟩ := q
      obtain ⟨vs, hH, l⟩ := mr p _ hM
      obtain ⟨v, hv, iv⟩ := sl.get eg
      rw [is_ref] at iv
      subst iv
      refine ⟨p, vs, hH, fun o => k P hP σ _ _ _ D DV ?_ (mr_frzK mr hH) (hP.step _ _ _ _ pm (fr_frzK hM)) le q⟩
      have s2 := SRel.set (is_frzK (o := o) l.1 l.2 hH) i (sl.ext (ext_frzK (o := o) hH))
      rwa [set_id hv] at s2
    | _ => exact q.elim
end DL

namespace DL
open PySem PySem.Spec PyProof.Rows L2
def dPairs : List (DTE × DTE) → Sl → Mem → (List (Key × D) → Mem → Prop) → EX → Prop
  | [], _, M, Q, _ => Q [] M
  | (tk, tv) :: r, e, M, Q, E => tk e M (fun x M1 => tv e M1 (fun y M2 => ∃ k, keyD x = some k ∧ dPairs r e M2 (fun ps M3 => Q ((k, y) :: ps) M3) E) E) E
def dDisp (trs : List (DTE × DTE)) : DTE := fun e M Q E => dPairs trs e M (fun kvs M1 => kvs.length ≤ 15 ∧ ∀ p, M1 p = none → Q (.ref p) (wr M1 p (.dK (mergeG [] kvs)))) E
section
variable {g : Gd}
theorem low_pairs : ∀ {trs : List (DTE × DTE)} {σ : L2.St} {H : Hp} {e : Sl} {M : Mem} {Q : List (Key × D) → Mem → Prop} {QV : List (V × V) → Hp → Prop}, SRel g.X.K H e σ → MRel g.X.K M H → Fr g.M0 g.H0 M H → dPairs trs e M Q g.E →
    (∀ kvs ws M' H', KRel g.X.K H' kvs ws → MRel g.X.K M' H' → Fr M H M' H' → Q kvs M' → QV (ws.map fun kv => (kV kv.1, kv.2)) H') → tPairs (trs.map fun t => (lowE g t.1, lowE g t.2)) σ H QV
  | [], σ, H, e, M, Q, QV, sl, mr, fr, q, k => k [] [] M H KRel.nil mr Fr.refl q
  | (tk, tv) :: r, σ, H, e, M, Q, QV, sl, mr, fr, q, k => by
    refine low_start sl mr fr q fun x d M1 H1 ix m1 f1 q => ?_
    refine low_start (sl.ext (f1.ext mr)) m1 (fr.trans f1) q fun y d2 M2 H2 iy m2 f2 q => ?_
    obtain ⟨key, hk, q⟩ := q
    have hx := keyD_is ix hk
    subst hx
    refine low_pairs (sl.ext ((f1.trans f2).ext mr)) m2 (fr.trans (f1.trans f2)) q fun kvs ws M3 H3 r3 m3 f3 q => ?_
    exact k ((key, d2) :: kvs) ((key, y) :: ws) M3 H3 ⟨by rw [List.map_cons, List.map_cons, r3.1], by rw [List.map_cons, List.map_cons]; exact IsL.mk (Is.ext (f3.ext m2) _ _ iy) r3.2⟩ m3 (f1.trans (f2.trans f3)) q
inductive DPs (g : Gd) : List (Option Expr) → List Expr → List (DTE × DTE) → Prop
  | nil : DPs g [] [] []
  | cons {k v : Expr} {ks : List (Option Expr)} {vs : List Expr} {tk tv : DTE} {r : List (DTE × DTE)} (hk : DE g k tk) (hv : DE g v tv) (t : DPs g ks vs r) : DPs g (some k :: ks) (v :: vs) ((tk, tv) :: r)
theorem DPs.pps {pos : Pos} {ks : List (Option Expr)} {vs : List Expr} {r : List (DTE × DTE)} (h : DPs g ks vs r) : PPs g.X pos ks vs (r.map fun t => (lowE g t.1, lowE g t.2)) := by
  induction h with
  | nil => exact pps_nil
  | cons hk hv t ih => exact pps_cons hk.pe hv.pe ih
theorem DPs.all {ks : List (Option Expr)} {vs : List Expr} {r : List (DTE × DTE)} (h : DPs g ks vs r) : ks.all (·.isSome) = true ∧ ks.length = vs.length := by
  induction h with
  | nil => exact ⟨rfl, rfl⟩
  | cons hk hv t ih => exact ⟨by rw [List.all_cons, ih.1]; rfl, by rw [List.length_cons, List.length_cons, ih.2]⟩
theorem fr_disp {M M' : Mem} {H H' : Hp} {p : Addr} {o : HO} (hp : H p = none) (f : Fr M (upd H p (.dK [])) M' H') : Fr M H M' (upd H' p o) := ⟨fun b u hb n => by
  have e : b ≠ p := ne_of_none hb hp
  obtain ⟨q1, q2⟩ := f.keep b u (by rw [upd_ne e]; exact hb) n
  exact ⟨by rw [upd_ne e]; exact q1, q2⟩, fun b q => upd_none (f.there b (upd_none q))⟩
theorem de_disp {pos : Pos} {keys : List (Option Expr)} {values : List Expr} {trs : List (DTE × DTE)} (h : DPs g keys values trs) (h0 : keys ≠ []) (h15 : keys.length ≤ 15) : DE g (.Dict keys values pos) (dDisp trs) := by
  obtain ⟨ha, hl⟩ := h.all
  refine DE.of (pe_disp h.pps ha hl h0 h15) fun σ H e M Q sl mr fr q p hp => ?_
  have fn := fr_new (o := HO.dK []) mr hp
  refine low_pairs (sl.ext (fn.ext mr)) (mr_new mr hp) (fr.trans fn) q fun kvs ws M1 H1 r1 m1 f1 q => ?_
  obtain ⟨q1, q2⟩ := f1.keep p _ upd_same (mr.none_of hp)
  obtain ⟨hz, q⟩ := q
  have hl2 : ws.length = kvs.length := by
    have := congrArg List.length r1.1
    rwa [List.length_map, List.length_map] at this
  refine ⟨q1, ws, rfl, by omega, ?_⟩
  have r2 : KRel g.X.K (upd H1 p (.dK (mergeK [] ws))) (mergeG [] kvs) (mergeK [] ws) := by
    have r3 : KRel g.X.K H1 (mergeG [] kvs) (mergeK [] ws) := KRel.merge r1 KRel.nil
    exact ⟨r3.1, IsL.ext (ext_outK q1) _ _ r3.2⟩
  obtain ⟨m2, f2⟩ := new_inK upd_same r2 q2 hp (mr_outK m1 q1 q2) (fr_disp hp f1)
  exact lowQ.mk ii_ref m2 f2 (q p q2)
end
end DL

namespace DL
open PySem PySem.Spec PyProof.Rows L2
section
variable {prog : Program} {w : World} {A : Around} {E : Value → Shared → Prop} {s : Shared} {z TI TO i1 i2 : Addr} {fp1 fp2 : List Addr} {n1 n2 i : Nat} {P1 P2 : Nat → Value → Prop} {St1 St2 : Nat → Heap → Prop}
theorem zd_item {a : Addr} {f : Bool} {oa : Obj} {Q : Value → Shared → Prop} (S : ZipSep2 z TI TO i1 i2 fp1 fp2) (D1 : Draws prog w A i1 fp1 n1 P1 St1) (D2 : Draws prog w A i2 fp2 n2 P2 St2) (hz : ZHeld s.heap z TI TO a f) (ha : s.heap.get? a = some oa) (hTI : IsTupOf2 s.heap TI (.ref i1) (.ref i2))
    (st1 : St1 i s.heap) (st2 : St2 i s.heap) (hlt1 : i < n1) (hlt2 : i < n2)
    (hQ : ∀ x y h' tk, P1 i x → P2 i y → ZHeld h' z TI TO a true → St1 (i + 1) h' → St2 (i + 1) h' → IsTupOf2 h' s.heap.objs.size x y → h'.objs.size = s.heap.objs.size + 1 →
      (∀ c o, c ≠ z → c ≠ i1 → c ≠ i2 → s.heap.get? c = some o → h'.get? c = some o) → Q (.ref s.heap.objs.size) { s with heap := h', toks := tk }) :
    wpAny (model prog w) A (Builtin.«zip.__next__» ⟨[.ref z], []⟩) (fun fin s' => ∃ v, fin = .done (.ret v) ∧ Q v s') E s := by
  obtain ⟨hp, g, d, tk0, os⟩ := s
  show wpAny _ _ (field (.ref z) 2 >>= _) _ _ _
  refine wpAny_bind (wpAny_field hz rfl (x := .bool false) rfl ?_)
  show wpAny _ _ (field (.ref z) 3 >>= _) _ _ _
  refine wpAny_bind (wpAny_field hz rfl (x := .ref TI) rfl ?_)
  refine wpAny_bind (wpAny_seqItems hTI rfl ?_)
  show wpAny _ _ (Builtin.SmallTypes.ownedTupleIsFree (.ref z) >>= _) _ _ _
  refine wpAny_bind (zh_free hz ha fun g1 hz1 hs1 => ?_)
  have hs1 : Heap.SameBut z hp g1 := hs1
  simp only [Bool.false_eq_true, if_false]
  refine wpAny_bind ?_
  first
  | rw [List.forIn_toArray]
  | (rw [← Array.forIn_toList]; simp only [List.toList_toArray])
  | rw [← Array.forIn_toList]
  simp only [List.forIn_cons, List.forIn_nil]
  refine wpAny_bind (wpAny_bind (wpAny_holding ?_))
  show wpAny _ _ (Builtin.SmallTypes.nextOf (.ref i1) >>= _) _ _ ⟨g1, g, d, tk0, os⟩
  refine wpAny_bind (D1.item i _ _ _ hlt1 (D1.over st1 hs1 S.zf1) fun x g2 tk1 hx sn1 hs2 => wpAny_pure ?_)
  have hs2 : Heap.SameBut i1 g1 g2 := hs2
  refine wpAny_pure ?_
  refine wpAny_bind (wpAny_bind (wpAny_holding ?_))
  show wpAny _ _ (Builtin.SmallTypes.nextOf (.ref i2) >>= _) _ _ ⟨g2, g, d, tk1, os⟩
  refine wpAny_bind (D2.item i _ _ _ hlt2 (D2.over (D2.over st2 hs1 S.zf2) hs2 S.sep1_2) fun y g3 tk2 hy sn2 hs3 => wpAny_pure ?_)
  have hs3 : Heap.SameBut i2 g2 g3 := hs3
  refine wpAny_pure (wpAny_pure ?_)
  have hsz : g3.objs.size = hp.objs.size := by rw [hs3.1, hs2.1, hs1.1]
  show wpAny _ _ (newTuple [x, y] >>= _) _ _ ⟨g3, g, d, tk2, os⟩
  refine wpAny_bind (wpAny_newTuple ?_)
  have up : ∀ c o, g3.get? c = some o → (g3.push { cls := .type "tuple", data := .seq #[x, y] }).get? c = some o := fun c o e => Heap.get?_push_of_some _ e
  refine wpAny_pure ⟨_, rfl, ?_⟩
  show Q (.ref g3.objs.size) ⟨_, g, d, tk2, os⟩
  have hT : IsTupOf2 (g3.push { cls := .type "tuple", data := .seq #[x, y] }) g3.objs.size x y := Heap.get?_push_size _ rfl
  have hz8 : (g3.push { cls := .type "tuple", data := .seq #[x, y] }).objs.size = g3.objs.size + 1 := Heap.size_push ..
  rw [hsz] at hT hz8 ⊢
  exact hQ x y _ tk2 hx hy (up _ _ (hs3.extBut _ _ S.zi2 (hs2.extBut _ _ S.zi1 hz1))) (D1.frame _ _ _ (D1.over sn1 hs3 S.sep2_1) fun b _ o e => up b o e) (D2.frame _ _ _ sn2 fun b _ o e => up b o e) hT hz8
    fun c o c1 c3 c4 e => up c o (hs3.extBut _ _ c4 (hs2.extBut _ _ c3 (hs1.extBut _ _ c1 e)))
theorem zd_end {a : Addr} {f : Bool} {oa : Obj} {Q : PySem.Fin → Shared → Prop} (S : ZipSep2 z TI TO i1 i2 fp1 fp2) (D1 : Draws prog w A i1 fp1 n1 P1 St1) (D2 : Draws prog w A i2 fp2 n2 P2 St2) (hz : ZHeld s.heap z TI TO a f) (ha : s.heap.get? a = some oa) (hTI : IsTupOf2 s.heap TI (.ref i1) (.ref i2))
    (st1 : St1 i s.heap) (st2 : St2 i s.heap) (hle1 : i ≤ n1) (hle2 : i ≤ n2) (hend : i = n1 ∨ i = n2)
    (hE : ∀ h' tk e, (∀ c o, c ≠ z → c ≠ i1 → c ≠ i2 → s.heap.get? c = some o → h'.get? c = some o) → (∃ o, h'.get? e = some o ∧ o.cls = .type "StopIteration") → E (.ref e) { s with heap := h', toks := tk }) :
    wpAny (model prog w) A (Builtin.«zip.__next__» ⟨[.ref z], []⟩) Q E s := by
  obtain ⟨hp, g, d, tk0, os⟩ := s
  show wpAny _ _ (field (.ref z) 2 >>= _) _ _ _
  refine wpAny_bind (wpAny_field hz rfl (x := .bool false) rfl ?_)
  show wpAny _ _ (field (.ref z) 3 >>= _) _ _ _
  refine wpAny_bind (wpAny_field hz rfl (x := .ref TI) rfl ?_)
  refine wpAny_bind (wpAny_seqItems hTI rfl ?_)
  show wpAny _ _ (Builtin.SmallTypes.ownedTupleIsFree (.ref z) >>= _) _ _ _
  refine wpAny_bind (zh_free hz ha fun g1 hz1 hs1 => ?_)
  have hs1 : Heap.SameBut z hp g1 := hs1
  simp only [Bool.false_eq_true, if_false]
  refine wpAny_bind ?_
  first
  | rw [List.forIn_toArray]
  | (rw [← Array.forIn_toList]; simp only [List.toList_toArray])
  | rw [← Array.forIn_toList]
  simp only [List.forIn_cons, List.forIn_nil]
  refine wpAny_bind (wpAny_bind (wpAny_holding ?_))
  show wpAny _ _ (Builtin.SmallTypes.nextOf (.ref i1) >>= _) _ _ ⟨g1, g, d, tk0, os⟩
  by_cases hlt1 : i < n1
  · refine wpAny_bind (D1.item i _ _ _ hlt1 (D1.over st1 hs1 S.zf1) fun x g2 tk1 hx sn1 hs2 => wpAny_pure ?_)
    have hs2 : Heap.SameBut i1 g1 g2 := hs2
    refine wpAny_pure ?_
    refine wpAny_bind (wpAny_bind (wpAny_holding ?_))
    show wpAny _ _ (Builtin.SmallTypes.nextOf (.ref i2) >>= _) _ _ ⟨g2, g, d, tk1, os⟩
    have hi2 : i = n2 := by omega
    refine wpAny_bind (D2.done ⟨g2, g, d, tk1, os⟩ _ _ (by rw [← hi2]; exact D2.over (D2.over st2 hs1 S.zf2) hs2 S.sep1_2) fun q e hq he => ?_)
    have hq : Heap.ExtBut i2 g2 q := hq
    exact hE q tk1 e (fun c o cz c1 c2 x => hq _ _ c2 (hs2.extBut _ _ c1 (hs1.extBut _ _ cz x))) he
  · have hi1 : i = n1 := by omega
    refine wpAny_bind (D1.done ⟨g1, g, d, tk0, os⟩ _ _ (by rw [← hi1]; exact D1.over st1 hs1 S.zf1) fun q e hq he => ?_)
    have hq : Heap.ExtBut i1 g1 q := hq
    exact hE q tk0 e (fun c o cz c1 c2 x => hq _ _ c1 (hs1.extBut _ _ cz x)) he
theorem zd_nextI {a : Addr} {f : Bool} {oa : Obj} {Q : Option Value → Shared → Prop} (S : ZipSep2 z TI TO i1 i2 fp1 fp2) (D1 : Draws prog w A.in1 i1 fp1 n1 P1 St1) (D2 : Draws prog w A.in1 i2 fp2 n2 P2 St2) (hz : ZHeld s.heap z TI TO a f) (ha : s.heap.get? a = some oa) (hTI : IsTupOf2 s.heap TI (.ref i1) (.ref i2))
    (st1 : St1 i s.heap) (st2 : St2 i s.heap) (hlt1 : i < n1) (hlt2 : i < n2)
    (hQ : ∀ x y h' tk, P1 i x → P2 i y → ZHeld h' z TI TO a true → St1 (i + 1) h' → St2 (i + 1) h' → IsTupOf2 h' s.heap.objs.size x y → h'.objs.size = s.heap.objs.size + 1 →
      (∀ c o, c ≠ z → c ≠ i1 → c ≠ i2 → s.heap.get? c = some o → h'.get? c = some o) → Q (some (.ref s.heap.objs.size)) { s with heap := h', toks := tk }) :
    wpAny (model prog w) A (pyNext (.ref z)) Q E s := by
  have hT : s.TypeIs (.ref z) "zip" := ⟨_, hz, rfl⟩
  unfold pyNext
  exact wpAny_bind (wpAny_attempt (wpAny_callSpecial?_slot (name := Str.ofString "__next__") hT F.slot_zip_next
    (wpAny_call_entry F.slot_zip_next hT F.entry_zip_next
      (zd_item S D1 D2 hz ha hTI st1 st2 hlt1 hlt2 fun x y h' tk b1 b2 b3 b4 b5 b6 b7 b8 => wpAny_pure (hQ x y h' tk b1 b2 b3 b4 b5 b6 b7 b8)) (F.args_zip_next_1 _))))
theorem zd_nextE {a : Addr} {f : Bool} {oa : Obj} {Q : Option Value → Shared → Prop} (S : ZipSep2 z TI TO i1 i2 fp1 fp2) (D1 : Draws prog w A.in1 i1 fp1 n1 P1 St1) (D2 : Draws prog w A.in1 i2 fp2 n2 P2 St2) (hz : ZHeld s.heap z TI TO a f) (ha : s.heap.get? a = some oa) (hTI : IsTupOf2 s.heap TI (.ref i1) (.ref i2))
    (st1 : St1 i s.heap) (st2 : St2 i s.heap) (hle1 : i ≤ n1) (hle2 : i ≤ n2) (hend : i = n1 ∨ i = n2)
    (hQ : ∀ h' tk, (∀ c o, c ≠ z → c ≠ i1 → c ≠ i2 → s.heap.get? c = some o → h'.get? c = some o) → Q none { s with heap := h', toks := tk }) : wpAny (model prog w) A (pyNext (.ref z)) Q E s := by
  have hT : s.TypeIs (.ref z) "zip" := ⟨_, hz, rfl⟩
  unfold pyNext
  refine wpAny_bind (wpAny_attempt (wpAny_callSpecial?_slot (name := Str.ofString "__next__") hT F.slot_zip_next
    (wpAny_call_entry F.slot_zip_next hT F.entry_zip_next (zd_end S D1 D2 hz ha hTI st1 st2 hle1 hle2 hend fun h' tk e hk he => ?_) (F.args_zip_next_1 _))))
  obtain ⟨o, ho, hc⟩ := he
  refine wpAny_bind (wpAny_isInstance (T := "StopIteration") (b := true) ⟨o, ho, hc⟩ isSubtype_stop ?_)
  exact wpAny_pure (hQ _ _ hk)
end
structure ZSrc (prog : Program) (w : World) (i l : Addr) (n : Nat) (P : Nat → Value → Prop) (St : Nat → Heap → Prop) : Prop where
  dr : ∀ A : Around, A.handled = none → Draws prog w A i [i, l] n P St
  th : ∀ h k, St k h → ∃ o, h.get? l = some o
  lv : ∀ h k, St k h → ∃ o, h.get? i = some o
  fr : ∀ k h h', St k h → (∀ b ∈ [i, l], ∀ o, h.get? b = some o → h'.get? b = some o) → St k h'
section
variable {prog : Program} {w : World}
theorem ZSrc.tup {i l : Addr} (hne : l ≠ i) (xs : Array Value) : ZSrc prog w i l xs.size (fun k v => xs[k]? = some v) (fun k h => h.IsTupleIter i l k ∧ h.IsTuple l xs) := ⟨fun A hh => Draws.tuple hh i l hne xs, (fun h k st => let ⟨_, o, ho, _⟩ := st; ⟨o, ho⟩), (fun h k st => let ⟨⟨o, ho, _⟩, _⟩ := st; ⟨o, ho⟩), fun k h h' st hk => ⟨st.1.at fun o e => hk i (by simp) o e, st.2.at fun o e => hk l (by simp) o e⟩⟩
theorem ZSrc.lst {i l : Addr} (hne : l ≠ i) (xs : Array Value) : ZSrc prog w i l xs.size (fun k v => xs[k]? = some v) (fun k h => h.IsListIter i l k ∧ h.IsList l xs) := ⟨fun A hh => Draws.list hh i l hne xs, (fun h k st => let ⟨_, o, ho, _⟩ := st; ⟨o, ho⟩), (fun h k st => let ⟨⟨o, ho, _⟩, _⟩ := st; ⟨o, ho⟩), fun k h h' st hk => ⟨st.1.at fun o e => hk i (by simp) o e, st.2.at fun o e => hk l (by simp) o e⟩⟩
theorem pairArg_zip {z TI TO i1 i2 l1 l2 : Addr} {n1 n2 : Nat} {P1 P2 : Nat → Value → Prop} {St1 St2 : Nat → Heap → Prop} (S : ZipSep2 z TI TO i1 i2 [i1, l1] [i2, l2]) (D1 : ZSrc prog w i1 l1 n1 P1 St1) (D2 : ZSrc prog w i2 l2 n2 P2 St2) :
    PairArg prog w "zip" z [z, TI, TO, i1, i2, l1, l2] [z, TO, i1, i2] (min n1 n2) (fun i k v => P1 i k ∧ P2 i v) (fun h => IsZip h z TI TO .none ∧ IsTupOf2 h TI (.ref i1) (.ref i2) ∧ (∃ a b, IsTupOf2 h TO a b) ∧ St1 0 h ∧ St2 0 h) where
  type := fun s ok => ⟨_, ok.1, rfl⟩
  notDict := by decide
  keep := fun h h' ok hk => by
    obtain ⟨hz, hTI, ⟨a, b, hTO⟩, h1, h2⟩ := ok
    exact ⟨hk _ _ hz, hk _ _ hTI, ⟨a, b, hk _ _ hTO⟩, D1.fr _ _ _ h1 fun b _ o e => hk b o e, D2.fr _ _ _ h2 fun b _ o e => hk b o e⟩
  there := fun h ok b hb => by
    obtain ⟨hz, hTI, ⟨a, c, hTO⟩, h1, h2⟩ := ok
    obtain ⟨o1, e1⟩ := D1.lv _ _ h1
    obtain ⟨o2, e2⟩ := D2.lv _ _ h2
    obtain ⟨o3, e3⟩ := D1.th _ _ h1
    obtain ⟨o4, e4⟩ := D2.th _ _ h2
    simp only [List.mem_cons, List.not_mem_nil, or_false] at hb
    rcases hb with rfl | rfl | rfl | rfl | rfl | rfl | rfl
    all_goals first | exact ⟨_, hz⟩ | exact ⟨_, hTI⟩ | exact ⟨_, hTO⟩ | exact ⟨_, e1⟩ | exact ⟨_, e2⟩ | exact ⟨_, e3⟩ | exact ⟨_, e4⟩
  sub := fun b hb => by simp at hb ⊢; rcases hb with rfl | rfl | rfl | rfl <;> simp
  noKeys := fun A s Q E hA ok h => getAttrOr_miss_zip ok.1 rfl rfl rfl zip_no_keys (by decide +kernel) hA h
  iter := fun A s d Q E hA ok hd hdf h => by
    obtain ⟨hz, hTI, ⟨a, b, hTO⟩, h1, h2⟩ := ok
    simp only [List.mem_cons, List.not_mem_nil, or_false, not_or] at hdf
    obtain ⟨dz, dTI, dTO, di1, di2, dl1, dl2⟩ := hdf
    have E1 := D1.dr A.in1 hA
    have E2 := D2.dr A.in1 hA
    refine wpAny_pyIter_zip hz (h z [z, TO, i1, i2] (fun i h => IsTupOf2 h TI (.ref i1) (.ref i2) ∧ St1 i h ∧ St2 i h ∧
      ((IsZip h z TI TO .none ∧ ∃ a b, IsTupOf2 h TO a b) ∨ ∃ T f oT, ZHeld h z TI TO T f ∧ h.get? T = some oT ∧ T ≠ z ∧ T ≠ i1 ∧ T ≠ i2 ∧ T ≠ d)) s.heap s.toks ?_ ⟨hTI, h1, h2, .inl ⟨hz, a, b, hTO⟩⟩ (fun _ _ e => e) fun b hb => .inl hb)
    exact {
      off := fun hm => by
        simp only [List.mem_cons, List.not_mem_nil, or_false] at hm
        rcases hm with e | e | e | e
        · exact dz e
        · exact dTO e
        · exact di1 e
        · exact di2 e
      frame := fun i ha hb st hk => by
        obtain ⟨q1, q2, q3, q4⟩ := st
        have o1 : ∀ b ∈ [i1, l1], ∀ o, ha.get? b = some o → hb.get? b = some o := fun b hm o e => by
          simp only [List.mem_cons, List.not_mem_nil, or_false] at hm
          rcases hm with rfl | rfl
          · exact hk _ o (Ne.symm di1) e
          · exact hk _ o (Ne.symm dl1) e
        have o2 : ∀ b ∈ [i2, l2], ∀ o, ha.get? b = some o → hb.get? b = some o := fun b hm o e => by
          simp only [List.mem_cons, List.not_mem_nil, or_false] at hm
          rcases hm with rfl | rfl
          · exact hk _ o (Ne.symm di2) e
          · exact hk _ o (Ne.symm dl2) e
        refine ⟨hk _ _ (Ne.symm dTI) q1, E1.frame _ _ _ q2 o1, E2.frame _ _ _ q3 o2, ?_⟩
        rcases q4 with ⟨hz, a, b, hTO⟩ | ⟨T, f, oT, hz, hT, r1, r2, r3, r4⟩
        · exact .inl ⟨hk _ _ (Ne.symm dz) hz, a, b, hk _ _ (Ne.symm dTO) hTO⟩
        · exact .inr ⟨T, f, oT, hk _ _ (Ne.symm dz) hz, hk _ _ r4 hT, r1, r2, r3, r4⟩
      item := fun i sA QA EA hi st hds hQ => by
        obtain ⟨q1, q2, q3, q4⟩ := st
        have lt : ∀ {c o}, sA.heap.get? c = some o → sA.heap.objs.size ≠ c := fun e => Nat.ne_of_gt (Heap.lt_size e)
        have m1 : sA.heap.objs.size ≠ i1 := let ⟨_, e⟩ := E1.live _ _ q2; lt e
        have m2 : sA.heap.objs.size ≠ i2 := let ⟨_, e⟩ := E2.live _ _ q3; lt e
        have j1 : i < n1 := by omega
        have j2 : i < n2 := by omega
        rcases q4 with ⟨hz, a, b, hTO⟩ | ⟨T, f, oT, hz, hT, r1, r2, r3, r4⟩
        · refine wpAny_pyNext_zipD2_item S E1 E2 hz q1 hTO q2 q3 j1 j2 fun x y h' tk hx hy b1 b2 b3 b4 b5 b6 hk => ?_
          exact hQ sA.heap.objs.size x y h' tk ⟨hx, hy⟩ (.inl ⟨_, b5, rfl, _, rfl⟩) ⟨hk _ _ S.TIz S.TITO S.TIi1 S.TIi2 q1, b3, b4, .inr ⟨_, false, _, b1, b5, lt hz, m1, m2, Nat.ne_of_gt hds⟩⟩
            fun c o hc e => hk c o (fun x => hc (by simp [x])) (fun x => hc (by simp [x])) (fun x => hc (by simp [x])) (fun x => hc (by simp [x])) e
        · refine zd_nextI S E1 E2 hz hT q1 q2 q3 j1 j2 fun x y h' tk hx hy b1 b3 b4 b5 b6 hk => ?_
          exact hQ sA.heap.objs.size x y h' tk ⟨hx, hy⟩ (.inl ⟨_, b5, rfl, _, rfl⟩) ⟨hk _ _ S.TIz S.TIi1 S.TIi2 q1, b3, b4, .inr ⟨T, true, oT, b1, hk _ _ r1 r2 r3 hT, r1, r2, r3, r4⟩⟩
            fun c o hc e => hk c o (fun x => hc (by simp [x])) (fun x => hc (by simp [x])) (fun x => hc (by simp [x])) e
      done := fun sA QA EA st hQ => by
        obtain ⟨q1, q2, q3, q4⟩ := st
        have hend : min n1 n2 = n1 ∨ min n1 n2 = n2 := by omega
        rcases q4 with ⟨hz, a, b, hTO⟩ | ⟨T, f, oT, hz, hT, r1, r2, r3, r4⟩
        · exact wpAny_pyNext_zipD2_end S E1 E2 hz q1 hTO q2 q3 (by omega) (by omega) hend fun h' tk hk => hQ h' tk fun c o hc e => hk c o (fun x => hc (by simp [x])) (fun x => hc (by simp [x])) (fun x => hc (by simp [x])) (fun x => hc (by simp [x])) e
        · exact zd_nextE S E1 E2 hz hT q1 q2 q3 (by omega) (by omega) hend fun h' tk hk => hQ h' tk fun c o hc e => hk c o (fun x => hc (by simp [x])) (fun x => hc (by simp [x])) (fun x => hc (by simp [x])) e }
end
section
variable {X : Cx}
theorem kv_zip : ∀ {ks : List Key} {ys : List V} {us : List Value}, Vals ys us → KV (ks.zip ys) (ks.zip us)
  | [], _, _, _ => .nil
  | _ :: _, [], _, h => by cases h; exact .nil
  | k :: ks, y :: ys, _, h => by
    cases h with
    | cons h t => exact .cons ⟨rfl, h⟩ (kv_zip t)
def rZipK (K : PySem.W.Frag) : List V → Hp → VK → Prop := fun vs H Q => ∃ (a b : Addr) (ks : List Key) (ys : List V), vs = [.ref a, .ref b] ∧ (SqT K H a (ks.map kV) ∨ SqL K H a (ks.map kV)) ∧ (SqT K H b ys ∨ SqL K H b ys) ∧
  ∀ p, H p = none → Q (.ref p) (upd H p (.dK (mergeK [] (ks.zip ys))))
theorem sq_src {pins : List (Addr × Obj)} {σ : L2.St} {H : Hp} {s : Shared} (I : Inv X pins σ H s) {a : Addr} {xs : List V} (h : SqT X.K H a xs ∨ SqL X.K H a xs) :
    ∃ (us : List Value) (H1 : Heap → Prop) (o : Obj), Vals xs us ∧ us.length ≤ sizeLine ∧ H1 s.heap ∧ Begins (.ref a) o H1 ∧ a < s.heap.objs.size ∧
      ∀ i, a ≠ i → ∃ St, ZSrc X.prog X.w i a us.length (fun k v => us[k]? = some v) St ∧ ∀ h : Heap, H1 h → h.get? i = some o → St 0 h := by
  rcases h with h | h
  · obtain ⟨its, rv, p1, z1⟩ := I.tuple h
    obtain ⟨o, ho, _⟩ := id p1
    refine ⟨its, fun h => h.IsTuple a its.toArray, _, rv, by rw [← rv.length]; exact z1, p1, begins_tuple a its.toArray, Heap.lt_size ho, fun i hne => ⟨fun k h => h.IsTupleIter i a k ∧ h.IsTuple a its.toArray, by simpa using ZSrc.tup (prog := X.prog) (w := X.w) hne its.toArray, fun h h1 hi => ⟨⟨_, hi, rfl, rfl⟩, h1⟩⟩⟩
  · obtain ⟨its, rv, p1, z1⟩ := I.list h
    obtain ⟨o, n, ho, _⟩ := id p1
    refine ⟨its, fun h => h.IsList a its.toArray, _, rv, by rw [← rv.length]; exact z1, p1.isList, begins_list a its.toArray, Heap.lt_size ho, fun i hne => ⟨fun k h => h.IsListIter i a k ∧ h.IsList a its.toArray, by simpa using ZSrc.lst (prog := X.prog) (w := X.w) hne its.toArray, fun h h1 hi => ⟨⟨_, hi, rfl, rfl⟩, h1⟩⟩⟩
theorem pe_dictZip {e e2 : Expr} {ta : TA} {p p2 pos2 pos : Pos} (hc : X.calm = true) (hg : Gl X "zip") (hm : X.mg "zip" = none) (hgL : Gl X "dict") (hmL : X.mg "dict" = none) (hvL : bootBuiltins "dict" = some (.type "dict")) (ha : PA X [e, e2] ta)
    (hs : starEach [e, e2] X.env = (false, eval e X.env) :: starEach [e2] X.env) (hpl : (backTo pos2 (starEach [e2] X.env)).any (·.1) = false)
    (hs2 : starEach [.Call (.Name "zip" p2) [e, e2] [] pos2] X.env = (false, eval (.Call (.Name "zip" p2) [e, e2] [] pos2) X.env) :: starEach [] X.env) :
    PE X (.Call (.Name "dict" p) [.Call (.Name "zip" p2) [e, e2] [] pos2] [] pos) (fun σ H Q => ta σ H fun vs H1 => rZipK X.K vs H1 Q) := by
  refine ⟨fun pins s σ H Q I hq => ?_⟩
  refine wpAny_Call_Name_kw (ld_blt I hgL hmL hvL ?_)
  refine PyProof.Rows.callWith_type1 ?_ hs2 rfl
  rw [hs2]
  show wpAny _ _ (spliced ((false, eval (.Call (.Name "zip" p2) [e, e2] [] pos2) X.env) :: backTo pos (starEach [] X.env))) _ _ s
  refine Calls.spliced_cons ?_
  refine Call_ (ld_blt I hg hm PyProof.Rows.boot_zip (PyProof.Rows.callWith_type1 (thn (ha.run pos2 pins s σ H _ I hq) fun us s1 ⟨vs, H1, I1, r1, q1⟩ => ?_) hs hpl))
  obtain ⟨a, b, ks, ys, ex, hqx, hqy, q⟩ := q1
  subst ex
  cases r1 with
  | cons r rr =>
    cases rr with
    | cons r' rr =>
      cases rr
      cases r
      cases r'
      obtain ⟨u1, G1, o1, v1, z1, g1, B1, la, S1⟩ := sq_src I1 hqx
      obtain ⟨u2, G2, o2, v2, z2, g2, B2, lb, S2⟩ := sq_src I1 hqy
      refine zip_begins2 B1 B2 g1 g2 fun g hz hTI hTO e1 e2 hsz hk => ?_
      refine Calls.spliced_nil ?_
      obtain ⟨St1, Z1, b1⟩ := S1 s1.heap.objs.size (Nat.ne_of_lt la)
      obtain ⟨St2, Z2, b2⟩ := S2 (s1.heap.objs.size + 1) (Nat.ne_of_lt (Nat.lt_succ_of_lt la |> fun _ => Nat.lt_succ_of_lt lb))
      have sep := zip_sep2 (N := s1.heap.objs.size) (fp1 := [a]) (fp2 := [b]) (fun c hc => by rw [List.mem_singleton] at hc; subst hc; exact la) (fun c hc => by rw [List.mem_singleton] at hc; subst hc; exact lb)
      have P := pairArg_zip sep Z1 Z2
      have K1 := keysAre_of (P := X.prog) (w := X.w) v1
      have hl1 : ks.length = u1.length := by have := v1.length; rw [List.length_map] at this; exact this
      refine PySem.call_dict_pairs (s := { s1 with heap := g }) (knd := mixKind X.prog X.w) (kvs := ks.zip u2) P (I1.ok.hd hc) ⟨hz, hTI, ⟨_, _, hTO⟩, b1 _ (B1.keeps _ _ g1 hk) e1, b2 _ (B2.keeps _ _ g2 hk) e2⟩ ⟨by rw [List.length_zip, hl1], fun j k v e => ?_⟩ (by omega) fun h' tk hd' hk2 => ?_
      · obtain ⟨ea, eb⟩ := e
        obtain ⟨k2, ek, hik, _⟩ := K1.2 j k ea
        exact ⟨k2, List.getElem?_zip_eq_some.mpr ⟨ek, eb⟩, hik⟩
      · have I2 : Inv X pins σ H1 { s1 with heap := g } := I1.kept (t' := s1.toks) hk
        have hm2 : (g.objs.size == sysModules) = false := beq_eq_false_iff_ne.mpr (Nat.ne_of_gt I2.big)
        have up : ∀ c o, s1.heap.get? c = some o → h'.get? c = some o := fun c o e => by
          have := Heap.lt_size e
          have ne : ∀ k : Nat, c ≠ s1.heap.objs.size + k := fun k => Nat.ne_of_lt (Nat.lt_of_lt_of_le this (Nat.le_add_right _ _))
          refine hk2 c o (fun hm => ?_) (hk c o e)
          simp only [List.mem_cons, List.not_mem_nil, or_false] at hm
          rcases hm with h | h | h | h
          · exact ne 4 h
          · exact ne 3 h
          · exact ne 0 h
          · exact ne 1 h
        have rel : KV (ks.zip ys) (ks.zip u2) := kv_zip v2
        have hlen : (mergeK [] (ks.zip ys)).length ≤ sizeLine := by
          have := length_mergeK (ks.zip ys) []
          rw [List.length_nil, List.length_zip] at this
          omega
        exact ⟨.ref g.objs.size, _, I1.laid (t' := tk) up (by show s1.heap.objs.size ≤ g.objs.size; rw [hsz]; exact Nat.le_add_right _ _) (show ObjOk X.prog X.w _ _ _ (.dK (mergeK [] (ks.zip ys))) from ⟨hlen, hm2, merged [] (ks.zip u2), KV.merge rel .nil, hd'⟩), rfl, q _ (I1.hok.fresh (by show s1.heap.objs.size ≤ g.objs.size; rw [hsz]; exact Nat.le_add_right _ _))⟩
end
def SqD (M : Mem) (x : D) (xs : List D) : Prop := tuD x = some xs ∨ x = .rl xs ∨ ∃ a, x = .ref a ∧ M a = some (.lst xs)
theorem SqD.low {K : PySem.W.Frag} {M : Mem} {H : Hp} (m : MRel K M H) {x : D} {xs : List D} {v : V} (h : SqD M x xs) (i : Is K H x v) : ∃ a vs, v = .ref a ∧ (SqT K H a vs ∨ SqL K H a vs) ∧ IsL K H xs vs := by
  rcases h with h | rfl | ⟨a, rfl, h⟩
  · obtain ⟨a, vs, rfl, s, l, _⟩ := tuD_sq h i
    exact ⟨a, vs, rfl, .inl s, l⟩
  · rw [is_rl] at i
    obtain ⟨a, vs, rfl, s, l⟩ := i
    exact ⟨a, vs, rfl, .inr s.sq, l⟩
  · rw [is_ref] at i
    subst i
    obtain ⟨vs, e, l⟩ := m a _ h
    exact ⟨a, vs, rfl, .inr (SqL.of e), l⟩
def dDz (r : DTA) : DTE := fun e M Q E => r e M (fun ds M1 => match ds with
  | [x, y] => ∃ xs ys ks, SqD M1 x xs ∧ SqD M1 y ys ∧ keysD xs = some ks ∧ ∀ p, M1 p = none → Q (.ref p) (wr M1 p (.dK (mergeG [] (ks.zip ys))))
  | _ => False) E
theorem kRel_zip {K : PySem.W.Frag} {H : Hp} : ∀ {ks : List Key} {ys : List D} {vs : List V}, IsL K H ys vs → KRel K H (ks.zip ys) (ks.zip vs)
  | [], _, _, _ => KRel.nil
  | _ :: _, [], _, h => by rw [isL_nil] at h; subst h; exact KRel.nil
  | k :: ks, y :: ys, _, h => by
    rw [isL_cons] at h
    obtain ⟨v, r, rfl, i, l⟩ := h
    exact (kRel_zip l).mk i
theorem de_dictZip {g : Gd} {x y : Expr} {p p2 pos2 pos : Pos} {r : DTA} (hc : g.X.calm = true) (hg : Gl g.X "zip") (hm : g.X.mg "zip" = none) (hgL : Gl g.X "dict") (hmL : g.X.mg "dict" = none) (h : DA g [x, y] r) (n1 : isStar x = false) (n2 : isStar y = false) :
    DE g (.Call (.Name "dict" p) [.Call (.Name "zip" p2) [x, y] [] pos2] [] pos) (dDz r) := by
  obtain ⟨ta, pa, ka⟩ := h.pa
  refine DE.of (pe_dictZip hc hg hm hgL hmL rfl pa (star_cons n1) (by rw [star_cons n2]; rfl) rfl) fun σ H e M Q sl mr fr q => ?_
  refine ka σ H e M _ _ sl mr fr q fun ds vs M1 H1 l m f q => ?_
  match ds, q with
  | [x, y], q =>
    rw [isL_cons] at l
    obtain ⟨v, rv, rfl, i, l⟩ := l
    rw [isL_cons] at l
    obtain ⟨u, ru, rfl, j, l⟩ := l
    rw [isL_nil] at l
    subst l
    obtain ⟨xs, ys, ks, e1, e2, ek, q⟩ := q
    obtain ⟨a, vs, rfl, s1, l1⟩ := e1.low m i
    obtain ⟨b, ws, rfl, s2, l2⟩ := e2.low m j
    have := keysD_is l1 ek
    subst this
    exact ⟨a, b, ks, ws, rfl, s1, s2, Fin.newK fin_low m f (KRel.merge (kRel_zip l2) KRel.nil) q⟩
end DL

namespace DL
open PySem PySem.Spec PyProof.Rows L2
section
variable {X : Cx}
theorem d_compPut {pins : List (Addr × Obj)} {σ : L2.St} {H Hn : Hp} {s : Shared} {E : Value → Shared → Prop} {da : Addr} {y v : V} {u r : Value} {Q : Unit → Shared → Prop} (hu : X.A.units + 1 < cLine) (J : Inv X pins σ H s) (pt : DPut H da y v Hn) (ru : RelV y u) (rr : RelV v r)
    (q : ∀ sn, Inv X pins σ Hn sn → Q () sn) : wpAny (model X.prog X.w) X.A (dictSet da u r) Q E s := by
  rcases pt with ⟨kvs, k, e, ey, l, eH⟩ | ⟨kvs, k, b, e, ey, eb, l, eH⟩
  · subst ey eH
    exact d_dictSet J e l ru rr q
  · subst ey eH
    cases (show u = Value.ref b from ru)
    obtain ⟨z, hd, xs, rel, dd⟩ := dt_of J.hok e
    have hlen : xs.length ≤ sizeLine := by rw [← Paired.length rel]; exact z
    have hmore : (putK kvs k v).length ≤ sizeLine := by
      have := length_putK kvs k v
      omega
    refine wpAny_dictSet_heap (hsz := hlen) (show X.A.units < cLine by omega) (key_of J.hok eb) dd fun hn dn hs => q _ ?_
    obtain ⟨o, es, ep, ho, f2, f3, f4, _, f5⟩ := dn
    refine d_write J (by rw [e]; exact True.intro) hs ⟨o, ho⟩ ⟨hmore, hd, _, (rel.put k eb rr).keeps fun c ys ec => ?_, o, es, ep, ho, f2, f3, f4, f5⟩
    rw [upd_ne (ne_of ec e (fun z => nomatch z))]
    exact ec
def tDcP (o0 : HO) (wi : TI) (g : TG) (tt : TT) (tk tv : TE) (vs : List Nat) : TE := fun σ H Q => wi σ H fun J Ha => ∀ da, Ha da = none → ∃ W : Nat → Nat → Hp → Prop, (∃ m, W 0 m (upd Ha da o0)) ∧ ∀ i m Hb, W i m Hb →
  (J.stop i Hb ∧ Q (.ref da) Hb) ∨ (J.go i Hb ∧ ∃ Nx : Hp → Prop, (∀ Hc, Nx Hc → ∃ m', m' < m ∧ W (i + 1) m' Hc) ∧ ∀ x Hc, J.yld i Hb x Hc → g x (wipe σ vs) Hc fun τ Hd => wipe τ vs = wipe σ vs ∧ tt τ Hd fun b He =>
    if b = true then tk τ He fun y Hf => tv τ Hf fun z Hg => ∃ Hh, DPut Hg da y z Hh ∧ Nx Hh else Nx He)
theorem dcp_core {o0 : HO} (n0 : ∀ (H : Hp) (h : Heap), sysModules < h.objs.size → ObjOk X.prog X.w H (h.push { cls := .type "dict", data := .dict #[] }) h.objs.size o0) {pins : List (Addr × Obj)} {s : Shared} {σ : L2.St} {H : Hp} {Q : VK} {kx vx tg iter : Expr} {ifs : List Expr} {scope : Scope} {own : List (Str × Nat)} {pos pos' : Pos} {wi : TI} {g : TG} {tt : TT} {tk tv : TE} {use : Option (Value → Sem Unit)} {Qf : Value → Shared → Prop}
    (hc : X.calm = true) (hu : X.A.units + 1 < cLine) (hN : X.N.Nodup) (J0 : Inv X pins σ H s) (hi : PI X tg iter wi) (ok : BlkOk X.N X.env.scope scope own)
    (bG : ∀ s H C cl fp, PG (X.blk s H scope (compEnvC scope cl C X.env) fp) tg g) (bT : ∀ s H C cl fp, PTs (X.blk s H scope (compEnvC scope cl C X.env) fp) ifs tt) (bK : ∀ s H C cl fp, PE (X.blk s H scope (compEnvC scope cl C X.env) fp) kx tk) (bV : ∀ s H C cl fp, PE (X.blk s H scope (compEnvC scope cl C X.env) fp) vx tv)
    (hs : ∀ x, foldedSetIterable iter X.env x = pure x) (h : tDcP o0 wi g tt tk tv (own.map (·.2)) σ H Q)
    (out : ∀ da C sz m Hz, Inv X pins σ Hz sz → Q (.ref da) Hz → sz.heap.Ns C m → FpOk X pins Hz C → compPost (model X.prog X.w) X.A X.xe use Qf (.ref da) C (.ok .next) sz) :
    wpAny (model X.prog X.w) X.A (comprehension (.DictComp kx vx [⟨tg, iter, ifs, 0⟩] scope pos) scope X.env pos' newDict false (eval iter X.env) use) Qf X.xe s := by
  have cells : ∀ y ∈ scope.names, y.2 = .free → ∃ c, X.env.cells.lookup y.1 = some c := fun y hy e => (ok.free y hy e).elim (fun k => J0.ok.has _ (.inl k)) fun k => J0.ok.has _ (.inr k)
  refine wpAny_comprehension_free (use := use) rfl hs (closure_ok cells) ok.kind (fun y hy e => by rw [ok.uniq y hy, e]) (thn (hi.run pins s σ H _ J0 h) fun xv sa qx => thn qx fun itv sb ⟨it, fp, tn, J, Ha, e, Ja, T, sta, fa, q⟩ => ?_)
  subst e
  refine wpAny_newObj_type (newEnv_comp ?_)
  generalize eda : sb.heap.objs.size = da
  have nda : Ha da = none := Ja.hok.fresh (Nat.le_of_eq eda)
  obtain ⟨W, ⟨m0, w0⟩, turn⟩ := q da nda
  generalize esc : ({ sb with heap := sb.heap.push { cls := .type "dict", data := .dict #[] } } : Shared) = sc
  have hsc : sc.heap = sb.heap.push { cls := .type "dict", data := .dict #[] } := by rw [← esc]
  have Jc : Inv X pins σ (upd Ha da o0) sc := by
    rw [← esc]
    exact Ja.laid (t' := sb.toks) (fun b o e => Heap.get?_push_of_some _ e) (Nat.le_of_eq eda) (by rw [← eda]; exact n0 _ sb.heap Ja.big)
  have up : ∀ {b : Addr} {o : Obj}, sb.heap.get? b = some o → sc.heap.get? b = some o := fun e => by rw [hsc]; exact Heap.get?_push_of_some _ e
  have low : ∀ b ∈ fp, b < sb.heap.objs.size := fun b hb => let ⟨_, e, _⟩ := T.obj _ _ sta b hb; Heap.lt_size e
  have fc : ∀ b ∈ fp, FpOk X pins (upd Ha da o0) b ∧ b < sc.heap.objs.size := fun b hb => by
    have hlt := low b hb
    exact ⟨⟨by rw [upd_ne (by rw [← eda]; exact Nat.ne_of_lt hlt)]; exact (fa b hb).1, (fa b hb).2⟩, by rw [hsc, Heap.size_push]; exact Nat.lt_succ_of_lt hlt⟩
  have Jd := block_start Jc ok hN fc
  obtain ⟨Hc, eHc⟩ : ∃ Hc, upd Ha da o0 = Hc := ⟨_, rfl⟩
  rw [eHc] at Jc Jd w0 fc
  show codeAny _ _ (.compStart _ 0 (.ref it) (.ref da) (compEnvC scope (cellsFrom (sc.heap.objs.size + 1) scope.names (cloFrom X.env.cells scope.names [])) sc.heap.objs.size X.env)) (compPost _ X.A X.xe use Qf (.ref da) sc.heap.objs.size) { sc with heap := pushCells (sc.heap.push { cls := .type "dict", data := .dict #[] }) scope.names }
  obtain ⟨ce, ece⟩ : ∃ ce, compEnvC scope (cellsFrom (sc.heap.objs.size + 1) scope.names (cloFrom X.env.cells scope.names [])) sc.heap.objs.size X.env = ce := ⟨_, rfl⟩
  have bG' := bG sc Hc sc.heap.objs.size (cellsFrom (sc.heap.objs.size + 1) scope.names (cloFrom X.env.cells scope.names [])) fp
  have bT' := bT sc Hc sc.heap.objs.size (cellsFrom (sc.heap.objs.size + 1) scope.names (cloFrom X.env.cells scope.names [])) fp
  have bK' := bK sc Hc sc.heap.objs.size (cellsFrom (sc.heap.objs.size + 1) scope.names (cloFrom X.env.cells scope.names [])) fp
  have bV' := bV sc Hc sc.heap.objs.size (cellsFrom (sc.heap.objs.size + 1) scope.names (cloFrom X.env.cells scope.names [])) fp
  rw [ece] at Jd bG' bT' bK' bV' ⊢
  have loc : ce.locals = sc.heap.objs.size := by rw [← ece]; rfl
  obtain ⟨sd, esd⟩ : ∃ sd : Shared, { sc with heap := pushCells (sc.heap.push { cls := .type "dict", data := .dict #[] }) scope.names } = sd := ⟨_, rfl⟩
  rw [esd] at Jd ⊢
  have std : tn 0 sd.heap := T.keep _ _ _ sta fun b _ o e => by rw [← esd]; exact pushCells_keeps _ _ _ _ (Heap.get?_push_of_some _ (up e))
  -- what is said of the block's context
  have place : ∀ {τ : L2.St} {Hx : Hp} {sx : Shared}, Inv (X.blk sc Hc scope ce fp) [] τ Hx sx → (∀ b ∈ fp, Hx b = none) → ∀ b ∈ fp, FpOk (X.blk sc Hc scope ce fp) [] Hx b := fun {τ Hx sx} Jx hn b hb =>
    ⟨hn b hb, (Jx.ok.exf b hb).1, Jx.ok.exfs b hb, .inl hb, fun x c e => (Jx.ok.exf b hb).2 x c e, fun p hp => nomatch (show p ∈ ([] : List (Addr × Obj)) from hp)⟩
  have all : codeAny (model X.prog X.w) X.A (.compLoop (.DictComp kx vx [⟨tg, iter, ifs, 0⟩] scope pos) 0 (.ref it) (.ref da) ce) (compPost (model X.prog X.w) X.A X.xe use Qf (.ref da) sc.heap.objs.size) sd := by
    refine compLoop_anyD (fun n sx => ∃ i Hx, Inv (X.blk sc Hc scope ce fp) [] (wipe σ (own.map (·.2))) Hx sx ∧ tn i sx.heap ∧ (∀ b ∈ fp, Hx b = none) ∧ W i n Hx) ?_ m0 ⟨0, Hc, Jd, std, fun b hb => (fc b hb).1.1, w0⟩
    rintro n se ⟨i, He, Je, ste, ne, we⟩
    rcases turn i n He we with ⟨stop, fin⟩ | ⟨go, Nx, hNx, step⟩
    · refine thnF (T.done (X.blk sc Hc scope ce fp) rfl rfl rfl hc i [] se _ He (fun _ _ => False) Je (place Je ne) ste stop) fun r sf ⟨er, Jf⟩ => ?_
      subst er
      obtain ⟨m, hn, _⟩ := Jf.loc
      have hn : sf.heap.Ns ce.locals m := hn
      have nC : He ce.locals = none := Jf.free
      rw [loc] at hn nC
      exact out da sc.heap.objs.size sf m He (Jc.call' (ch := fp) Jf.os Jf.base Jf.hok Jf.bare fun b hb => let f := (fc b hb).1.2; ⟨f.2.2.1, f.1, f.2.2.2.1, f.2.2.2.2⟩) fin hn (Jc.fpOk (Nat.le_refl _) nC)
    · refine thnF (T.item (X.blk sc Hc scope ce fp) rfl rfl rfl hc i [] se _ He (fun _ _ => False) Je (place Je ne) ste go) fun r sf ⟨u, er, qf⟩ => ?_
      subst er
      refine thnF qf fun _ sg ⟨x, Hg, Jg, rg, yg, stg, ng⟩ => ?_
      refine thnF (bG'.run _ sg _ Hg x u _ (Jg.pinned (place Jg ng) (T.obj _ _ stg)) rg (step x Hg yg)) fun _ sh ⟨τ, Hh, Jh, hw, qh⟩ => ?_
      refine thnF (bT'.run _ sh τ Hh _ Jh qh) fun b si ⟨Hi, Ji, qi⟩ => ?_
      have close : ∀ {sx : Shared} {Hx : Hp}, Inv (X.blk sc Hc scope ce fp) ([] ++ pinsAt fp sg.heap) τ Hx sx → Nx Hx → ∃ m, m < n ∧ ∃ i Hx, Inv (X.blk sc Hc scope ce fp) [] (wipe σ (own.map (·.2))) Hx sx ∧ tn i sx.heap ∧ (∀ b ∈ fp, Hx b = none) ∧ W i m Hx := fun {sx Hx} Jx nx => by
        obtain ⟨m, hm, w⟩ := hNx Hx nx
        have pn : ∀ b ∈ fp, ∀ o, sg.heap.get? b = some o → sx.heap.get? b = some o ∧ Hx b = none := fun b hb o e => by
          obtain ⟨p1, p2, _⟩ := Jx.pin (b, o) (List.mem_append_right _ (List.mem_append_right _ (mem_pinsAt hb e)))
          exact ⟨p1, p2⟩
        refine ⟨m, hm, i + 1, Hx, (Jx.unpinned (pins := [])).weak (by rw [← hw, wipe_length]) (fun j v e => (wipe_some (by rw [← hw] at e; exact e)).1), T.keep _ _ _ stg fun b hb o e => (pn b hb o e).1, fun b hb => ?_, w⟩
        obtain ⟨o, e, _⟩ := T.obj _ _ stg b hb
        exact (pn b hb o e).2
      cases b with
      | false =>
        simp only [Bool.false_eq_true, if_false] at qi ⊢
        exact close Ji qi
      | true =>
        simp only [if_true] at qi ⊢
        refine thnF (bK'.run _ si τ Hi _ Ji qi) fun zk sj ⟨yk, Hj, Jj, rj, qj⟩ => thnF (bV'.run _ sj τ Hj _ Jj qj) fun zv sk ⟨yv, Hk, Jk, rk, Hl, pt, nx⟩ => ?_
        exact d_compPut (X := X.blk sc Hc scope ce fp) hu Jk pt rj rk fun sl Jl => close Jl nx
  exact codeAny_compStart_dict all (T.self X.A 0 _ _ _ std all)
theorem pe_dcP {o0 : HO} (n0 : ∀ (H : Hp) (h : Heap), sysModules < h.objs.size → ObjOk X.prog X.w H (h.push { cls := .type "dict", data := .dict #[] }) h.objs.size o0) {kx vx tg iter : Expr} {ifs : List Expr} {scope : Scope} {own : List (Str × Nat)} {pos : Pos} {wi : TI} {g : TG} {tt : TT} {tk tv : TE}
    (hc : X.calm = true) (hu : X.A.units + 1 < cLine) (hN : X.N.Nodup) (hi : PI X tg iter wi) (ok : BlkOk X.N X.env.scope scope own) (bG : ∀ s H C cl fp, PG (X.blk s H scope (compEnvC scope cl C X.env) fp) tg g) (bT : ∀ s H C cl fp, PTs (X.blk s H scope (compEnvC scope cl C X.env) fp) ifs tt)
    (bK : ∀ s H C cl fp, PE (X.blk s H scope (compEnvC scope cl C X.env) fp) kx tk) (bV : ∀ s H C cl fp, PE (X.blk s H scope (compEnvC scope cl C X.env) fp) vx tv) (hs : ∀ x, foldedSetIterable iter X.env x = pure x) : PE X (.DictComp kx vx [⟨tg, iter, ifs, 0⟩] scope pos) (tDcP o0 wi g tt tk tv (own.map (·.2))) := by
  refine ⟨fun pins s σ H Q J h => ?_⟩
  rw [arm_eval_DictComp]
  refine dcp_core n0 hc hu hN J hi ok bG bT bK bV hs h fun da C sz m Hz Jz q hn f => ⟨m, hn, fun h'' sb => ?_⟩
  exact ⟨.ref da, Hz, Jz.turned (t' := sz.toks) (fun b o hb e => (sb.2 b hb).trans e) f.1 f.2.1 f.2.2.2.1 f.2.2.2.2.1 f.2.2.2.2.2, rfl, q⟩
end
section
variable {K : PySem.W.Frag} {M M1 : Mem} {H H1 : Hp} {p : Addr} {acc acc' : List (List Key × V)}
theorem ext_outT (h : H p = some (.dT acc)) : Ext K H (upd H p (.dT acc')) := by
  have st : ∀ {a : Addr} {u : HO}, H a = some u → (∀ z, u ≠ .dT z) → upd H p (.dT acc') a = some u := fun {a u} e k => by
    rw [upd_ne fun z => by subst z; rw [h] at e; cases e; exact k _ rfl]
    exact e
  refine ⟨fun a xs e => st e (fun z q => nomatch q), fun a xs e => ?_, fun a xs q => ?_, fun a o xs e => st e (fun z q => nomatch q)⟩
  · rcases e with ⟨o, e⟩ | e
    · exact .inl ⟨o, st e (fun z q => nomatch q)⟩
    · exact .inr e
  · obtain ⟨o, e, hd⟩ := q
    exact ⟨o, st e (fun z q => nomatch q), hd⟩
theorem mr_outT (m : MRel K M H) (h : H p = some (.dT acc)) (n : M p = none) : MRel K M (upd H p (.dT acc')) := fun a o e => by
  have : a ≠ p := fun z => by subst z; rw [n] at e; cases e
  exact (m a o e).ext (ext_outT h) (upd_ne this)
end
abbrev DTDT := Sl → Mem → (List (List Key × D) → Mem → Prop) → EX → Prop
def dDcT (w : DTI) (gt : DTG) (tt : DTT) (tk tv : DTE) (vs : List Nat) : DTDT := fun e M Q E => w e M (fun src M1 => ∃ I : Nat → List (List Key × D) → Mem → Prop, I 0 [] M1 ∧
  (∀ i d acc M', src.items[i]? = some d → I i acc M' → src.live M' ∧ gt d (wipeS e vs) M' (fun e2 M2 => tt e2 M2 (fun b M3 =>
    if b = true then tk e2 M3 (fun y M4 => tv e2 M4 (fun z M5 => acc.length < sizeLine ∧ ∃ k ks, y = .tup k ∧ keysD k = some ks ∧ I (i + 1) (putG acc ks z) M5) EF) EF else I (i + 1) acc M3) EF) EF) ∧
  ∀ acc M', I src.items.length acc M' → src.live M' ∧ Q acc M') E
def dNewDT (t : DTDT) : DTE := fun e M Q E => t e M (fun kvs M1 => ∀ p, M1 p = none → Q (.ref p) (wr M1 p (.dT kvs))) E
section
variable {g : Gd} {kx vx tg iter : Expr} {ifs : List Expr} {scope : Scope} {own : List (Str × Nat)} {pos : Pos} {w : DTI} {gt : DTG} {tt : DTT} {tk tv : DTE} {ns : List Nat}
theorem dcT_low {w' : TI} {g' : TG} {tt' : TT} (ki : ∀ σ H e M R (RV : It → Hp → Prop), SRel g.X.K H e σ → MRel g.X.K M H → Fr g.M0 g.H0 M H → w e M R g.E →
      (∀ J src M1 H1, JRel g.X.K H1 J src → MRel g.X.K M1 H1 → Fr M H M1 H1 → R src M1 → RV J H1) → w' σ H RV)
    (kg : ∀ σ H e M v d Q (QV : L2.St → Hp → Prop), SRel g.X.K H e σ → MRel g.X.K M H → Is g.X.K H d v → gt d e M Q EF →
      (∀ σ' H' e' M', SRel g.X.K H' e' σ' → MRel g.X.K M' H' → Fr M H M' H' → (∀ vs, (∀ i ∈ ns, i ∈ vs) → L2.wipe σ' vs = L2.wipe σ vs) → Q e' M' → QV σ' H') → g' v σ H QV)
    (kt : ∀ σ H e M Q (QV : Bool → Hp → Prop), SRel g.X.K H e σ → MRel g.X.K M H → tt e M Q EF → (∀ b M' H', MRel g.X.K M' H' → Fr M H M' H' → Q b M' → QV b H') → tt' σ H QV)
    (hns : ∀ i ∈ ns, i ∈ own.map (·.2)) {σ : L2.St} {H : Hp} {e : Sl} {M : Mem} {Q : List (List Key × D) → Mem → Prop} {QV : VK} (sl : SRel g.X.K H e σ) (mr : MRel g.X.K M H) (fr : Fr g.M0 g.H0 M H) (q : dDcT w gt tt tk tv (own.map (·.2)) e M Q g.E)
    (k : ∀ a ws kvs M' H', H' a = some (.dT ws) → KRel g.X.K H' kvs ws → M' a = none → H a = none → MRel g.X.K M' H' → Fr M H M' H' → Q kvs M' → QV (.ref a) H') : tDcP (.dT []) w' g' tt' (lowAny g.X.K tk) (lowAny g.X.K tv) (own.map (·.2)) σ H QV := by
  refine ki σ H e M _ _ sl mr fr q fun J src M1 H1 jr m1 f1 ⟨I, h0, turn, last⟩ p hp => ?_
  have np1 : M1 p = none := m1.none_of hp
  refine ⟨fun i n H' => i + n = src.items.length ∧ ∃ acc ws M', H' p = some (.dT ws) ∧ KRel g.X.K H' acc ws ∧ M' p = none ∧ MRel g.X.K M' H' ∧ Fr M1 H1 M' H' ∧ I i acc M', ⟨src.items.length, by omega, [], [], M1, upd_same, KRel.nil, np1, mr_new m1 hp, fr_new (o := HO.dT []) m1 hp, h0⟩, ?_⟩
  rintro i n H' ⟨hn, acc, ws, M', hp', il, np, m', f', hw⟩
  cases n with
  | zero =>
    obtain rfl : i = src.items.length := by omega
    obtain ⟨lv, q⟩ := last acc M' hw
    exact .inl ⟨(jr _ M' H' m' (f'.ext m1) lv).2 (Nat.le_refl _), k p ws acc M' H' hp' il np (f1.there p hp) m' (f1.trans f') q⟩
  | succ n =>
    have hd := List.getElem?_eq_getElem (show i < src.items.length by omega)
    obtain ⟨lv, q⟩ := turn i _ acc M' hd hw
    obtain ⟨go, yl⟩ := (jr i M' H' m' (f'.ext m1) lv).1 _ hd
    refine .inr ⟨go, fun H2 => ∃ acc ws M', H2 p = some (.dT ws) ∧ KRel g.X.K H2 acc ws ∧ M' p = none ∧ MRel g.X.K M' H2 ∧ Fr M1 H1 M' H2 ∧ I (i + 1) acc M', fun H2 z => ⟨n, by omega, by omega, z⟩, fun x H2 y => ?_⟩
    obtain ⟨ix, m2, f2⟩ := yl x H2 y
    refine kg (wipe σ (own.map (·.2))) H2 (wipeS e (own.map (·.2))) M' x _ _ _ ((sl.ext ((f1.trans (f'.trans f2)).ext mr)).wipe _) m2 ix q fun σ3 H3 e3 M3 sl3 m3 f3 hwp q => ?_
    refine ⟨(hwp _ hns).trans (wipe_wipe σ _), ?_⟩
    refine kt σ3 H3 e3 M3 _ _ sl3 m3 q fun b M4 H4 m4 f4 q => ?_
    have f24 := f2.trans (f3.trans f4)
    cases b with
    | false =>
      obtain ⟨p4, np4⟩ := f24.keep p _ hp' np
      exact ⟨acc, ws, M4, p4, ⟨il.1, IsL.ext (f24.ext m') _ _ il.2⟩, np4, m4, f'.trans f24, q⟩
    | true =>
      have sl4 := sl3.ext (f4.ext m3)
      refine lowAny_start sl4 m4 q fun y dy M5 H5 i5 m5 f5 q => lowAny_start (sl4.ext (f5.ext m4)) m5 q fun z dz M6 H6 i6 m6 f6 q => ?_
      have f26 := f24.trans (f5.trans f6)
      obtain ⟨p6, np6⟩ := f26.keep p _ hp' np
      have il6 : KRel g.X.K H6 acc ws := ⟨il.1, IsL.ext (f26.ext m') _ _ il.2⟩
      obtain ⟨hz, kk, ks, rfl, hk, q⟩ := q
      obtain ⟨b, rfl, hb⟩ := keyTup m6 (Is.ext (f6.ext m5) _ _ i5) hk
      have rp := il6.put (k := ks) i6
      exact ⟨_, DPut.t p6 hb (by rw [KRel.length il6]; exact hz), putG acc ks dz, putK ws ks z, M6, upd_same, ⟨rp.1, IsL.ext (ext_outT p6) _ _ rp.2⟩, np6, mr_outT m6 p6 np6, fr_out (f'.trans f26) hp, q⟩
theorem new_inT {K : PySem.W.Frag} {M M' : Mem} {H H' : Hp} {a : Addr} {ws : List (List Key × V)} {kvs : List (List Key × D)} (h : H' a = some (.dT ws)) (l : KRel K H' kvs ws) (n : M' a = none) (n0 : H a = none) (m : MRel K M' H') (f : Fr M H M' H') :
    MRel K (wr M' a (.dT kvs)) H' ∧ Fr M H (wr M' a (.dT kvs)) H' := by
  refine ⟨fun b o e => ?_, ⟨fun b o hb nb => ?_, f.there⟩⟩
  · by_cases z : b = a
    · subst z; rw [wr_same] at e; cases e; exact ⟨ws, h, l.1, l.2⟩
    · rw [wr_ne z] at e; exact m b o e
  · have ne : b ≠ a := fun z => by subst z; rw [n0] at hb; cases hb
    obtain ⟨q1, q2⟩ := f.keep b o hb nb
    exact ⟨q1, by rw [wr_ne ne]; exact q2⟩
theorem de_dcT (hc : g.X.calm = true) (hu : g.X.A.units + 1 < cLine) (hN : g.X.N.Nodup) (hi : DI g tg iter w) (ok : BlkOk g.X.N g.X.env.scope scope own) (hg : BlkG g scope tg gt ns) (ht : BlkT g scope ifs tt) (hk : BlkE g scope kx tk) (he : BlkE g scope vx tv) (hns : ∀ i ∈ ns, i ∈ own.map (·.2))
    (hs : ∀ x, foldedSetIterable iter g.X.env x = pure x) : DE g (.DictComp kx vx [⟨tg, iter, ifs, 0⟩] scope pos) (dNewDT (dDcT w gt tt tk tv (own.map (·.2)))) := by
  obtain ⟨w', pi, ki⟩ := hi.pi
  obtain ⟨g', pg, kg⟩ := hg
  obtain ⟨t', pt, kt⟩ := ht
  refine DE.of (pe_dcP (fun H h hb => dt_empty h hb) hc hu hN pi ok pg pt hk.pe he.pe hs) fun σ H e M Q sl mr fr q => ?_
  refine dcT_low ki kg kt hns sl mr fr q fun a ws kvs M' H' h l n n0 m f q => ?_
  obtain ⟨m2, f2⟩ := new_inT h l n n0 m f
  exact lowQ.mk ii_ref m2 f2 (q a n)
end
theorem KT.putAll {H : Hp} : ∀ {more : List (List Key × V)} {ys : List (List Key × Addr × Value)} {kvs : List (List Key × V)} {xs : List (List Key × Addr × Value)}, KT H more ys → KT H kvs xs → KT H (more.foldl (fun acc kv => putK acc kv.1 kv.2) kvs) (storedAllH xs ys)
  | [], ys, kvs, xs, h, r => by cases h; exact r
  | (k, v) :: more, ys, kvs, xs, h, r => by
    cases h with
    | @cons _ q _ ys hq t =>
      obtain ⟨h1, h2, h3⟩ := hq
      obtain ⟨k', b, u⟩ := q
      cases (show k = k' from h1)
      exact KT.putAll (kvs := putK kvs k v) (xs := storedH xs k b u) t (r.put k h2 h3)
def mergeT {α : Type} (kvs more : List (List Key × α)) : List (List Key × α) := more.foldl (fun acc kv => putG acc kv.1 kv.2) kvs
theorem KRel.mergeT {K : PySem.W.Frag} {H : Hp} : ∀ {more : List (List Key × D)} {ms : List (List Key × V)} {kvs : List (List Key × D)} {ws : List (List Key × V)}, KRel K H more ms → KRel K H kvs ws → KRel K H (DL.mergeT kvs more) (ms.foldl (fun acc kv => putK acc kv.1 kv.2) ws)
  | [], ms, kvs, ws, h, h2 => by
    have := h.nil_of
    subst this
    exact h2
  | (k, d) :: more, ms, kvs, ws, h, h2 => by
    obtain ⟨v, r, rfl, i, t⟩ := h.inv
    exact KRel.mergeT (kvs := putG kvs k d) (ws := putK ws k v) t (h2.put i)
section
variable {X : Cx}
theorem mt_updT (hu : X.A.units + 1 < cLine) : MtR X "dict.update" (fun x xs H Q => ∃ (a b : Addr) (kvs more : List (List Key × V)), x = .ref a ∧ xs = [.ref b] ∧ a ≠ b ∧ H a = some (.dT kvs) ∧ H b = some (.dT more) ∧ (kvs ≠ [] ∨ more.length ≤ 1) ∧ kvs.length + more.length ≤ sizeLine ∧
    Q .non (upd H a (.dT (more.foldl (fun acc kv => putK acc kv.1 kv.2) kvs)))) := by
  intro pins s σ H x xs v us Q I rx r q
  obtain ⟨a, b, kvs, more, rfl, rfl, hab, ea, eb, hap, hl, q⟩ := q
  cases rx
  obtain ⟨u, rfl, ry⟩ := vals1 r
  cases ry
  obtain ⟨z1, d1, xs, r1, dd1⟩ := dt_of I.hok ea
  obtain ⟨z2, d2, ys, r2, dd2⟩ := dt_of I.hok eb
  have l1 : kvs.length = xs.length := Paired.length r1
  have l2 : more.length = ys.length := Paired.length r2
  have hm : (more.foldl (fun acc kv => putK acc kv.1 kv.2) kvs).length ≤ sizeLine := by
    have : ∀ (more kvs : List (List Key × V)), (more.foldl (fun acc kv => putK acc kv.1 kv.2) kvs).length ≤ kvs.length + more.length := by
      intro more
      induction more with
      | nil => intro kvs; exact Nat.le_refl _
      | cons kv more ih =>
        intro kvs
        have h1 := ih (putK kvs kv.1 kv.2)
        have h2 := length_putK kvs kv.1 kv.2
        simp only [List.foldl_cons, List.length_cons]
        omega
    have := this more kvs
    omega
  refine call_update_dictH (show X.A.units + 1 < cLine from hu) hab d2 dd1 dd2 ?_ (by rw [← l1, ← l2]; exact hl) fun hn hd' _ hs => ?_
  · rcases hap with h | h
    · exact .inl fun e => h (by rw [e] at l1; exact List.length_eq_zero_iff.mp l1)
    · refine .inr ⟨fun x hx => ?_, ?_⟩
      · obtain ⟨_, _, _, _, _, _, _, his, _⟩ := dd2
        exact IsTupleKey.typeIs (his x hx)
      · match ys, l2 with
        | [], _ => exact List.nodup_nil
        | [y], _ => simp
        | _ :: _ :: _, l2 => simp at l2; omega
  · obtain ⟨o, es, ep, ho, f2, f3, f4, _, f5⟩ := hd'
    refine ⟨.non, _, d_write (t' := s.toks) (ob := HO.dT (more.foldl (fun acc kv => putK acc kv.1 kv.2) kvs)) I (by rw [ea]; exact True.intro) hs ⟨o, ho⟩ ⟨hm, d1, _, (KT.putAll r2 r1).keeps fun c ys ec => ?_, o, es, ep, ho, f2, f3, f4, f5⟩, rfl, q⟩
    rw [upd_ne (ne_of ec ea (fun z => nomatch z))]
    exact ec
def mUpd : RmD := fun x ds M Q => match x with
  | .ref a => (match ds with
    | [.ref b] => ∃ kvs more, a ≠ b ∧ M a = some (.dT kvs) ∧ M b = some (.dT more) ∧ (kvs ≠ [] ∨ more.length ≤ 1) ∧ kvs.length + more.length ≤ sizeLine ∧ Q .non (wr M a (.dT (mergeT kvs more)))
    | _ => False)
  | _ => False
theorem md_upd (hu : X.A.units + 1 < cLine) : MtD X "dict" "update" "dict.update" mUpd := by
  refine ⟨PySem.F.plainAttrs_dict, PySem.F.slot_dict_update, PySem.F.type_dict_update, _, mt_updT hu, fun M H Mo Ho x a vs ds Q QV m f i l fin q => ?_⟩
  cases a with
  | ref p =>
    rw [is_ref] at i
    subst i
    match ds, q with
    | [.ref b], q =>
      obtain ⟨v, rfl, j⟩ := isL_one l
      rw [is_ref] at j
      subst j
      obtain ⟨kvs, more, hab, ha, hb, hap, hl, q⟩ := q
      obtain ⟨ws, e, r⟩ := m p _ ha
      obtain ⟨ws2, e2, r2⟩ := m b _ hb
      have r : KRel X.K H kvs ws := r
      have r2 : KRel X.K H more ws2 := r2
      have rm := r2.mergeT r
      obtain ⟨m2, f2⟩ := set_mem m f ha (u' := .dT (mergeT kvs more)) (o := HO.dT (ws2.foldl (fun acc kv => putK acc kv.1 kv.2) ws)) ⟨_, upd_same, rm.1, IsL.ext (ext_write m ha) _ _ rm.2⟩
      refine ⟨p, b, ws, ws2, rfl, rfl, hab, e, e2, ?_, by rw [KRel.length r, KRel.length r2]; exact hl, fin _ _ _ _ ii_non m2 f2 q⟩
      rcases hap with h | h
      · refine .inl fun e => h ?_
        have := KRel.length r
        rw [e] at this
        exact List.length_eq_zero_iff.mp this.symm
      · exact .inr (by rw [KRel.length r2]; exact h)
  | _ => exact q.elim
end
end DL

namespace DL
open PySem PySem.W PySem.Spec PyProof.Rows L2
theorem eachIs_at {α β : Type} {R : α → β → Prop} : ∀ {as : List α} {bs : List β}, as.length = bs.length → (∀ (j : Nat) (a : α) (b : β), as[j]? = some a → bs[j]? = some b → R a b) → EachIs R as bs
  | [], [], _, _ => .nil
  | a :: as, b :: bs, h, k => .cons (k 0 a b rfl rfl) (eachIs_at (Nat.succ.inj h) fun j x y e1 e2 => k (j + 1) x y e1 e2)
  | [], _ :: _, h, _ => nomatch h
  | _ :: _, [], h, _ => nomatch h
theorem eachIs_map {β : Type} {f : β → Value} : ∀ {as : List Value} {bs : List β}, EachIs (fun v b => v = f b) as bs → as = bs.map f
  | _, _, .nil => rfl
  | _, _, .cons h t => by rw [List.map_cons, ← eachIs_map t, h]
def enc2 (b : Addr × Str × Str) : PyData := .tuple [.str b.2.1, .str b.2.2]
theorem enc2_depth (b : Addr × Str × Str) : (enc2 b).depth ≤ 8 := by
  simp [enc2, PyData.depth, PyData.depthAll]
section
variable {X : Cx}
theorem reads2 {H : Hp} {h : Heap} {b : Addr × Str × Str} (ok : HOk X.prog X.w H h) (e : H b.1 = some (.tup [.str b.2.1, .str b.2.2])) : ∃ o its n, h.get? b.1 = some o ∧ o.cls = .type "tuple" ∧ o.data = .seq its n ∧ ∃ t u, its.toList = [Value.str b.2.1 t, Value.str b.2.2 u] := by
  obtain ⟨_, its, rv, ot, hot, hct, nt, hdt⟩ := (show ObjOk X.prog X.w H h b.1 (.tup [.str b.2.1, .str b.2.2]) from ok b.1 _ e)
  cases rv with
  | cons r1 r =>
    cases r with
    | cons r2 r =>
      cases r
      obtain ⟨t, rfl⟩ := r1
      obtain ⟨u, rfl⟩ := r2
      exact ⟨ot, _, nt, hot, hct, hdt, t, u, rfl⟩
theorem cr_sortedT (hcalm : X.calm = true) (hu : X.A.units + 64 < cLine) : CallR X (.builtin "sorted") (fun xs H Q => ∃ (a : Addr) (kvs : List (List Key × V)) (ks : List (Str × Str)), xs = [.ref a] ∧ H a = some (.dT kvs) ∧ kvs.map (·.1) = ks.map (fun p => [Sum.inr p.1, Sum.inr p.2]) ∧
    ∀ (ys : List (Addr × Str × Str)) (p : Addr), (ys.map (·.2)).Perm ks → (∀ y ∈ ys, H y.1 = some (.tup [.str y.2.1, .str y.2.2])) → H p = none → Q (.ref p) (upd H p (.lst (ys.map fun y => V.ref y.1)))) := by
  intro pins s σ H xs us Q I r q
  obtain ⟨a, kvs, ks, rfl, hd, hks, q⟩ := q
  obtain rfl := Vals.ref1 r
  obtain ⟨z, lo, ws, rel, dd⟩ := dt_of I.hok hd
  obtain ⟨es, ep, raw, hsz, hat⟩ := dd.raw
  have l1 : kvs.length = ws.length := Paired.length rel
  have l2 : kvs.length = ks.length := by
    have := congrArg List.length hks
    rwa [List.length_map, List.length_map] at this
  -- the keys with where they stand
  obtain ⟨bs, ebs⟩ : ∃ bs : List (Addr × Str × Str), (ws.map fun x => x.2.1).zip ks = bs := ⟨_, rfl⟩
  have lb : bs.length = es.size := by rw [← ebs, List.length_zip, List.length_map]; omega
  have hb : ∀ j b, bs[j]? = some b → ∃ hi : j < es.size, es[j].key = .ref b.1 ∧ H b.1 = some (.tup [.str b.2.1, .str b.2.2]) := by
    intro j b e
    rw [← ebs, List.getElem?_zip_eq_some] at e
    obtain ⟨e1, e2⟩ := e
    rw [List.getElem?_map] at e1
    obtain ⟨x, ex, e1⟩ := Option.map_eq_some_iff.mp e1
    have hj : j < es.size := by
      have := (List.getElem?_eq_some_iff.mp ex).1
      omega
    obtain ⟨y, ey, k1, _, _⟩ := hat j hj
    have exy : y = x := Option.some.inj (ey.symm.trans ex)
    subst exy
    obtain ⟨e0, he0, r1, r2, _⟩ := L2.DX.pget rel ex
    have e3 : (kvs.map (·.1))[j]? = some e0.1 := by rw [List.getElem?_map, he0]; all_goals rfl
    rw [hks, List.getElem?_map, e2] at e3
    have e4 : [Sum.inr b.2.1, Sum.inr b.2.2] = e0.1 := Option.some.inj e3
    refine ⟨hj, by rw [k1, e1], ?_⟩
    rw [← e1, r2, ← e4]
    all_goals rfl
  have h16 : es.size ≤ sizeLine := by omega
  refine Calls.call_function_entry PyProof.Rows.kind_sorted PyProof.Rows.plain_sorted PyProof.Rows.entry_sorted (PyProof.Rows.args_sorted1 _) ?_
  unfold Builtin.«sorted»
  refine wpAny_bind (m := checkCount "sorted" 1 1 _) (wpAny_pure ?_)
  refine wpAny_bind (PySem.W.kdu_collect (A := X.A.in1) (KdlSrc.rawDict (es := es) (ep := ep) lo) (I.ok.hd hcalm) raw h16 fun h' tk acc hk hacc => ?_)
  have I1 : Inv X pins σ H { s with heap := h', toks := tk } := I.kept hk
  have la : acc.toList.length = bs.length := by rw [Array.length_toList, hacc.1, lb]
  have each : EachIs (fun v (b : Addr × Str × Str) => v = Value.ref b.1) acc.toList bs := eachIs_at la fun j v b e1 e2 => by
    obtain ⟨hi, ev⟩ := hacc.2 j v (by rw [← Array.getElem?_toList]; exact e1)
    obtain ⟨hi', k1, _⟩ := hb j b e2
    rw [ev]
    exact k1
  refine wpAny_bind (wpAny_newList ?_ (by rw [la, lb]; exact h16))
  have hoL : (h'.push (seqObj "list" acc.toList.toArray 0)).get? h'.objs.size = some (seqObj "list" acc.toList.toArray 0) := Heap.get?_push_size _ rfl
  show wpAny _ _ _ _ _ { s with heap := h'.push (seqObj "list" acc.toList.toArray 0), toks := tk }
  have er : EachIs (fun v b => ∃ as, Reads (h'.push (seqObj "list" acc.toList.toArray 0)) v (enc2 b) as ∧ h'.objs.size ∉ as) acc.toList bs := eachIs_at la fun j v b e1 e2 => by
    obtain ⟨hi, ev⟩ := hacc.2 j v (by rw [← Array.getElem?_toList]; exact e1)
    obtain ⟨hi', k1, hH⟩ := hb j b e2
    obtain ⟨o, its, n, g, hc, hdt, t, u, eits⟩ := reads2 I1.hok hH
    rw [ev, show es[j].key = Value.ref b.1 from k1]
    exact ⟨_, .tuple (Heap.get?_push_of_some _ g) hc hdt (by rw [eits]; exact .cons (.str _ _) (.cons (.str _ _) .nil)), List.not_mem_nil⟩
  refine wpAny_bind (wpAny_holding (list_sort_data (s := { s with heap := h'.push (seqObj "list" acc.toList.toArray 0), toks := tk }) (enc := enc2) hoL each er (AllAlike.of fun _ _ => by simp [enc2, alike, alikeAll]) (Sortable.tuples fun b => ⟨_, _, rfl⟩) (by rw [lb]; exact h16)
    (fun b _ => by
      have := enc2_depth b
      have e : X.A.in1.units = X.A.units + 1 := rfl
      omega) fun out lo' ho => ?_))
  have hp := List.mergeSort_perm bs (dataLe false enc2)
  generalize bs.mergeSort (dataLe false enc2) = ys at ho hp
  have eo := eachIs_map ho
  have hlen : (ys.map fun y => V.ref y.1).length ≤ sizeLine := by rw [List.length_map, hp.length_eq, lb]; exact h16
  obtain ⟨e', he'⟩ := PyProof.Rows.sortedHeap_at (vs := acc.toList) (out := List.toArray out) hoL
  have rv : Vals (ys.map fun y => V.ref y.1) (List.toArray out).toList := by
    rw [show (List.toArray out).toList = out from rfl, eo]
    exact vals_maps (fun y : Addr × Str × Str => V.ref y.1) (fun y => Value.ref y.1) ys fun _ _ => rfl
  refine wpAny_pure ⟨_, rfl, .ref h'.objs.size, upd H h'.objs.size (.lst (ys.map fun y => V.ref y.1)), I1.laid (t' := tk) (fun b u e => ?_) (Nat.le_refl _)
    (show ObjOk X.prog X.w _ _ _ (.lst (ys.map fun y => V.ref y.1)) from ⟨hlen, _, e', rv, he'⟩), rfl, q ys _ ?_ (fun y hy => ?_) (I1.hok.fresh (Nat.le_refl _))⟩
  · have hb : b < h'.objs.size := Heap.lt_size e
    rw [PyProof.Rows.sortedHeap_old (Nat.ne_of_lt hb) (by rw [size_push']; exact Nat.lt_succ_of_lt hb)]
    exact Heap.get?_push_of_some _ e
  · refine (hp.map (·.2)).trans ?_
    rw [← ebs, List.map_snd_zip (by rw [List.length_map]; omega)]
  · obtain ⟨j, hj⟩ := List.mem_iff_getElem?.mp (hp.mem_iff.mp hy)
    exact (hb j y hj).2.2
def rSortedT : RnD := fun ds M Q => match ds with
  | [.ref a] => ∃ (kvs : List (List Key × D)) (ks : List (Str × Str)), M a = some (.dT kvs) ∧ kvs.map (·.1) = ks.map (fun p => [Sum.inr p.1, Sum.inr p.2]) ∧
      ∀ ys : List (Str × Str), ys.Perm ks → ∀ p, M p = none → Q (.ref p) (wr M p (.lst (ys.map fun y => D.tup [.str y.1, .str y.2])))
  | _ => False
theorem cd_sortedT (hcalm : X.calm = true) (hu : X.A.units + 64 < cLine) : CallD X (.builtin "sorted") rSortedT := by
  refine ⟨_, cr_sortedT hcalm hu, fun M H Mo Ho vs ds Q QV m f l fin q => ?_⟩
  match ds, q with
  | [.ref a], q =>
    obtain ⟨v, rfl, j⟩ := isL_one l
    rw [is_ref] at j
    subst j
    obtain ⟨kvs, ks, h, hk, q⟩ := q
    obtain ⟨ws, e, hkk, l1⟩ := m a _ h
    refine ⟨a, ws, ks, rfl, e, hkk.trans hk, fun ys p hp ht hn => ?_⟩
    refine fin.newL m f (ds := ys.map fun y => D.tup [.str y.2.1, .str y.2.2]) ?_ (fun p hp' => ?_) p hn
    · clear hp
      induction ys with
      | nil => exact isL_nil.mpr rfl
      | cons y ys ih =>
        rw [List.map_cons, List.map_cons]
        refine isL_cons.mpr ⟨_, _, rfl, is_tup.mpr ⟨y.1, [.str y.2.1, .str y.2.2], rfl, ht y (List.mem_cons_self ..), ?_⟩, ih fun z hz => ht z (List.mem_cons_of_mem _ hz)⟩
        exact isL_cons.mpr ⟨_, _, rfl, ii_str, isL_cons.mpr ⟨_, _, rfl, ii_str, isL_nil.mpr rfl⟩⟩
    · have := q (ys.map (·.2)) hp p hp'
      rw [List.map_map] at this
      exact this
end
end DL

namespace DL
open PySem PySem.Spec PyProof.Rows L2
theorem jrel_zipP {K : PySem.W.Frag} {H1 : Hp} {J : It} {P : Mem → Prop} {F G : Hp → List V → Prop} {xs ys : List D}
    (hl : ∀ M H, MRel K M H → Ext K H1 H → P M → ∃ vs ws, F H vs ∧ G H ws ∧ IsL K H xs vs ∧ IsL K H ys ws)
    (go : ∀ i H vs ws x y, F H vs → G H ws → vs[i]? = some x → ws[i]? = some y → J.go i H ∧ ∀ z H', J.yld i H z H' → ∃ T, z = .ref T ∧ H T = none ∧ H' = upd H T (.tup [x, y]))
    (stop : ∀ i H vs ws, F H vs → G H ws → (vs.length ≤ i ∨ ws.length ≤ i) → J.stop i H) : JRel K H1 J ⟨(zipD xs ys).map D.tup, P⟩ := by
  refine jrel_new (ts := zipD xs ys) (f := fun H vss => ∃ vs ws, F H vs ∧ G H ws ∧ vss = List.zipWith (fun x y => [x, y]) vs ws) rfl (fun M H m f p => ?_) (fun i H vss us h e => ?_) fun i H vss h e => ?_
  · obtain ⟨vs, ws, h1, h2, l1, l2⟩ := hl M H m f p
    refine ⟨_, ⟨vs, ws, h1, h2, rfl⟩, by unfold zipD; rw [List.length_zipWith, List.length_zipWith, l1.length, l2.length], fun i t e => ?_⟩
    obtain ⟨x, y, hx, hy, rfl⟩ := zip_at _ e
    obtain ⟨v, e1, i1⟩ := l1.get hx
    obtain ⟨u, e2, i2⟩ := l2.get hy
    exact ⟨[v, u], by rw [List.getElem?_zipWith, e1, e2], IsL.mk i1 (IsL.mk i2 (isL_nil.mpr rfl))⟩
  · obtain ⟨vs, ws, h1, h2, rfl⟩ := h
    obtain ⟨x, y, hx, hy, rfl⟩ := zip_at _ e
    exact go i H vs ws x y h1 h2 hx hy
  · obtain ⟨vs, ws, h1, h2, rfl⟩ := h
    rw [List.length_zipWith] at e
    exact stop i H vs ws h1 h2 (by omega)
def diZipR (r : DTA) : DTI := fun e M R E => r e M (fun ds M1 => match ds with
  | [x, y] => ∃ a xs ys, x = .ref a ∧ M1 a = some (.lst xs) ∧ y = .rl ys ∧ R ⟨(zipD xs ys).map D.tup, fun M' => M' a = some (.lst xs)⟩ M1
  | _ => False) E
theorem di_zipR {g : Gd} {x y : Expr} {elts : List Expr} {kk : Nat} {p pos tpos : Pos} {r : DTA} (hg : Gl g.X "zip") (hm : g.X.mg "zip" = none) (h : DA g [x, y] r) (n1 : isStar x = false) (n2 : isStar y = false) : DI g (.Tuple elts kk tpos) (.Call (.Name "zip" p) [x, y] [] pos) (diZipR r) := by
  obtain ⟨ta, pa, ka⟩ := h.pa
  refine ⟨⟨_, RZ.pi_zipA hg hm pa (star_cons n1) (by rw [star_cons n2]; rfl), fun σ H e M R RV sl mr fr q k => ?_⟩⟩
  refine ka σ H e M _ _ sl mr fr q fun ds vs M1 H1 l m f q => ?_
  match ds, q with
  | [x, y], q =>
    rw [isL_cons] at l
    obtain ⟨v, rv, rfl, i, l⟩ := l
    rw [isL_cons] at l
    obtain ⟨u, ru, rfl, j, l⟩ := l
    rw [isL_nil] at l
    subst l
    obtain ⟨a, xs, ys, rfl, ha, rfl, q⟩ := q
    rw [is_ref] at i
    rw [is_rl] at j
    subst i
    obtain ⟨b, ws, rfl, s2, l2⟩ := j
    obtain ⟨vs, e1, l1⟩ := m a _ ha
    refine ⟨a, b, vs, ws, rfl, .inl ⟨SqL.of e1, s2.sq, k _ _ M1 H1 (jrel_zipP (F := fun H vs => SqL _ H a vs) (G := fun H ws => SqL _ H b ws) (fun M' H' m' f' p => ?_) go_zipL fun i H vs ws h1 h2 e => ⟨vs, ws, h1, h2, e⟩) m f q⟩⟩
    obtain ⟨vs', e2, l3⟩ := m' a _ p
    exact ⟨vs', ws, SqL.of e2, (f'.2.1 _ _ s2).sq, l3, IsL.ext f' _ _ l2⟩
end DL

namespace DL
open PySem PySem.Spec PyProof.Rows L2
theorem mul_once (a : Addr) (its : Array Value) (m : Nat) (od : Option Addr) (so : Array (Option Value)) (tk : Tok) :
    Meets (Builtin.«tuple.__mul__» ⟨[.ref a, .int 1 tk], []⟩) (fun _ R s => s.heap.get? a = some ⟨.type "tuple", od, .seq its m, so⟩ ∧ R (.ok (.ret (.ref a))) s) :=
  .of_wp fun P W Y R s hh => by
    obtain ⟨hp, g, d, tk2, os⟩ := s
    obtain ⟨ho, hr⟩ := hh
    have ix := AutoSeq1.idx_int
    wp_walk using wpAny_loadPart' ho
    exact ⟨_, rfl, hr⟩
theorem mul_never (a : Addr) (its : Array Value) (m : Nat) (od : Option Addr) (so : Array (Option Value)) (tk : Tok) (ne : its.isEmpty = false) :
    Meets (Builtin.«tuple.__mul__» ⟨[.ref a, .int 0 tk], []⟩) (fun _ R s => s.heap.get? a = some ⟨.type "tuple", od, .seq its m, so⟩ ∧ R (.ok (.ret (.ref s.heap.objs.size))) { s with heap := s.heap.push { cls := .type "tuple", data := .seq #[] } }) :=
  .of_wp fun P W Y R s hh => by
    obtain ⟨hp, g, d, tk2, os⟩ := s
    obtain ⟨ho, hr⟩ := hh
    have ix := AutoSeq1.idx_int
    wp_walk using wpAny_loadPart' ho
    exact ⟨_, rfl, hr⟩
section
variable {X : Cx}
def rMul01 (K : PySem.W.Frag) : R2 := fun x y H Q => ∃ l xs, x = .ref l ∧ SqT K H l xs ∧ ((y = .int 1 ∧ Q (.ref l) H) ∨ (y = .int 0 ∧ xs ≠ [] ∧ ∀ p, H p = none → Q (.ref p) (upd H p (.tup []))))
theorem op_mul01 : OpR X (binaryOp .Mult) (rMul01 X.K) := by
  intro pins s σ H x y v u Q I rx ry h
  obtain ⟨a, xs, rfl, hT, h⟩ := h
  cases rx
  obtain ⟨its, r, ⟨⟨cls, od, data, so⟩, ho, hc, m, hd⟩, hs⟩ := I.tuple hT
  simp only at hc hd
  subst hc hd
  rcases h with ⟨rfl, q⟩ | ⟨rfl, ne, q⟩
  · obtain ⟨t, rfl⟩ := ry
    refine wpAny_binaryOp_repeat_ref (T := "tuple") (U := "int") (by decide) ⟨_, ho, rfl⟩ (fun s' => typeIs_int s' 1 t) noFill_tuple_mul F.fills_int_mul F.slot_int_rmul repeat_tuple F.slot_int_index.lookup
      (call_meets F.slot_int_rmul (typeIs_int s 1 t) F.entry_int_rmul (F.args_int_rmul_2 _ _) (int_rmul_tuple 1 t a its.toArray m od so) ⟨ho, rfl, ⟨_, ho, rfl⟩, ?_⟩)
    exact call_meets F.slot_tuple_mul ⟨_, ho, rfl⟩ F.entry_tuple_mul (F.args_tuple_mul_2 _ _) (mul_once a its.toArray m od so t) ⟨ho, .ref a, H, I, rfl, q⟩
  · obtain ⟨t, rfl⟩ := ry
    have hi : its.toArray.isEmpty = false := by
      cases its with
      | nil => cases r with | nil => exact absurd rfl ne
      | cons => rfl
    refine wpAny_binaryOp_repeat_ref (T := "tuple") (U := "int") (by decide) ⟨_, ho, rfl⟩ (fun s' => typeIs_int s' 0 t) noFill_tuple_mul F.fills_int_mul F.slot_int_rmul repeat_tuple F.slot_int_index.lookup
      (call_meets F.slot_int_rmul (typeIs_int s 0 t) F.entry_int_rmul (F.args_int_rmul_2 _ _) (int_rmul_tuple 0 t a its.toArray m od so) ⟨ho, rfl, ⟨_, ho, rfl⟩, ?_⟩)
    refine call_meets F.slot_tuple_mul ⟨_, ho, rfl⟩ F.entry_tuple_mul (F.args_tuple_mul_2 _ _) (mul_never a its.toArray m od so t hi) ⟨ho, ?_⟩
    refine ⟨.ref s.heap.objs.size, _, I.laid (t' := s.toks) (o := .tup []) (fun b ob q => Heap.get?_push_of_some _ q) (Nat.le_refl _) ?_, rfl, q _ (I.hok.fresh (Nat.le_refl _))⟩
    exact ⟨Nat.zero_le _, [], .nil, IsTup.new _ _⟩
end
end DL

namespace DL
open PySem PySem.Spec PyProof.Rows L2
section
variable {X : Cx}
theorem addI_ok {pins : List (Addr × Obj)} {σ : L2.St} {H : Hp} {s : Shared} {E : Value → Shared → Prop} {D : Addr} {S : Int → Bool} {n : Nat} {k : Int} {u : Value} {Q : Value → Shared → Prop} (I : Inv X pins σ H s) (hD : H D = some (SetO X.w D S n)) (room : n + 1 < scanBound) (r : RelV (.int k) u)
    (h : ∀ s', Inv X pins σ (upd H D (SetO X.w D (fun j => S j || decide (j = k)) (if S k = true then n else n + 1))) s' → Q .none s') : wpAny (model X.prog X.w) X.A (call (.builtin "set.add") [.ref D, u]) Q E s := by
  obtain ⟨tk, rfl⟩ := r
  have R := setO_get I hD
  refine setR_add R room fun h' sb new => ?_
  have he : ∃ v, h'.get? D = some v := by
    have ⟨o, _, _, _, ho, _⟩ := new
    exact ⟨o, ho⟩
  exact h _ (I.write (e := D) (t' := s.toks + 1) (by rw [hD]; trivial) (.inl rfl) (fun b v hb hu => (sb.2 b hb).trans hu) he (setO_new new))
def tScI (w : World) (wi : TI) (g : TG) (tt : TT) (te : TE) (vs : List Nat) : TE := fun σ H Q => wi σ H fun J Hy1 => ∀ D, Hy1 D = none → ∃ W : Nat → Nat → Hp → Prop, (∃ m, W 0 m (upd Hy1 D (SetO w D (fun _ => false) 0))) ∧ ∀ i m H, W i m H →
  (J.stop i H ∧ Q (.ref D) H) ∨ (J.go i H ∧ ∃ Nx : Hp → Prop, (∀ H', Nx H' → ∃ m', m' < m ∧ W (i + 1) m' H') ∧ ∀ x H', J.yld i H x H' → g x (wipe σ vs) H' fun σ2 Hy2 => wipe σ2 vs = wipe σ vs ∧ tt σ2 Hy2 fun b Hy3 =>
    if b = true then te σ2 Hy3 fun y Hy4 => ∃ (c : Int) (S : Int → Bool) (n : Nat), y = .int c ∧ Hy4 D = some (SetO w D S n) ∧ n + 1 < scanBound ∧ Nx (upd Hy4 D (SetO w D (fun j => S j || decide (j = c)) (if S c = true then n else n + 1))) else Nx Hy3)
theorem si_core {pins : List (Addr × Obj)} {s : Shared} {σ : L2.St} {H : Hp} {Q : VK} {elt tg iter : Expr} {ifs : List Expr} {scope : Scope} {own : List (PySem.Str × Nat)} {pos pos' : Pos} {wi : TI} {g : TG} {tt : TT} {te : TE} {use : Option (Value → Sem Unit)} {Qf : Value → Shared → Prop}
    (hc : X.calm = true) (hN : X.N.Nodup) (I : Inv X pins σ H s) (hi : PI X tg iter wi) (ok : BlkOk X.N X.env.scope scope own)
    (hg : ∀ (s : Shared) (H : Hp) (C : Addr) (cl : List (PySem.Str × Addr)) (fp : List Addr), PG (X.blk s H scope (compEnvC scope cl C X.env) fp) tg g) (ht : ∀ (s : Shared) (H : Hp) (C : Addr) (cl : List (PySem.Str × Addr)) (fp : List Addr), PTs (X.blk s H scope (compEnvC scope cl C X.env) fp) ifs tt)
    (he : ∀ (s : Shared) (H : Hp) (C : Addr) (cl : List (PySem.Str × Addr)) (fp : List Addr), PE (X.blk s H scope (compEnvC scope cl C X.env) fp) elt te) (hs : ∀ x, foldedSetIterable iter X.env x = pure x)
    (h : tScI X.w wi g tt te (own.map (·.2)) σ H Q)
    (hRR : ∀ D C s' m H', Inv X pins σ H' s' → Q (.ref D) H' → s'.heap.Ns C m → FpOk X pins H' C → compPost (model X.prog X.w) X.A X.xe use Qf (.ref D) C (.ok .next) s') :
    wpAny (model X.prog X.w) X.A (comprehension (.SetComp elt [⟨tg, iter, ifs, 0⟩] scope pos) scope X.env pos' (newSet (.type "set")) false (eval iter X.env) use) Qf X.xe s := by
  have hfree : ∀ y ∈ scope.names, y.2 = .free → ∃ c, X.env.cells.lookup y.1 = some c := fun y hy e => by
    rcases ok.free y hy e with k | k
    · exact I.ok.has _ (.inl k)
    · exact I.ok.has _ (.inr k)
  refine wpAny_comprehension_free (use := use) rfl hs (closure_ok hfree) ok.kind (fun y hy e => by rw [ok.uniq y hy, e])
    (thn (hi.run pins s σ H _ I h) fun xv sv1 hx => thn hx fun itv sv2 h2 => ?_)
  obtain ⟨it, fp, tn, J, Hy2, e, Iw2, T, st2, f2, q⟩ := h2
  subst e
  refine PpSet.newSet_ok (newEnv_comp ?_)
  generalize hD : sv2.heap.objs.size = D
  have hDn : Hy2 D = none := Iw2.hok.fresh (Nat.le_of_eq hD)
  obtain ⟨W, ⟨m0, w0⟩, turn⟩ := q D hDn
  -- the new list
  generalize hs3 : ({ sv2 with heap := sv2.heap.push { cls := .type "set", dict := none, data := .set #[] 0 (.fresh 0 0 (!X.w.params.followText "set-order")) } } : Shared) = sv3
  have Iw3 : Inv X pins σ (upd Hy2 D (SetO X.w D (fun _ => false) 0)) sv3 := by
    rw [← hs3]
    refine Iw2.laid (t' := sv2.toks) (fun b o e => Heap.get?_push_of_some _ e) (Nat.le_of_eq hD) ?_
    rw [← hD]
    exact setO_new (setR_fresh X.w)
  have h3 : sv3.heap = sv2.heap.push { cls := .type "set", dict := none, data := .set #[] 0 (.fresh 0 0 (!X.w.params.followText "set-order")) } := by rw [← hs3]
  have sz : ∀ b ∈ fp, b < sv2.heap.objs.size := fun b hb => by
    obtain ⟨o, e, _⟩ := T.obj _ _ st2 b hb
    exact Heap.lt_size e
  have f3 : ∀ b ∈ fp, FpOk X pins (upd Hy2 D (SetO X.w D (fun _ => false) 0)) b ∧ b < sv3.heap.objs.size := fun b hb => by
    have hlt := sz b hb
    refine ⟨⟨?_, (f2 b hb).2⟩, by rw [h3, Heap.size_push]; exact Nat.lt_succ_of_lt hlt⟩
    rw [upd_ne (by rw [← hD]; exact Nat.ne_of_lt hlt)]
    exact (f2 b hb).1
  have st3 : tn 0 sv3.heap := T.keep _ _ _ st2 fun b _ o e => by rw [h3]; exact Heap.get?_push_of_some _ e
  have Iw4 := block_start Iw3 ok hN f3
  have pg := hg sv3 (upd Hy2 D (SetO X.w D (fun _ => false) 0)) sv3.heap.objs.size (cellsFrom (sv3.heap.objs.size + 1) scope.names (cloFrom X.env.cells scope.names [])) fp
  have pt := ht sv3 (upd Hy2 D (SetO X.w D (fun _ => false) 0)) sv3.heap.objs.size (cellsFrom (sv3.heap.objs.size + 1) scope.names (cloFrom X.env.cells scope.names [])) fp
  have pe := he sv3 (upd Hy2 D (SetO X.w D (fun _ => false) 0)) sv3.heap.objs.size (cellsFrom (sv3.heap.objs.size + 1) scope.names (cloFrom X.env.cells scope.names [])) fp
  show codeAny _ _ (.compStart (.SetComp elt [⟨tg, iter, ifs, 0⟩] scope pos) 0 (.ref it) (.ref D) (compEnvC scope (cellsFrom (sv3.heap.objs.size + 1) scope.names (cloFrom X.env.cells scope.names [])) sv3.heap.objs.size X.env)) (compPost (model X.prog X.w) X.A X.xe use Qf (.ref D) sv3.heap.objs.size) { sv3 with heap := pushCells (sv3.heap.push { cls := .type "dict", data := .dict #[] }) scope.names }
  have nfp : ∀ b ∈ fp, (upd Hy2 D (SetO X.w D (fun _ => false) 0)) b = none := fun b hb => (f3 b hb).1.1
  generalize hce : compEnvC scope (cellsFrom (sv3.heap.objs.size + 1) scope.names (cloFrom X.env.cells scope.names [])) sv3.heap.objs.size X.env = ce at Iw4 pg pt pe ⊢
  have cL : ce.locals = sv3.heap.objs.size := by subst hce; rfl
  generalize hH3 : upd Hy2 D (SetO X.w D (fun _ => false) 0) = Hy3 at Iw3 Iw4 pg pt pe w0 nfp f3
  generalize hs4 : ({ sv3 with heap := pushCells (sv3.heap.push { cls := .type "dict", data := .dict #[] }) scope.names } : Shared) = sv4 at Iw4 ⊢
  have st4 : tn 0 sv4.heap := T.keep _ _ _ st3 fun b _ o e => by rw [← hs4]; exact pushCells_keeps _ _ _ _ (Heap.get?_push_of_some _ e)
  have stat : ∀ {σ' : L2.St} {H' : Hp} {s' : Shared}, Inv (X.blk sv3 Hy3 scope ce fp) [] σ' H' s' → (∀ b ∈ fp, H' b = none) → ∀ b ∈ fp, FpOk (X.blk sv3 Hy3 scope ce fp) [] H' b := fun {σ' H' s'} I' hn b hb =>
    ⟨hn b hb, (I'.ok.exf b hb).1, I'.ok.exfs b hb, .inl hb, fun x c e => (I'.ok.exf b hb).2 x c e, fun p hp => absurd (show p ∈ ([] : List (Addr × Obj)) ++ [] from hp) (by simp)⟩
  have loop : codeAny (model X.prog X.w) X.A (.compLoop (.SetComp elt [⟨tg, iter, ifs, 0⟩] scope pos) 0 (.ref it) (.ref D) ce) (compPost (model X.prog X.w) X.A X.xe use Qf (.ref D) sv3.heap.objs.size) sv4 := by
    refine PpSet.compLoopS_any (fun n s' => ∃ i H', Inv (X.blk sv3 Hy3 scope ce fp) [] (wipe σ (own.map (·.2))) H' s' ∧ tn i s'.heap ∧ (∀ b ∈ fp, H' b = none) ∧ W i n H') ?_ m0 ⟨0, Hy3, Iw4, st4, nfp, w0⟩
    rintro n sv5 ⟨i, Hy5, Iw5, st5, n5, w5⟩
    rcases turn i n Hy5 w5 with ⟨stop, qq⟩ | ⟨go, Nx, hNx, step⟩
    · have td := T.done (X.blk sv3 Hy3 scope ce fp) rfl rfl rfl hc i [] sv5 _ Hy5 (fun _ _ => False) Iw5 (stat Iw5 n5) st5 stop
      refine thnF td fun r sv6 ⟨hr, Iw6⟩ => ?_
      subst hr
      -- back in the def's context
      have Iw7 : Inv X pins σ Hy5 sv6 := Iw3.call' (ch := fp) Iw6.os Iw6.base Iw6.hok Iw6.bare fun b hb => ⟨(f3 b hb).1.2.2.2.1, (f3 b hb).1.2.1, (f3 b hb).1.2.2.2.2.1, (f3 b hb).1.2.2.2.2.2⟩
      have nC : Hy5 sv3.heap.objs.size = none := by
        have z : Hy5 ce.locals = none := Iw6.free
        rw [cL] at z
        exact z
      obtain ⟨m, hn, _⟩ := Iw6.loc
      have hn : sv6.heap.Ns ce.locals m := hn
      rw [cL] at hn
      exact hRR D sv3.heap.objs.size sv6 m Hy5 Iw7 qq hn (Iw3.fpOk (Nat.le_refl _) nC)
    · have ti := T.item (X.blk sv3 Hy3 scope ce fp) rfl rfl rfl hc i [] sv5 _ Hy5 (fun _ _ => False) Iw5 (stat Iw5 n5) st5 go
      refine thnF ti fun r sv6 ⟨u, hr, h6⟩ => ?_
      subst hr
      refine thnF h6 fun _ sv7 ⟨x, Hy7, Iw7, r7, y7, st7, n7⟩ => ?_
      have Iw7' := Iw7.pinned (stat Iw7 n7) (T.obj _ _ st7)
      refine thnF (pg.run _ sv7 _ Hy7 x u _ Iw7' r7 (step x Hy7 y7)) fun _ sv8 ⟨σ8, Hy8, Iw8, hw8, q8⟩ => ?_
      refine thnF (pt.run _ sv8 σ8 Hy8 _ Iw8 q8) fun b sv9 ⟨Hy9, Iw9, q9⟩ => ?_
      -- the turn's end
      have fin : ∀ {s' : Shared} {H' : Hp}, Inv (X.blk sv3 Hy3 scope ce fp) ([] ++ pinsAt fp sv7.heap) σ8 H' s' → Nx H' → ∃ m, m < n ∧ ∃ i H', Inv (X.blk sv3 Hy3 scope ce fp) [] (wipe σ (own.map (·.2))) H' s' ∧ tn i s'.heap ∧ (∀ b ∈ fp, H' b = none) ∧ W i m H' := fun {s' H'} I' nx => by
        obtain ⟨m', hm, w'⟩ := hNx H' nx
        have pin' : ∀ b ∈ fp, ∀ o, sv7.heap.get? b = some o → s'.heap.get? b = some o ∧ H' b = none := fun b hb o e =>
          let z := I'.pin (b, o) (List.mem_append_right _ (List.mem_append_right _ (mem_pinsAt hb e)))
          ⟨z.1, z.2.1⟩
        have hl : (wipe σ (own.map (·.2))).length = σ8.length := by rw [← hw8, wipe_length]
        refine ⟨m', hm, i + 1, H', (I'.unpinned (pins := [])).weak hl (fun j v e => ?_), T.keep _ _ _ st7 fun b hb o e => (pin' b hb o e).1, fun b hb => ?_, w'⟩
        · rw [← hw8] at e
          exact (wipe_some e).1
        · obtain ⟨o, e, _⟩ := T.obj _ _ st7 b hb
          exact (pin' b hb o e).2
      cases b with
      | false =>
        simp only [Bool.false_eq_true, if_false] at q9 ⊢
        exact fin Iw9 q9
      | true =>
        simp only [if_true] at q9 ⊢
        refine thnF (pe.run _ sv9 σ8 Hy9 _ Iw9 q9) fun z sv10 ⟨yv, Hy10, Iw10, r10, cb, S0, n0, ey, hD10, hz10, nx⟩ => ?_
        subst ey
        exact addI_ok (X := X.blk sv3 Hy3 scope ce fp) Iw10 hD10 hz10 r10 fun sv11 Iw11 => fin Iw11 nx
  exact PpSet.codeAny_compStart_set loop (T.self X.A 0 _ _ _ st4 loop)
theorem pe_scI {elt tg iter : Expr} {ifs : List Expr} {scope : Scope} {own : List (PySem.Str × Nat)} {pos : Pos} {wi : TI} {g : TG} {tt : TT} {te : TE} (hc : X.calm = true) (hN : X.N.Nodup) (hi : PI X tg iter wi) (ok : BlkOk X.N X.env.scope scope own)
    (hg : ∀ (s : Shared) (H : Hp) (C : Addr) (cl : List (PySem.Str × Addr)) (fp : List Addr), PG (X.blk s H scope (compEnvC scope cl C X.env) fp) tg g) (ht : ∀ (s : Shared) (H : Hp) (C : Addr) (cl : List (PySem.Str × Addr)) (fp : List Addr), PTs (X.blk s H scope (compEnvC scope cl C X.env) fp) ifs tt)
    (he : ∀ (s : Shared) (H : Hp) (C : Addr) (cl : List (PySem.Str × Addr)) (fp : List Addr), PE (X.blk s H scope (compEnvC scope cl C X.env) fp) elt te) (hs : ∀ x, foldedSetIterable iter X.env x = pure x := by intro _; rfl) :
    PE X (.SetComp elt [⟨tg, iter, ifs, 0⟩] scope pos) (tScI X.w wi g tt te (own.map (·.2))) := by
  refine ⟨fun pins s σ H Q I h => ?_⟩
  rw [PpSet.eval_SetComp]
  refine si_core hc hN I hi ok hg ht he hs h fun D C s' m H' I' q hn f => ⟨m, hn, fun h'' sb => ?_⟩
  obtain ⟨f0, f1, f2, f3, f4, f5⟩ := f
  exact ⟨.ref D, H', I'.turned (t' := s'.toks) (fun b o hb e => (sb.2 b hb).trans e) f0 f1 f3 f4 f5, rfl, q⟩
end
end DL

namespace DL
open PySem PySem.Spec PyProof.Rows L2
section
variable {X : Cx}
def tSrtI (w : World) (te : TE) : TE := fun σ H Q => te σ H fun x H1 => rSortedSet w [x] H1 Q
theorem pe_srtI {a : Expr} {ta : TE} {p pos : Pos} (hc : X.calm = true) (hg : Gl X "sorted") (hm : X.mg "sorted" = none) (ha : PE X a ta) (na : isStar a = false) : PE X (.Call (.Name "sorted" p) [a] [] pos) (tSrtI X.w ta) := by
  refine ⟨fun pins s σ H Q I h => ?_⟩
  refine Call_ (ld_blt I hg hm (by rfl) ?_)
  refine PyProof.Rows.callWith_builtin1 (PyProof.Rows.args_cons (thn (ha.run pins s σ H _ I h) fun v s1 ⟨x, H1, I1, r1, q1⟩ => PyProof.Rows.args_nil ?_) (star_cons na)) (star_cons na) rfl
  exact cr_sortedSet hc pins s1 σ H1 [x] [v] Q I1 (.cons r1 .nil) q1
end
section
variable {K : PySem.W.Frag} {M M1 : Mem} {H H1 : Hp} {p : Addr} {w : World} {S S' : Int → Bool} {n n' : Nat}
theorem ext_outI (h : H p = some (SetO w p S n)) : Ext K H (upd H p (SetO w p S' n')) := by
  have ne : ∀ {a : Addr} {u : HO}, H a = some u → u ≠ SetO w p S n → a ≠ p := fun {a u} q k z => by subst z; rw [h] at q; exact k (Option.some.inj q).symm
  refine ⟨fun a xs e => ?_, fun a xs e => ?_, fun a xs ⟨o, e, hd⟩ => ⟨o, by rw [upd_ne (ne e fun z => by unfold SetO at z; cases z)]; exact e, hd⟩, fun a o xs e => by rw [upd_ne (ne e fun z => by unfold SetO at z; cases z)]; exact e⟩
  · rw [upd_ne (ne e fun z => by unfold SetO at z; cases z)]; exact e
  · rcases e with ⟨o, e⟩ | e
    · exact .inl ⟨o, by rw [upd_ne (ne e fun z => by unfold SetO at z; cases z)]; exact e⟩
    · exact .inr e
theorem mr_outI (m : MRel K M H) (h : H p = some (SetO w p S n)) (np : M p = none) : MRel K M (upd H p (SetO w p S' n')) := fun a o e => by
  have : a ≠ p := fun z => by subst z; rw [np] at e; cases e
  exact (m a o e).ext (ext_outI h) (upd_ne this)
end
abbrev DTN := Sl → Mem → (List Int → Mem → Prop) → EX → Prop
def dScI (w : DTI) (gt : DTG) (tt : DTT) (te : DTE) (vs : List Nat) : DTN := fun e M Q E => w e M (fun src M1 => ∃ I : Nat → List Int → Mem → Prop, I 0 [] M1 ∧
  (∀ i d acc M', src.items[i]? = some d → I i acc M' → src.live M' ∧ gt d (wipeS e vs) M' (fun e2 M2 => tt e2 M2 (fun b M3 =>
    if b = true then te e2 M3 (fun y M4 => acc.length < 4000 ∧ ∃ k : Int, y = .int k ∧ I (i + 1) (acc ++ [k]) M4) EF else I (i + 1) acc M3) EF) EF) ∧
  ∀ acc M', I src.items.length acc M' → src.live M' ∧ Q acc M') E
def dSrI (t : DTN) : DTE := fun e M Q E => t e M (fun ks M1 => ks.length < 64 ∧ ∀ ns : List Int, ns.Pairwise (· < ·) → (∀ k, k ∈ ns ↔ k ∈ ks) → ∀ p, M1 p = none → Q (.ref p) (wr M1 p (.lst (ns.map D.int)))) E
section
variable {g : Gd} {elt tg iter : Expr} {ifs : List Expr} {scope : Scope} {own : List (Str × Nat)} {pos : Pos} {w : DTI} {gt : DTG} {tt : DTT} {te : DTE} {ns : List Nat}
theorem si_low {w' : TI} {g' : TG} {tt' : TT} (ki : ∀ σ H e M R (RV : It → Hp → Prop), SRel g.X.K H e σ → MRel g.X.K M H → Fr g.M0 g.H0 M H → w e M R g.E →
      (∀ J src M1 H1, JRel g.X.K H1 J src → MRel g.X.K M1 H1 → Fr M H M1 H1 → R src M1 → RV J H1) → w' σ H RV)
    (kg : ∀ σ H e M v d Q (QV : L2.St → Hp → Prop), SRel g.X.K H e σ → MRel g.X.K M H → Is g.X.K H d v → gt d e M Q EF →
      (∀ σ' H' e' M', SRel g.X.K H' e' σ' → MRel g.X.K M' H' → Fr M H M' H' → (∀ vs, (∀ i ∈ ns, i ∈ vs) → L2.wipe σ' vs = L2.wipe σ vs) → Q e' M' → QV σ' H') → g' v σ H QV)
    (kt : ∀ σ H e M Q (QV : Bool → Hp → Prop), SRel g.X.K H e σ → MRel g.X.K M H → tt e M Q EF → (∀ b M' H', MRel g.X.K M' H' → Fr M H M' H' → Q b M' → QV b H') → tt' σ H QV)
    (hns : ∀ i ∈ ns, i ∈ own.map (·.2)) {σ : L2.St} {H : Hp} {e : Sl} {M : Mem} {Q : List Int → Mem → Prop} {QV : VK} (sl : SRel g.X.K H e σ) (mr : MRel g.X.K M H) (fr : Fr g.M0 g.H0 M H) (q : dScI w gt tt te (own.map (·.2)) e M Q g.E)
    (k : ∀ a ks n M' H', H' a = some (SetO g.X.w a (fun j => decide (j ∈ ks)) n) → n ≤ ks.length → M' a = none → H a = none → MRel g.X.K M' H' → Fr M H M' H' → Q ks M' → QV (.ref a) H') : tScI g.X.w w' g' tt' (lowAny g.X.K te) (own.map (·.2)) σ H QV := by
  refine ki σ H e M _ _ sl mr fr q fun J src M1 H1 jr m1 f1 q => ?_
  obtain ⟨I, h0, turn, last⟩ := q
  intro p hp
  have np1 : M1 p = none := m1.none_of hp
  have h0p : H p = none := f1.there p hp
  have fn := fr_new (o := SetO g.X.w p (fun _ => false) 0) m1 hp
  have e0 : (fun _ : Int => false) = fun j => decide (j ∈ ([] : List Int)) := by funext j; simp
  refine ⟨fun i n H' => i + n = src.items.length ∧ ∃ ks nn M', H' p = some (SetO g.X.w p (fun j => decide (j ∈ ks)) nn) ∧ nn ≤ ks.length ∧ M' p = none ∧ MRel g.X.K M' H' ∧ Fr M1 H1 M' H' ∧ I i ks M',
    ⟨src.items.length, by omega, [], 0, M1, by rw [upd_same, e0], Nat.le_refl _, np1, mr_new m1 hp, fn, h0⟩, fun i n H' hw => ?_⟩
  obtain ⟨hn, ks, nn, M', hp', hnn, np, m', f', hw⟩ := hw
  cases n with
  | zero =>
    obtain rfl : i = src.items.length := by omega
    obtain ⟨lv, q⟩ := last ks M' hw
    exact .inl ⟨(jr _ M' H' m' (f'.ext m1) lv).2 (Nat.le_refl _), k p ks nn M' H' hp' hnn np h0p m' (f1.trans f') q⟩
  | succ n =>
    have hi : i < src.items.length := by omega
    have hd := List.getElem?_eq_getElem hi
    obtain ⟨lv, q⟩ := turn i _ ks M' hd hw
    obtain ⟨go, yl⟩ := (jr i M' H' m' (f'.ext m1) lv).1 _ hd
    refine .inr ⟨go, fun H2 => ∃ ks nn M', H2 p = some (SetO g.X.w p (fun j => decide (j ∈ ks)) nn) ∧ nn ≤ ks.length ∧ M' p = none ∧ MRel g.X.K M' H2 ∧ Fr M1 H1 M' H2 ∧ I (i + 1) ks M', fun H2 z => ⟨n, by omega, by omega, z⟩, fun x H2 y => ?_⟩
    obtain ⟨ix, m2, f2⟩ := yl x H2 y
    refine kg (wipe σ (own.map (·.2))) H2 (wipeS e (own.map (·.2))) M' x _ _ _ ((sl.ext ((f1.trans (f'.trans f2)).ext mr)).wipe _) m2 ix q fun σ3 H3 e3 M3 sl3 m3 f3 hwp q => ?_
    refine ⟨(hwp _ hns).trans (wipe_wipe σ _), ?_⟩
    refine kt σ3 H3 e3 M3 _ _ sl3 m3 q fun b M4 H4 m4 f4 q => ?_
    have f24 := f2.trans (f3.trans f4)
    cases b with
    | false =>
      obtain ⟨p4, np4⟩ := f24.keep p _ hp' np
      exact ⟨ks, nn, M4, p4, hnn, np4, m4, f'.trans f24, q⟩
    | true =>
      refine lowAny_start (sl3.ext (f4.ext m3)) m4 q fun y dy M5 H5 i5 m5 f5 q => ?_
      have f25 := f24.trans f5
      obtain ⟨p5, np5⟩ := f25.keep p _ hp' np
      obtain ⟨hz, kk, rfl, q⟩ := q
      have hz' : ks.length < 4000 := hz
      have ey := is_int.mp i5
      have hb : 4000 + 1 < scanBound := by unfold scanBound; omega
      have es : (fun j => (fun j => decide (j ∈ ks)) j || decide (j = kk)) = fun j => decide (j ∈ ks ++ [kk]) := by
        funext j
        simp
      have hr : nn + 1 < scanBound := by omega
      refine ⟨kk, _, nn, ey, p5, hr, ks ++ [kk], if (fun j => decide (j ∈ ks)) kk = true then nn else nn + 1, M5, ?_, ?_, np5, mr_outI m5 p5 np5, fr_out (f'.trans f25) hp, q⟩
      · rw [upd_same, es]
      · have hl : (ks ++ [kk]).length = ks.length + 1 := by simp
        rw [hl]
        by_cases hq : (fun j => decide (j ∈ ks)) kk = true
        · rw [if_pos hq]; exact Nat.le_succ_of_le hnn
        · rw [if_neg hq]; exact Nat.succ_le_succ hnn
theorem de_srI {p pos2 : Pos} (hc : g.X.calm = true) (hN : g.X.N.Nodup) (hl : Gl g.X "sorted") (hm : g.X.mg "sorted" = none) (hi : DI g tg iter w) (ok : BlkOk g.X.N g.X.env.scope scope own) (hg : BlkG g scope tg gt ns) (ht : BlkT g scope ifs tt) (he : BlkE g scope elt te) (hns : ∀ i ∈ ns, i ∈ own.map (·.2))
    (hs : ∀ x, foldedSetIterable iter g.X.env x = pure x) : DE g (.Call (.Name "sorted" p) [.SetComp elt [⟨tg, iter, ifs, 0⟩] scope pos] [] pos2) (dSrI (dScI w gt tt te (own.map (·.2)))) := by
  obtain ⟨w', pi, ki⟩ := hi.pi
  obtain ⟨g', pg, kg⟩ := hg
  obtain ⟨t', pt, kt⟩ := ht
  refine DE.of (pe_srtI hc hl hm (pe_scI hc hN pi ok pg pt he.pe hs) rfl) fun σ H e M Q sl mr fr q => ?_
  refine si_low ki kg kt hns sl mr fr q fun a ks n M' H' h hn n1 n0 m f q => ?_
  obtain ⟨hz, q⟩ := q
  exact ⟨a, _, n, rfl, h, by omega, fun xs p hp hk hl hnp => fin_low.newL m f (isL_map (fun _ => ii_int) xs) (fun p hp' => q xs hp (fun k => by rw [hk k]; simp) p hp') p hnp⟩
end
section
variable {X : Cx} {pins : List (Addr × Obj)} {σ : L2.St} {H : Hp} {s : Shared} {a b : Addr} {r : Value} {d : V} {ks : List Key} {A : Around} {E : Value → Shared → Prop}
theorem d_setdT {kvs : List (List Key × V)} {Q : Value → Shared → Prop} (hu : A.units + 1 < cLine) (I : Inv X pins σ H s) (e : H a = some (.dT kvs)) (eb : H b = some (.tup (ks.map kV))) (rd : RelV d r) (hl : kvs.length < sizeLine)
    (h1 : ∀ v, valV kvs ks = some v → ∀ (w' : Value) (s' : Shared), Inv X pins σ H s' → RelV v w' → Q w' s') (h2 : valV kvs ks = none → ∀ (w' : Value) (s' : Shared), Inv X pins σ (upd H a (.dT (putK kvs ks d))) s' → RelV d w' → Q w' s') :
    wpAny (model X.prog X.w) A (call (.builtin "dict.setdefault") [.ref a, .ref b, r]) Q E s := by
  obtain ⟨z, hd, xs, rel, dd⟩ := dt_of I.hok e
  have hz : xs.length ≤ sizeLine := by rw [← Paired.length rel]; exact z
  have hl2 : (putK kvs ks d).length ≤ sizeLine := by have := length_putK kvs ks d; omega
  refine call_setdefault_heap (hsz := hz) (tupleKind_room_in1 hu) (key_of I.hok eb) hd dd (fun p hp => ?_) fun hn h' dd' hs => ?_
  · have q := rel.val ks
    rw [hp] at q
    cases q0 : valV kvs ks with
    | none => rw [q0] at q; exact (show False from q).elim
    | some v0 => rw [q0] at q; exact h1 v0 q0 _ _ (I.tok _) q
  · have q := rel.val ks
    rw [hn] at q
    cases q0 : valV kvs ks with
    | some v0 => rw [q0] at q; exact (show False from q).elim
    | none =>
      obtain ⟨q, es, ep, hq, g2, g3, g4, _, g5⟩ := dd'
      refine h2 q0 _ _ (d_write (t' := s.toks + (tupleKind (mixKind X.prog X.w)).draws ks) I (by rw [e]; exact True.intro) hs ⟨q, hq⟩ ⟨hl2, hd, _, (rel.put ks eb rd).keeps fun c ys ec => ?_, q, es, ep, hq, g2, g3, g4, g5⟩) rd
      rw [upd_ne (ne_of ec e (fun z => nomatch z))]
      exact ec
end
section
variable {X : Cx}
theorem mt_setdT (hu : X.A.units + 1 < cLine) : MtR X "dict.setdefault" (fun x xs H Q => ∃ (a b : Addr) (kvs : List (List Key × V)) (ks : List Key) (z : V), x = .ref a ∧ xs = [.ref b, z] ∧ H a = some (.dT kvs) ∧ H b = some (.tup (ks.map kV)) ∧ kvs.length < sizeLine ∧ (∀ v, valV kvs ks = some v → Q v H) ∧ (valV kvs ks = none → Q z (upd H a (.dT (putK kvs ks z))))) := by
  intro pins s σ H x xs v us Q I rx r q
  obtain ⟨a, b, kvs, k, z, rfl, rfl, e, eb, hl, q1, q2⟩ := q
  cases rx
  obtain ⟨u, u2, rfl, ry, rz⟩ := vals2 r
  cases ry
  exact d_setdT hu I e eb rz hl (fun v hv w' s' I' rw' => ⟨_, H, I', rw', q1 v hv⟩) fun hn w' s' I' rw' => ⟨_, _, I', rw', q2 hn⟩
def mSetdT : RmD := fun x ds M Q => match x with
  | .ref a => (match ds with
    | [.tup y, z] => ∃ kvs k, M a = some (.dT kvs) ∧ keysD y = some k ∧ kvs.length < sizeLine ∧ (match valG kvs k with | some d => Q d M | none => Q z (wr M a (.dT (putG kvs k z))))
    | _ => False)
  | _ => False
theorem md_setdT (hu : X.A.units + 1 < cLine) : MtD X "dict" "setdefault" "dict.setdefault" mSetdT := by
  refine ⟨PySem.F.plainAttrs_dict, PySem.F.slot_dict_setdefault, PySem.F.type_dict_setdefault, _, mt_setdT hu, fun M H Mo Ho x a vs ds Q QV m f i l fin q => ?_⟩
  cases a with
  | ref p =>
    rw [is_ref] at i
    subst i
    match ds, q with
    | [.tup y, z], q =>
      obtain ⟨kvs, k, h, hk, hl, q⟩ := q
      obtain ⟨v, v2, rfl, iy, iz⟩ := isL_two l
      obtain ⟨b, rfl, hb⟩ := keyTup m iy hk
      obtain ⟨ws, e, r⟩ := m p _ h
      have r : KRel X.K H kvs ws := r
      refine ⟨p, b, ws, k, v2, rfl, rfl, e, hb, by rw [KRel.length r]; exact hl, fun v hv => ?_, fun hn => ?_⟩
      · cases hg : valG kvs k with
        | none => rw [KRel.none r hg] at hv; cases hv
        | some d =>
          obtain ⟨w, e1, e2⟩ := KRel.some r hg
          rw [hv] at e1
          cases e1
          rw [hg] at q
          exact fin _ _ _ _ e2 m f q
      · cases hg : valG kvs k with
        | some d =>
          obtain ⟨w, e1, e2⟩ := KRel.some r hg
          rw [hn] at e1
          cases e1
        | none =>
          rw [hg] at q
          have ex := ext_write m h (o := HO.dT (putK ws k v2))
          have r' : KRel X.K (upd H p (HO.dT (putK ws k v2))) kvs ws := ⟨r.1, IsL.ext ex _ _ r.2⟩
          obtain ⟨m2, f2⟩ := set_mem m f h (u' := .dT (putG kvs k z)) (o := HO.dT (putK ws k v2)) ⟨_, upd_same, KRel.put (Is.ext ex _ _ iz) r'⟩
          exact fin _ _ _ _ (Is.ext ex _ _ iz) m2 f2 q
  | _ => exact q.elim
def mIndex : RmD := fun x ds M Q => match x with
  | .ref a => (match ds with
    | [.int k] => ∃ (is : List Int) (j : Nat), M a = some (.lst (is.map D.int)) ∧ is[j]? = some k ∧ (∀ m, m < j → is[m]? ≠ some k) ∧ Q (.int j) M
    | _ => False)
  | _ => False
theorem md_index : MtD X "list" "index" "list.index" mIndex := by
  refine ⟨PySem.F.plainAttrs_list, PySem.F.slot_list_index, PySem.F.type_list_index, _, mt_index, fun M H Mo Ho x a vs ds Q QV m f i l fin q => ?_⟩
  cases a with
  | ref p =>
    rw [is_ref] at i
    subst i
    match ds, q with
    | [.int k], q =>
      obtain ⟨is, j, h, hj, hno, q⟩ := q
      obtain ⟨v, rfl, iy⟩ := isL_one l
      rw [is_int] at iy
      subst iy
      obtain ⟨ws, e, l1⟩ := m p _ h
      obtain rfl := isL_ints l1
      refine ⟨p, is.map V.int, .int k, j, .int k, rfl, rfl, ?_, by rfl, ?_, by rw [List.getElem?_map, hj]; rfl, ?_, fun m' z' hm hz => ?_, fin _ _ _ _ ii_int m f q⟩
      · exact SqL.of e
      · simp [List.all_map, flatV]
      · simp [eqV]
      · rw [List.getElem?_map] at hz
        obtain ⟨w, hw, rfl⟩ := Option.map_eq_some_iff.mp hz
        have ne : w ≠ k := fun z => hno m' hm (by rw [hw, z])
        simp [eqV, ne]
  | _ => exact q.elim
end
end DL

namespace DL
open PySem PySem.Spec PyProof.Rows L2
section
variable {prog : Program} {w : World} {A : Around} {E : Value → Shared → Prop} {s : Shared}
theorem setR_eq {h : Heap} {a : Addr} {S S' : Int → Bool} {m m' : Nat} (q : SetR w h a S m) (e : ∀ k, S k = S' k) (en : m = m') : SetR w h a S' m' := by
  obtain rfl : S = S' := funext e
  subst en
  exact q
theorem int_of_kind {k : Int} {v : Value} (h : (intKind prog w).is k v = true) : ∃ tk, v = .int k tk := by
  cases v with
  | int j tk => exact ⟨tk, by rw [show j = k from beq_iff_eq.mp h]⟩
  | _ => exact absurd h (by intro z; cases z)
end
section
variable {prog : Program} {w : World} {A : Around} {R : Result → Shared → Prop} {it : Addr} {fp wr : List Addr} {G : Array GenState → Array GenState → Prop} {n : Nat} {P : Nat → Value → Prop} {St : Nat → Shared → Prop}
theorem loopInt (W : WalksS prog w A.in1 it fp wr G n P St) (D : Addr) (hDf : D ∉ fp) (xs : List Int) (hn : xs.length = n) (hb : n + 1 < scanBound)
    (hval : ∀ i v, P i v → ∃ k, xs[i]? = some k ∧ (intKind prog w).is k v = true ∧ v.scannable = true) :
    ∀ (m i : Nat) (s : Shared), n - i = m → i ≤ n → St i s → SetR w s.heap D (fun y => memB y (ddup (xs.take i))) (ddup (xs.take i)).length →
      (∀ s', Moved (D :: wr) G s s' → SetR w s'.heap D (fun y => memB y (ddup xs)) (ddup xs).length → R (.ok (.ret .none)) s') →
      codeAny (model prog w) A (.builtin "set.update.loop" ⟨[.ref D, .ref it], []⟩) R s := by
  have nDw : D ∉ wr := fun h => hDf (W.sub _ h)
  have wsub : ∀ b ∈ wr, b ∈ D :: wr := fun b h => List.mem_cons_of_mem _ h
  intro m
  induction m with
  | zero =>
    intro i s hm hi st hS fin
    obtain rfl : i = n := by omega
    rw [← hn, List.take_length] at hS
    refine codeAny_builtin PyProof.Rows.F.entry_set_update_loop ?_
    rw [Around.under_plainId PyProof.Rows.F.plain_set_update_loop _]
    show wpAny _ A.in1 (pyNext (.ref it) >>= _) _ _ s
    refine wpAny_bind (W.done s _ _ st fun s' mv => ?_)
    show wpAny _ A.in1 (ret Value.none) _ _ s'
    refine wpAny_pure (fin s' (mv.mono wsub) ?_)
    obtain ⟨o, es, ep, tb, ho, q⟩ := hS
    exact ⟨o, es, ep, tb, mv.heap D _ nDw ho, q⟩
  | succ m ih =>
    intro i s hm hi st hS fin
    have lt : i < n := by omega
    refine codeAny_builtin PyProof.Rows.F.entry_set_update_loop ?_
    rw [Around.under_plainId PyProof.Rows.F.plain_set_update_loop _]
    show wpAny _ A.in1 (pyNext (.ref it) >>= _) _ _ s
    refine wpAny_bind (W.item i s _ _ lt st fun v s' hP st' mv => ?_)
    obtain ⟨k, hk, kis, sc⟩ := hval i v hP
    have hS' : SetR w s'.heap D (fun y => memB y (ddup (xs.take i))) (ddup (xs.take i)).length := by
      obtain ⟨o, es, ep, tb, ho, q⟩ := hS
      exact ⟨o, es, ep, tb, mv.heap D _ nDw ho, q⟩
    show wpAny _ A.in1 (holding [v] (setAdd D v) >>= _) _ _ s'
    refine wpAny_bind (wpAny_holding ?_)
    unfold setAdd
    refine wpAny_holding ?_
    refine wpAny_bind ((intKind prog w).pyHash (k := k) kis ?_)
    have room : (ddup (xs.take i)).length + 1 < scanBound := by
      have := ddup_le (xs.take i)
      rw [List.length_take] at this
      omega
    obtain ⟨tk, rfl⟩ := int_of_kind kis
    refine setR_add_hashed (s := { s' with toks := s'.toks + 1 }) hS' room fun h' same hS2 => ?_
    have e1 : ddup (xs.take (i + 1)) = dstep (ddup (xs.take i)) k := by
      rw [List.take_add_one, hk]
      exact ddup_snoc _ _
    have hS3 : SetR w h' D (fun y => memB y (ddup (xs.take (i + 1)))) (ddup (xs.take (i + 1))).length := by
      refine setR_eq hS2 (fun y => ?_) ?_
      · rw [e1, Bool.eq_iff_iff]
        rw [Bool.or_eq_true, memB_iff, memB_iff, decide_eq_true_eq]
        exact mem_dstep.symm
      · rw [e1]
        unfold dstep
        by_cases hc : k ∈ ddup (xs.take i)
        · rw [if_pos hc, if_pos (memB_iff.mpr hc)]
        · rw [if_neg hc, if_neg (fun z => hc (memB_iff.mp z)), List.length_append, List.length_singleton]
    refine wpAny_pure ⟨plainId_quiet PyProof.Rows.F.plain_set_update_loop _, ih (i + 1) _ (by omega) lt (W.frame _ s' _ _ st' (Nat.le_succ _) fun b hbf o e => ?_) hS3 fun s2 mv2 hSS => ?_⟩
    · rw [same.2 b (fun z : b = D => hDf (z ▸ hbf))]; exact e
    · refine fin s2 (Moved.trans W.gtrans ((mv.mono wsub).then_heap (Nat.le_succ _) fun b o hbf e => ?_) mv2) hSS
      rw [same.2 b (fun z : b = D => hbf (z ▸ List.mem_cons_self))]; exact e
end
section
variable {prog : Program} {w : World} {A : Around} {E : Value → Shared → Prop} {s : Shared}
theorem set_of_ints {l : Addr} {its : Array Value} {xs : List Int} {Q : Value → Shared → Prop} (hA : A.handled = none) (hl : s.heap.IsList l its) (hi : KeysAre (intKind prog w) its.toList xs) (hb : xs.length + 1 < scanBound)
    (h : ∀ (h' : Heap) (tk : Nat), SetR w h' s.heap.objs.size (fun y => memB y (ddup xs)) (ddup xs).length → (∀ b o, b < s.heap.objs.size → s.heap.get? b = some o → h'.get? b = some o) → Q (.ref s.heap.objs.size) { s with heap := h', toks := tk }) :
    wpAny (model prog w) A (call (.type "set") [.ref l]) Q E s := by
  obtain ⟨cc, tl, hmro⟩ := PySem.F.called_set.mro
  have hmade := PySem.F.called_set.made
  have hsub := PySem.F.called_set.sub
  refine wpAny_call (codeAny_of_tree ?_)
  show wpAny _ _ (callAny (.type "set") _) _ _ _
  refine wpAny_pure ⟨Code.quiet_builtin _ (by decide +kernel), codeAny_builtin PySem.F.entry_type_call ?_⟩
  rw [Around.under_plain (weight_type_call_type "set" [.ref l] []) rfl]
  have q1 := PySem.F.called_set.notType
  have q2 := PySem.F.called_set.canCreate
  have q3 := PySem.F.typeCall_set_1 (.ref l)
  repeat (any_goals (first | assumption | wp_step))
  refine codeAny_mono (code_set_led1 (.ref l) (E := E) (Q₁ := fun obj z => obj = .ref s.heap.objs.size ∧ z = { s with heap := s.heap.push (setO (!w.params.followText "set-order")) }) ⟨rfl, rfl⟩) fun r z hr => ?_
  cases r with
  | error e => exact hr
  | ok fl =>
    cases fl with
    | ret obj =>
      obtain ⟨rfl, rfl⟩ := hr
      generalize hled : (!w.params.followText "set-order") = led
      have hS : (s.heap.push (setO led)).get? s.heap.objs.size = some (setO led) := Heap.get?_push_size _ rfl
      have hT : Shared.TypeIs { s with heap := s.heap.push (setO led) } (.ref s.heap.objs.size) "set" := ⟨_, hS, rfl⟩
      have q4 := PySem.F.called_set.init.lookup
      have q5 := PySem.F.called_set.init.bind (.ref s.heap.objs.size)
      repeat (any_goals (first | assumption | wp_step))
      refine codeAny_mono (codeAny_call_builtin (R := wants (fun r z => r = .none ∧ ∃ h' tk, z = { s with heap := h', toks := tk } ∧ SetR w h' s.heap.objs.size (fun y => memB y (ddup xs)) (ddup xs).length ∧ (∀ b o, b < s.heap.objs.size → s.heap.get? b = some o → h'.get? b = some o)) E)
        PySem.F.called_set.init.plain PySem.F.entry_set_init (check_set_init_1 hT ?_)) fun r2 z hr2 => ?_
      · obtain ⟨ol, hol, hcl, nl, hdl⟩ := hl
        obtain ⟨ocls, odict, odata, oslots⟩ := ol
        simp only at hcl hdl
        subst hcl; subst hdl
        have hol' : (s.heap.push (setO led)).get? l = some { cls := .type "list", dict := odict, data := .seq its nl, slots := oslots } := Heap.get?_push_of_some _ hol
        have q6 := PySem.F.sub_list_set
        have q7 := PySem.F.sub_list_frozenset
        have q8 : (Value.type "list" == Value.type "dict") = false := by decide
        have hl1 : (s.heap.push (setO led)).IsList l its := ⟨_, hol', rfl, nl, rfl⟩
        unfold Builtin.«set.__init__» noKeywords Builtin.Frozenset.updateFrom
        generalize hPI : pyIter = PI
        wp_walk
        subst hPI
        refine wpAny_pyIter_list hl1 ?_
        refine wpAny_bind (wpAny_runValue ?_)
        have lS : l < s.heap.objs.size := Heap.lt_size hol
        have hA3 : A.in1.in1.in1.handled = none := by simp [hA]
        have sz : (s.heap.push (setO led)).objs.size = s.heap.objs.size + 1 := Heap.size_push _ _
        have neI : l ≠ (s.heap.push (setO led)).objs.size := by rw [sz]; exact Nat.ne_of_lt (Nat.lt_succ_of_lt lS)
        have nDf : s.heap.objs.size ∉ [(s.heap.push (setO led)).objs.size, l] := by
          rw [sz]
          simp only [List.mem_cons, List.not_mem_nil, or_false, not_or]
          exact ⟨Nat.ne_of_lt (Nat.lt_succ_self _), Nat.ne_of_gt lS⟩
        refine loopInt ((Walks.list hA3 _ l neI its).toS) s.heap.objs.size nDf xs (by rw [← hi.1, Array.length_toList]) (by rw [← Array.length_toList, hi.1]; exact hb)
          (fun i v hv => hi.2 i v (by rw [Array.getElem?_toList]; exact hv)) (its.size - 0) 0 _ (by omega) (Nat.zero_le _) ⟨⟨_, Heap.get?_push_size _ rfl, rfl, rfl⟩, (hl1.push _)⟩ ?c0 ?cR
        case c0 =>
          have hg : ((s.heap.push (setO led)).push { cls := .type "list_iterator", data := .fields #[.ref l, .int 0 0] }).get? s.heap.objs.size = some (setO led) := Heap.get?_push_of_some _ hS
          have hf0 := setR_fresh (h := s.heap) w
          rw [hled] at hf0
          exact setR_eq (hf0.at fun o e => Heap.get?_push_of_some _ e) (fun _ => rfl) rfl
        case cR =>
          intro z mv hSS
          obtain ⟨h', g', d', tk', os'⟩ := z
          obtain rfl : g' = s.gens := mv.gens
          obtain rfl : d' = s.drawn := mv.drawn
          obtain rfl : os' = s.os := mv.os
          show wpAny _ _ _ _ _ _
          refine wpAny_pure ?_
          show wpAny _ _ (ret Value.none) _ _ _
          refine wpAny_pure ⟨rfl, h', tk', rfl, hSS, fun b o hbl e => mv.heap b o ?_ (Heap.get?_push_of_some _ (Heap.get?_push_of_some _ e))⟩
          rw [sz]
          simp only [List.mem_cons, List.not_mem_nil, or_false, not_or]
          exact ⟨Nat.ne_of_lt hbl, Nat.ne_of_lt (Nat.lt_succ_of_lt hbl)⟩
      · cases r2 with
        | error e => exact hr2
        | ok fl2 =>
          cases fl2 with
          | ret r =>
            obtain ⟨rfl, h', tk, rfl, hSS, hk⟩ := hr2
            repeat (any_goals (first | assumption | wp_step))
            exact h _ _ hSS hk
          | _ => exact hr2.elim
    | _ => exact hr.elim
end
section
variable {X : Cx}
def tSrtS (K : PySem.W.Frag) (ta : TE) : TE := fun σ H Q => ta σ H fun x H1 => ∃ (l : Addr) (ks : List Int), x = V.ref l ∧ SqL K H1 l (ks.map V.int) ∧ ks.length < 64 ∧
  ∀ (ns : List Int) (p : Addr), ns.Pairwise (· < ·) → (∀ k : Int, k ∈ ns ↔ k ∈ ks) → H1 p = none → Q (.ref p) (upd H1 p (.lst (ns.map V.int)))
theorem intsAre_of {P : Program} {w : World} : ∀ {ks : List Int} {us : List Value}, Vals (ks.map V.int) us → KeysAre (intKind P w) us ks := by
  intro ks us r
  refine ⟨by rw [← r.length, List.length_map], ?_⟩
  induction ks generalizing us with
  | nil => rw [List.map_nil] at r; cases r; intro i v e; simp at e
  | cons k ks ih =>
    rw [List.map_cons] at r
    cases r with
    | cons h t =>
      intro i v e
      cases i with
      | zero =>
        simp at e; subst e
        obtain ⟨tk, rfl⟩ := h
        exact ⟨k, rfl, intKind_is P w k tk, rfl⟩
      | succ i => rw [List.getElem?_cons_succ] at e; exact ih t i v e
theorem pe_srtS {a : Expr} {ta : TE} {p p2 q pos : Pos} (hc : X.calm = true) (hg : Gl X "sorted") (hm : X.mg "sorted" = none) (hg2 : Gl X "set") (hm2 : X.mg "set" = none) (ha : PE X a ta) (na : isStar a = false) :
    PE X (.Call (.Name "sorted" p) [.Call (.Name "set" p2) [a] [] q] [] pos) (tSrtS X.K ta) := by
  refine ⟨fun pins s σ H Q I h => ?_⟩
  refine Call_ (ld_blt I hg hm (by rfl) ?_)
  refine PyProof.Rows.callWith_builtin1 (PyProof.Rows.args_cons ?_ rfl) rfl rfl
  refine Call_ (ld_blt I hg2 hm2 boot_set ?_)
  refine PyProof.Rows.callWith_type1 (PyProof.Rows.args_cons (thn (ha.run pins s σ H _ I h) fun v s1 ⟨x, H1, I1, r1, q1⟩ => PyProof.Rows.args_nil ?_) (star_cons na)) (star_cons na) rfl
  obtain ⟨l, ks, rfl, hq, h1, q1⟩ := q1
  cases r1
  obtain ⟨its, r, pl, hz⟩ := I1.list hq
  have h2 : ks.length + 1 < scanBound := by unfold scanBound; omega
  refine set_of_ints (I1.ok.hd hc) pl.isList (by simpa using intsAre_of r) h2 fun h' tk hS hk => ?_
  refine PyProof.Rows.args_nil ?_
  have I2 : Inv X pins σ H1 { s1 with heap := h', toks := tk } := I1.kept fun b o e => hk b o (Heap.lt_size e) e
  generalize hs2 : ({ s1 with heap := h', toks := tk } : Shared) = s2 at I2 ⊢
  have hS : SetR X.w s2.heap s1.heap.objs.size (fun y => memB y (ddup ks)) (ddup ks).length := by rw [← hs2]; exact hS
  have hle := ddup_le ks
  refine sorted_set hS (I2.ok.hd hc) (by omega) fun s' p out c ns k g o hp hg hi hs hm hl => ?_
  have hlen : (ns.map V.int).length ≤ sizeLine := by rw [List.length_map, hl, sizeLine_eq]; omega
  have hn : H1 p = none := I2.hok.fresh hp
  have J : Inv X pins σ (upd H1 p (.lst (ns.map V.int))) { s2 with heap := s'.heap, gens := s'.gens, drawn := s'.drawn, toks := s'.toks } :=
    I2.call (ch := []) (Un.laid k hp hn) (I2.hok.laid k hp ⟨hlen, out.toList, c, vals_of_ints hi, hg⟩) (by rw [g]; exact I2.bare) (fun _ z => nomatch z)
  have e : s' = { s2 with heap := s'.heap, gens := s'.gens, drawn := s'.drawn, toks := s'.toks } := by
    cases s'
    cases s2
    cases o
    rfl
  rw [e]
  exact ⟨.ref p, _, J, rfl, q1 ns p hs (fun k => by rw [hm, memB_iff, mem_ddup]) hn⟩
end
def dSrtS (t : DTE) : DTE := fun e M Q E => t e M (fun x M1 => match x with
  | .rl xs => ∃ ks : List Int, xs = ks.map D.int ∧ ks.length < 64 ∧ ∀ ns : List Int, ns.Pairwise (· < ·) → (∀ k, k ∈ ns ↔ k ∈ ks) → ∀ p, M1 p = none → Q (.ref p) (wr M1 p (.lst (ns.map D.int)))
  | _ => False) E
theorem de_srtS {g : Gd} {a : Expr} {ta : DTE} {p p2 q pos : Pos} (hc : g.X.calm = true) (hg : Gl g.X "sorted") (hm : g.X.mg "sorted" = none) (hg2 : Gl g.X "set") (hm2 : g.X.mg "set" = none) (ha : DE g a ta) (na : isStar a = false) :
    DE g (.Call (.Name "sorted" p) [.Call (.Name "set" p2) [a] [] q] [] pos) (dSrtS ta) := by
  refine DE.of (pe_srtS hc hg hm hg2 hm2 ha.pe na) fun σ H e M Q sl mr fr q => ?_
  refine low_start sl mr fr q fun v d M1 H1 i m f q => ?_
  cases d with
  | rl xs =>
    rw [is_rl] at i
    obtain ⟨a, vs, rfl, h, l⟩ := i
    obtain ⟨ks, rfl, hl, q⟩ := q
    obtain rfl := isL_ints l
    exact ⟨a, ks, rfl, h.sq, hl, fun ns p hp hk hnp => fin_low.newL m f (isL_map (fun _ => ii_int) ns) (fun p hp' => q ns hp hk p hp') p hnp⟩
  | _ => exact q.elim
section
variable {g : Gd} {a : Expr} {ta : DTE} {p p2 q pos : Pos}
def dLsR (t : DTE) : DTE := fun e M Q E => t e M (fun x M1 => match x with
  | .int n => (0 ≤ n ∧ n ≤ 16777216) ∧ ∀ p, M1 p = none → Q (.ref p) (wr M1 p (.lst (rng 0 n.toNat)))
  | _ => False) E
def dTpR (t : DTE) : DTE := fun e M Q E => t e M (fun x M1 => match x with
  | .int n => (0 ≤ n ∧ n ≤ 16777216) ∧ Q (.tup (rng 0 n.toNat)) M1
  | _ => False) E
theorem rg_isL {K : PySem.W.Frag} {H : Hp} {n : Int} : IsL K H (rng 0 n.toNat) (rgV 0 n) := by
  unfold rng rgV
  rw [show n - 0 = n by omega]
  exact isL_map (f := fun i : Nat => D.int (0 + (i : Nat))) (h := fun i : Nat => V.int (0 + (i : Nat))) (fun _ => ii_int) _
theorem de_lsR (hc : g.X.calm = true) (hg : Gl g.X "list") (hm : g.X.mg "list" = none) (hg2 : Gl g.X "range") (hm2 : g.X.mg "range" = none) (ha : DE g a ta) (na : isStar a = false) :
    DE g (.Call (.Name "list" p) [.Call (.Name "range" p2) [a] [] q] [] pos) (dLsR ta) := by
  refine DE.of (pe_listRg hc hg hm (prg_1 hg2 hm2 ha.pe (star_cons na))) fun σ H e M Q sl mr fr q => ?_
  refine low_start sl mr fr q fun v d M1 H1 i m f q => ?_
  cases d with
  | int n =>
    rw [is_int] at i
    subst i
    obtain ⟨⟨h0, h1⟩, q⟩ := q
    exact ⟨n, rfl, RgOk.of_le (by omega) h1 (by omega) h0, fun p hp => fin_low.newL m f rg_isL q p hp⟩
  | _ => exact q.elim
theorem de_tpR (hc : g.X.calm = true) (hg : Gl g.X "tuple") (hm : g.X.mg "tuple" = none) (hg2 : Gl g.X "range") (hm2 : g.X.mg "range" = none) (ha : DE g a ta) (na : isStar a = false) :
    DE g (.Call (.Name "tuple" p) [.Call (.Name "range" p2) [a] [] q] [] pos) (dTpR ta) := by
  refine DE.of (pe_tupRg hc hg hm (prg_1 hg2 hm2 ha.pe (star_cons na))) fun σ H e M Q sl mr fr q => ?_
  refine low_start sl mr fr q fun v d M1 H1 i m f q => ?_
  cases d with
  | int n =>
    rw [is_int] at i
    subst i
    obtain ⟨⟨h0, h1⟩, q⟩ := q
    exact ⟨n, rfl, RgOk.of_le (by omega) h1 (by omega) h0, fun p hp => fin_low.newT m f rg_isL q p hp⟩
  | _ => exact q.elim
end
end DL

namespace DL
open PySem PySem.Spec PyProof.Rows L2
def Gd.at_ (g : Gd) (A : Around) : Gd := { g with X := { g.X with A := A } }
section
variable {g : Gd} {k : Nat} {A' : Around} {pins : List (Addr × Obj)} {σ : L2.St} {H : Hp} {s : Shared} {e : Sl} {M : Mem} {Q : QE}
theorem inv_at {X : Cx} {A' : Around} {pins : List (Addr × Obj)} {σ : L2.St} {H : Hp} {s : Shared} (I : Inv X pins σ H s) (h1 : A'.handled = X.A.handled) (h2 : A'.frames = X.A.frames) : Inv { X with A := A' } pins σ H s := by
  obtain ⟨ok, os, bare, base, loc, cell, free, freeC, pin, hok, len⟩ := I
  obtain ⟨a1, a2, a3, a4, a5, a6, a7, a8, a9, a10, a11, a12, a13, a14, a15, a16, a17, a18⟩ := ok
  exact ⟨⟨a1, a2, a3, a4, a5, a6, a7, a8, fun z => h1.trans (a9 z), h2.trans a10, a11, a12, a13, a14, a15, a16, a17, a18⟩, os, bare, base, loc, cell, free, freeC, pin, hok, len⟩
theorem SI.at_ (I : SI g pins σ H s e M) (h1 : A'.handled = g.X.A.handled) (h2 : A'.frames = g.X.A.frames) : SI (g.at_ A') pins σ H s e M := ⟨inv_at I.inv h1 h2, I.sl, I.mr, I.fr⟩
theorem takes_at {W : WX} (t : Takes g.X W) (h1 : A'.handled = g.X.A.handled) (h2 : A'.frames = g.X.A.frames) : Takes (g.at_ A').X W := fun u s' ⟨a, B, sI, pins, σ, H, cls, d, e, I, nb, up, sky, na, os, ag, w⟩ =>
  t u s' ⟨a, B, sI, pins, σ, H, cls, d, e, by have := inv_at (A' := g.X.A) I h1.symm h2.symm; exact this, nb, up, sky, na, os, ag, w⟩
theorem SI.un (h1 : A'.handled = g.X.A.handled) (h2 : A'.frames = g.X.A.frames) (I : SI (g.at_ A') pins σ H s e M) : SI g pins σ H s e M := by
  have := I.at_ (A' := g.X.A) (g := g.at_ A') h1.symm h2.symm
  exact this
theorem call_at {fv : Value} {n : Nat} {sp : DSp} {us : List Value} {vs : List V} {ds : List D} (hr : Room k A') (hg : A'.guards = some []) (h1 : A'.handled = g.X.A.handled) (h2 : A'.frames = g.X.A.frames) (G : Gok g k) (hc : CallOk g.X.prog g.X.w g.X.K g.X.mg g.X.base k fv n [] sp) (I : SI g pins σ H s e M)
    (r : Vals vs us) (il : IsL g.X.K H ds vs) (hn : ds.length = n) (q : sp ds M Q g.E) : wpAny (model g.X.prog g.X.w) A' (call fv us) (DEP g pins σ e M H Q) g.X.xe s := by
  have z := hc (g.at_ A') rfl rfl rfl rfl rfl ⟨hr, hg, takes_at G.tk h1 h2⟩ pins σ H s e M us [] vs [] ds [] Q (I.at_ h1 h2) r .nil il (isL_nil.mpr rfl) hn rfl (by rw [List.append_nil]; exact q)
  refine thn z fun u s' z => ?_
  obtain ⟨v, d, H', M', r', i, J, f, q⟩ := z
  exact ⟨v, d, H', M', r', i, J.un h1 h2, f, q⟩
end
def isOwn (C : Addr) (x : D) (M : Mem) : Prop := match x with | .ref a => ∃ fs, M a = some (.ins C fs) | _ => False
def bltTys : List String := ["NoneType", "bool", "int", "str", "tuple", "list", "dict"]
def othO (C : Addr) (y : D) (M : Mem) : Prop := isOwn C y M ∨ ∃ T, T ∈ bltTys ∧ hasTy M y T
def isTyV : Value → Bool
  | .type _ => true
  | _ => false
theorem sub_blt {K : PySem.W.Frag} {C : Addr} {T : String} (h : T ∈ bltTys) : PySem.W.subIn K (.type T) (.ref C) = some false := by
  have key : ∀ T ∈ bltTys, (fastBuiltinMro T).map (fun l => l.all isTyV) = some true := by decide +kernel
  have e := key T h
  show (fastBuiltinMro T).map (·.contains (.ref C)) = some false
  cases hl : fastBuiltinMro T with
  | none => rw [hl] at e; cases e
  | some l =>
    rw [hl] at e
    replace e : l.all isTyV = true := Option.some.inj e
    show some (l.contains (.ref C)) = some false
    congr 1
    clear hl
    induction l with
    | nil => rfl
    | cons v l ih =>
      rw [List.all_cons, Bool.and_eq_true] at e
      rw [List.contains_cons, ih e.2, Bool.or_false]
      cases v with
      | type n => exact beq_eq_false_iff_ne.mpr fun z => nomatch z
      | _ => cases e.1
section
variable {X : Cx} {pins : List (Addr × Obj)} {σ : L2.St} {H : Hp} {s : Shared} {M : Mem} {C : Addr}
theorem tyX_blt (m : MRel X.K M H) {d : D} {v : V} {T : String} (i : Is X.K H d v) (h : hasTy M d T) (hT : T ∈ bltTys) : TyX X.K H v (.type T) := by
  have e0 : T ≠ "#ins" := fun z => by subst z; exact absurd hT (by decide)
  cases d with
  | non => rw [is_non] at i; subst i; cases (Option.some.inj h); exact .base .non
  | bl b => rw [is_bl] at i; subst i; cases (Option.some.inj h); exact .base (.bl b)
  | int b => rw [is_int] at i; subst i; cases (Option.some.inj h); exact .base (.int b)
  | str b => rw [is_str] at i; subst i; cases (Option.some.inj h); exact .base (.str b)
  | tup xs => rw [is_tup] at i; obtain ⟨a, vs, rfl, e, l⟩ := i; cases (Option.some.inj h); exact .base (.tup e)
  | rl xs =>
    rw [is_rl] at i
    obtain ⟨a, vs, rfl, e, l⟩ := i
    cases (Option.some.inj h)
    rcases e with ⟨o, e⟩ | ⟨o, its, n, e, c, _⟩
    · exact .base (.frz e)
    · exact .kList e c
  | tx xs => rw [is_tx] at i; obtain ⟨a, vs, rfl, ⟨o, e, _⟩, l⟩ := i; cases (Option.some.inj h); exact .fTuple e
  | rk ks xs => rw [is_rk] at i; obtain ⟨a, ws, rfl, ⟨o, e⟩, _, l⟩ := i; cases (Option.some.inj h); exact .fDict e
  | ref a =>
    rw [is_ref] at i
    subst i
    rcases h with ⟨rfl, xs, h⟩ | ⟨rfl, kvs, h⟩ | ⟨rfl, C, fs, h⟩
    · obtain ⟨ws, e, _⟩ := m a _ h; exact .base (.lst e)
    · obtain ⟨ws, e, _⟩ := m a _ h; exact .base (.dK e)
    · exact absurd rfl e0
  | ty n => cases h
theorem oth_low (I : Inv X pins σ H s) (m : MRel X.K M H) {d : D} {v : V} {u : Value} (i : Is X.K H d v) (r : RelV v u) (h : othO C d M) : ∃ t, PySem.W.Looks (model X.prog X.w) s.heap (typeOf u) t ∧ PySem.W.notFirst X.K C t = true := by
  rcases h with h | ⟨T, hT, h⟩
  · cases d with
    | ref a =>
      obtain ⟨fs, h⟩ := h
      rw [is_ref] at i
      subst i
      cases (show u = Value.ref a from r)
      obtain ⟨dx, ws, e, _⟩ := m a _ h
      obtain ⟨mA, J, _⟩ := ins_get I.hok e
      obtain ⟨od, J, _⟩ := J.look
      exact ⟨_, J.type, by simp [PySem.W.notFirst]⟩
    | _ => exact h.elim
  · have ty := tyX_blt m i h hT
    obtain ⟨P, Z, p, hx⟩ := kit_of I r ty
    refine ⟨_, Z.ty _ _ I.kIn p, ?_⟩
    unfold PySem.W.notFirst
    rw [sub_blt hT]
    simp
theorem own_inst (I : Inv X pins σ H s) (m : MRel X.K M H) {a : Addr} {fs : List (Str × D)} (h : M a = some (.ins C fs)) : ∃ o od, PySem.W.InstAt s.heap a o C od ∧ InsT X.K C := by
  obtain ⟨dx, ws, e, _, _, it⟩ := m a _ h
  obtain ⟨mA, J, _⟩ := ins_get I.hok e
  obtain ⟨od, J, _⟩ := J.look
  exact ⟨_, _, J, it⟩
end
section
variable {prog : Program} {w : World} {A : Around} {E : Value → Shared → Prop} {s : Shared} {K : PySem.W.Frag} {x C f L : Addr} {ox : Obj} {od : Option Obj} {h₀ : Heap} {mm : Str → Option Value}
theorem entry_ne {b : Value} {Q : PySem.Fin → Shared → Prop} (hu : A.units < cLine) (X : K.In s.heap) (I : PySem.W.InstAt s.heap x ox C od) (hs : PySem.W.findIn K (.ref C) "__eq__" = some (some (.ref f))) (hf : PySem.W.isFn K (.ref f) = true)
    (h : wpAny (model prog w) A (call (.ref f) [.ref x, b]) (fun v s' => ∃ r, v = .bool r ∧ Q (.done (.ret (.bool (!r)))) s') E s) : wpAny (model prog w) A (Builtin.«object.__ne__» ⟨[.ref x, b], []⟩) Q E s := by
  unfold Builtin.«object.__ne__»
  repeat (first
    | with_reducible refine wpAny_cRoomFor hu ?_
    | (refine wpAny_bind (m := callSpecialIfBound? (.ref x) (Str.ofString "__eq__") [b]) (PySem.W.ifBound_K X I hs hf (wpAny_mono h (fun r s' hr => by
          obtain ⟨b, rfl, hq⟩ := hr
          repeat (first | exact hq | exact wpAny_pure hq | exact wpAny_truthy_bool hq | (refine wpAny_bind (m := truthy (.bool _)) (wpAny_truthy_bool ?_)) | wp_step)) fun _ _ e => e)))
    | wp_step)
theorem ifBound_ne {args : List Value} {Q : Option Value → Shared → Prop} (X : K.In s.heap) (I : PySem.W.InstAt s.heap x ox C od) (hs : PySem.W.findIn K (.ref C) "__ne__" = some (some (.builtin "object.__ne__")))
    (h : wpAny (model prog w) A (call (.builtin "object.__ne__") (.ref x :: args)) (fun v => Q (some v)) E s) : wpAny (model prog w) A (callSpecialIfBound? (.ref x) "__ne__" args) Q E s := by
  simp only [callSpecialIfBound?, bindSpecialIfBound?]
  refine wpAny_holding (wpAny_bind (wpAny_bind (wpAny_bind (I.type.here ((PySem.W.looks_findIn X hs).here ?_)))))
  refine wpAny_bind (wpAny_askSetting (wpAny_ite ?_))
  have fin : wpAny (model prog w) A (call (.builtin "object.__ne__") ([.ref x] ++ args) >>= fun v => pure (some v)) Q E s := wpAny_bind (wpAny_mono h (fun v s' h' => wpAny_pure h') fun _ _ h' => h')
  split
  · exact wpAny_bind (wpAny_of_eq (F.cmp_object.ne.bind _) (wpAny_pure (by exact fin)))
  · exact wpAny_tryCatch (wpAny_bind (wpAny_of_eq (F.cmp_object.ne.bind _) (wpAny_pure (by exact fin))))
theorem ne_K {b tb : Value} {Q : Value → Shared → Prop} (hu : A.units + 1 < cLine) (F0 : PyProof.Rows.Fr h₀ L s.heap mm) (X₀ : K.In h₀) (I : PySem.W.InstAt s.heap x ox C od) (hb : PySem.W.Looks (model prog w) s.heap (typeOf b) tb) (hn : PySem.W.notFirst K C tb = true) (hm : PySem.W.mroIn K C (.type "object") = some true)
    (hs : PySem.W.findIn K (.ref C) "__eq__" = some (some (.ref f))) (hf : PySem.W.isFn K (.ref f) = true) (hne : PySem.W.findIn K (.ref C) "__ne__" = some (some (.builtin "object.__ne__")))
    (h : wpAny (model prog w) A.in1 (call (.ref f) [.ref x, b]) (fun v s' => ∃ r, v = .bool r ∧ Q (.bool (!r)) s') E s) : wpAny (model prog w) A (richCompare .NotEq (.ref x) b) Q E s := by
  have X := X₀.keeps F0.keep
  have one : wpAny (model prog w) A (tryCompare (.ref x) (cmpInfo .NotEq).2.1 b) (fun r s' => ∃ v, r = some v ∧ Q v s') E s := by
    unfold tryCompare
    refine wpAny_bind (ifBound_ne X I hne (wpAny_call (codeAny_call_builtin F.cmp_object.ne.plain F.cmpEntry_ne (PySem.W.check_slot F.cmpKind_ne F.cmpSplit_ne (I.type.andThen (PySem.W.looks_mroIn X hm)) (F.cmpArgs_ne _ _)
      (entry_ne (A := A.in1) hu X I hs hf (wpAny_mono h (fun v s' hv => ?_) fun _ _ e => e))))))
    obtain ⟨b, rfl, hq⟩ := hv
    first | exact ⟨b, rfl, wpAny_pure ⟨_, rfl, hq⟩⟩ | exact ⟨b, rfl, wpAny_pure (wpAny_pure ⟨_, rfl, hq⟩)⟩
  unfold richCompare
  simp only [oneThing_ref]
  refine wpAny_holding (wpAny_bind (wpAny_cRoomFor (Nat.lt_of_succ_lt hu) ?_))
  refine wpAny_bind (I.type.here (wpAny_bind (hb.here ?_)))
  split
  · rename_i q
    have e : PySem.W.subIn K tb (.ref C) = some false := by
      rcases Bool.or_eq_true_iff.mp hn with e | e
      · rw [beq_iff_eq.mp e] at q; simp at q
      · exact beq_iff_eq.mp e
    refine wpAny_bind ((PySem.W.looks_subIn X e).here ?_)
    simp only [Bool.false_eq_true, if_false]
    refine wpAny_bind (wpAny_mono one (fun r s' z => ?_) fun _ _ e => e)
    obtain ⟨v, rfl, hq⟩ := z
    exact wpAny_pure hq
  · refine wpAny_bind (wpAny_pure ?_)
    simp only [Bool.false_eq_true, if_false]
    refine wpAny_bind (wpAny_mono one (fun r s' z => ?_) fun _ _ e => e)
    obtain ⟨v, rfl, hq⟩ := z
    exact wpAny_pure hq
end
def bolQ (neg : Bool) (Q : QE) : QE := fun r M => match r with | .bl b => Q (.bl (if neg then !b else b)) M | _ => False
def dEqO (neg : Bool) (C : Addr) (sp : DSp) (ta tb : DTE) : DTE := fun e M Q E => ta e M (fun x M1 => tb e M1 (fun y M2 => isOwn C x M2 ∧ othO C y M2 ∧ sp [x, y] M2 (bolQ neg Q) E) E) E
def dLnO (C : Addr) (sp : DSp) (ta : DTE) : DTE := fun e M Q E => ta e M (fun x M1 => isOwn C x M1 ∧ sp [x] M1 (fun r M2 => match r with | .int n => (0 ≤ n ∧ n < 2 ^ 62) ∧ Q (.int n) M2 | _ => False) E) E
def neOf (neg : Bool) : CmpOp := if neg then .NotEq else .Eq
section
variable {g : Gd} {k : Nat} {C f : Addr} {sp : DSp} {a b : Expr} {ta tb : DTE} {pos p p2 : Pos} {neg : Bool} {cn : Str}
theorem slack_in1 {A : Around} (hr : Room k A) (sl : A.units + 16 * k + 210 < cLine) : Room k A.in1 := ⟨hr.hd, hr.dp, by show A.units + 1 + 16 * k + 200 < cLine; omega⟩
theorem eqO_run (G : Gok g k) (sl : g.X.A.units + 16 * k + 210 < cLine) (hm : Meth g.X.K C "__eq__" f) (hne : PySem.W.findIn g.X.K (.ref C) "__ne__" = some (some (.builtin "object.__ne__"))) (hc : CallOk g.X.prog g.X.w g.X.K g.X.mg g.X.base k (.ref f) 2 [] sp)
    {pins : List (Addr × Obj)} {s s2 : Shared} {σ : L2.St} {H H2 : Hp} {e : Sl} {M M2 : Mem} {Q : QE} {u1 u2 : Value} {v1 v2 : V} {d1 d2 : D} (I : SI g pins σ H s e M) (r1 : RelV v1 u1) (i1 : Is g.X.K H2 d1 v1) (J2 : SI g pins σ H2 s2 e M2) (f2 : Fr M H M2 H2) (r2 : RelV v2 u2) (i2 : Is g.X.K H2 d2 v2)
    (q : isOwn C d1 M2 ∧ othO C d2 M2 ∧ sp [d1, d2] M2 (bolQ neg Q) g.E) : wpAny (model g.X.prog g.X.w) g.X.A (compareOp (neOf neg) u1 u2) (fun w s' => ∃ b, w = .bool b ∧ DEP g pins σ e M H Q (.bool b) s') g.X.xe s2 := by
  obtain ⟨ho, hy, q⟩ := q
  cases d1 with
  | ref x =>
    obtain ⟨fs, hM⟩ := ho
    rw [is_ref] at i1
    subst i1
    obtain rfl : u1 = Value.ref x := r1
    obtain ⟨ox, od, IA, it⟩ := own_inst J2.inv J2.mr hM
    obtain ⟨t, lk, nf⟩ := oth_low J2.inv J2.mr i2 r2 hy
    obtain ⟨m, hF⟩ := J2.inv.fr
    have call : ∀ {A' : Around}, Room k A' → A'.guards = some [] → A'.handled = g.X.A.handled → A'.frames = g.X.A.frames → wpAny (model g.X.prog g.X.w) A' (PySem.call (.ref f) [.ref x, u2]) (DEP g pins σ e M2 H2 (bolQ neg Q)) g.X.xe s2 := fun {A'} hr hg h1 h2 =>
      call_at hr hg h1 h2 G hc J2 (vs := [.ref x, v2]) (.cons rfl (.cons r2 .nil)) (IsL.mk ii_ref (IsL.mk i2 (isL_nil.mpr rfl))) rfl q
    cases neg with
    | false =>
      show wpAny _ _ (richCompare .Eq (.ref x) u2) _ _ _
      refine PySem.W.cmp_K (op := .Eq) (tb := t) G.room.units0 hF J2.inv.ok.mod.kin IA lk nf hm.at_ hm.fn (thn (call G.room G.gu rfl rfl) fun w s3 z3 => ?_)
      obtain ⟨v3, d3, H3, M3, r3, i3, J3, f3, q3⟩ := z3
      cases d3 with
      | bl b =>
        rw [is_bl] at i3
        subst i3
        obtain rfl : w = Value.bool b := r3
        exact ⟨b, rfl, .bl b, .bl b, H3, M3, rfl, ii_bl, J3, f2.trans f3, q3⟩
      | _ => exact q3.elim
    | true =>
      show wpAny _ _ (richCompare .NotEq (.ref x) u2) _ _ _
      refine ne_K (tb := t) (by have := G.room.un; omega) hF J2.inv.ok.mod.kin IA lk nf it.mro.1 hm.at_ hm.fn hne (thn (call (slack_in1 G.room sl) G.gu rfl rfl) fun w s3 z3 => ?_)
      obtain ⟨v3, d3, H3, M3, r3, i3, J3, f3, q3⟩ := z3
      cases d3 with
      | bl b =>
        rw [is_bl] at i3
        subst i3
        obtain rfl : w = Value.bool b := r3
        exact ⟨b, rfl, !b, rfl, .bl (!b), .bl (!b), H3, M3, rfl, ii_bl, J3, f2.trans f3, q3⟩
      | _ => exact q3.elim
  | _ => exact ho.elim
theorem de_eqO (G : Gok g k) (sl : g.X.A.units + 16 * k + 210 < cLine) (hm : Meth g.X.K C "__eq__" f) (hne : PySem.W.findIn g.X.K (.ref C) "__ne__" = some (some (.builtin "object.__ne__"))) (hc : CallOk g.X.prog g.X.w g.X.K g.X.mg g.X.base k (.ref f) 2 [] sp) (ha : DE g a ta) (hb : DE g b tb) (hmk : behindInMarks (neOf neg) b = false) :
    DE g (.Compare a [neOf neg] [b] pos) (dEqO neg C sp ta tb) := by
  refine ⟨fun pins s σ H e M Q I q => ?_⟩
  refine wpAny_Compare1 (thn (ha.run pins s σ H e M _ I q) fun u1 s1 z1 => ?_) hmk
  obtain ⟨v1, d1, H1, M1, r1, i1, J1, f1, q⟩ := z1
  refine thn (hb.run pins s1 σ H1 e M1 _ J1 q) fun u2 s2 z2 => ?_
  obtain ⟨v2, d2, H2, M2, r2, i2, J2, f2, q⟩ := z2
  refine thn (eqO_run G sl hm hne hc I r1 (Is.ext (f2.ext J1.mr) _ _ i1) J2 (f1.trans f2) r2 i2 q) fun w s3 z => ?_
  obtain ⟨b, rfl, z⟩ := z
  exact z
theorem dt_eqO (G : Gok g k) (sl : g.X.A.units + 16 * k + 210 < cLine) (hm : Meth g.X.K C "__eq__" f) (hne : PySem.W.findIn g.X.K (.ref C) "__ne__" = some (some (.builtin "object.__ne__"))) (hc : CallOk g.X.prog g.X.w g.X.K g.X.mg g.X.base k (.ref f) 2 [] sp) (ha : DE g a ta) (hb : DE g b tb) (hmk : behindInMarks (neOf neg) b = false) :
    DT g (.Compare a [neOf neg] [b] pos) (dTest (dEqO neg C sp ta tb)) := by
  refine ⟨fun pins s σ H e M Q I q => ?_⟩
  refine wpAny_isTrue_Compare1 (thn (ha.run pins s σ H e M _ I q) fun u1 s1 z1 => ?_) hmk
  obtain ⟨v1, d1, H1, M1, r1, i1, J1, f1, q⟩ := z1
  refine thn (hb.run pins s1 σ H1 e M1 _ J1 q) fun u2 s2 z2 => ?_
  obtain ⟨v2, d2, H2, M2, r2, i2, J2, f2, q⟩ := z2
  refine thn (eqO_run G sl hm hne hc I r1 (Is.ext (f2.ext J1.mr) _ _ i1) J2 (f1.trans f2) r2 i2 q) fun w s3 z => ?_
  obtain ⟨b, rfl, v, d, H', M', r, i, J, f, q⟩ := z
  cases d with
  | bl b' =>
    rw [is_bl] at i
    subst i
    obtain rfl : b = b' := by
      have : Value.bool b = Value.bool b' := r
      injection this
    exact wpAny_truthy_bool ⟨H', M', J, f, q⟩
  | _ => exact q.elim
theorem de_lnO (G : Gok g k) (sl : g.X.A.units + 16 * k + 210 < cLine) (hg : Gl g.X "len") (hmg : g.X.mg "len" = none) (hm : Meth g.X.K C "__len__" f) (hc : CallOk g.X.prog g.X.w g.X.K g.X.mg g.X.base k (.ref f) 1 [] sp) (ha : DE g a ta) (na : isStar a = false) :
    DE g (.Call (.Name "len" p) [a] [] pos) (dLnO C sp ta) := by
  refine ⟨fun pins s σ H e M Q I q => ?_⟩
  refine Call_ (ld_blt I.inv hg hmg boot_len ?_)
  refine PyProof.Rows.callWith_builtin1 (PyProof.Rows.args_cons (thn (ha.run pins s σ H e M _ I q) fun u1 s1 z1 => PyProof.Rows.args_nil ?_) (star_cons na)) (star_cons na) rfl
  obtain ⟨v1, d1, H1, M1, r1, i1, J1, f1, ho, q⟩ := z1
  cases d1 with
  | ref x =>
    obtain ⟨fs, hM⟩ := ho
    rw [is_ref] at i1
    subst i1
    obtain rfl : u1 = Value.ref x := r1
    obtain ⟨ox, od, IA, it⟩ := own_inst J1.inv J1.mr hM
    obtain ⟨m, hF⟩ := J1.inv.fr
    refine PySem.W.len_K hF J1.inv.ok.mod.kin IA hm.at_ hm.fn (thn (call_at (slack_in1 G.room sl) G.gu rfl rfl G hc J1 (vs := [.ref x]) (.cons rfl .nil) (IsL.mk ii_ref (isL_nil.mpr rfl)) rfl q) fun w s3 z3 => ?_)
    obtain ⟨v3, d3, H3, M3, r3, i3, J3, f3, q3⟩ := z3
    cases d3 with
    | int n =>
      rw [is_int] at i3
      subst i3
      obtain ⟨tk, rfl⟩ := r3
      obtain ⟨⟨h0, h1⟩, q3⟩ := q3
      refine ⟨⟨h0, by omega⟩, .int n, .int n, H3, M3, ⟨_, rfl⟩, ii_int, ?_, f1.trans f3, q3⟩
      exact ⟨J3.inv.tok _, J3.sl, J3.mr, J3.fr⟩
    | _ => exact q3.elim
  | _ => exact ho.elim
def rIsiO (C : Addr) : RnD := fun ds M Q => match ds with
  | [x, y] => y = .ref C ∧ ((isOwn C x M ∧ Q (.bl true) M) ∨ ((∃ T, T ∈ bltTys ∧ hasTy M x T) ∧ Q (.bl false) M))
  | _ => False
theorem cd_isO {X : Cx} (it : InsT X.K C) (ox : OwnX X.K C) : CallD X (.builtin "isinstance") (rIsiO C) := by
  refine ⟨_, call_isi, fun M H Mo Ho vs ds Q QV m f l fin q => ?_⟩
  match ds, q with
  | [d, y], q =>
    obtain ⟨v, u, rfl, i, j⟩ := isL_two l
    obtain ⟨rfl, q⟩ := q
    rw [is_ref] at j
    subst j
    rcases q with ⟨h, q⟩ | ⟨⟨T, hT, h⟩, q⟩
    · cases d with
      | ref a =>
        obtain ⟨fs, h⟩ := h
        rw [is_ref] at i
        subst i
        obtain ⟨dx, ws, e, _⟩ := m a _ h
        refine ⟨.ref a, .ref C, .ref C, .ref C, true, rfl, .own C, it.ty e, ?_, fin _ _ _ _ ii_bl m f q⟩
        unfold PySem.W.kitOne
        rw [if_pos (by simp)]
      | _ => exact h.elim
    · refine ⟨v, .ref C, .type T, .ref C, false, rfl, .own C, tyX_blt m i h hT, ?_, fin _ _ _ _ ii_bl m f q⟩
      unfold PySem.W.kitOne PySem.W.kitCls
      rw [if_neg (by simp)]
      obtain ⟨cd, hc, _⟩ := PySem.W.any_some it.cl.po
      have e1 : (PySem.W.clsIn X.K C).isSome = true := by rw [hc]; rfl
      dsimp only
      rw [e1, ox.ty]
      rw [if_pos (by simp)]
      exact sub_blt hT
end
end DL

namespace DL
open PySem PySem.Spec PyProof.Rows L2
abbrev twO (o : Obj) (kvs : List (Key × V)) : HO := .frz o (.frz o (.dK kvs))
section
variable {X : Cx} {pins : List (Addr × Obj)} {σ : L2.St} {H : Hp} {s : Shared} {d : Addr} {o : Obj} {kvs : List (Key × V)}
theorem inv_named {u u' : HO} (I : Inv X pins σ H s) (h : H d = some u) (n0 : ∀ o' x, X.H_0 d ≠ some (.frz o' x)) (n1 : ∀ xs, u ≠ .tup xs) (n2 : ∀ ps, u ≠ .tbl ps) (n3 : ∀ a, u ≠ .own a) (new : ObjOk X.prog X.w (upd H d u') s.heap d u') : Inv X pins σ (upd H d u') s := by
  have off : ∀ b, H b = none → b ≠ d := fun b e z => by subst z; rw [h] at e; cases e
  have ot : ∀ b xs, H b = some (.tup xs) → (upd H d u') b = some (.tup xs) := fun b xs e => by
    rw [upd_ne fun z => by subst z; rw [h] at e; exact n1 xs (Option.some.inj e)]; exact e
  have oo : ∀ b a, H b = some (.own a) → (upd H d u') b = some (.own a) := fun b a e => by
    rw [upd_ne fun z => by subst z; rw [h] at e; exact n3 a (Option.some.inj e)]; exact e
  have og : ∀ b, H b = none → (upd H d u') b = none := fun b e => by rw [upd_ne (off b e)]; exact e
  obtain ⟨ok, os, bare, ⟨b1, b2, b3, b4, b5, b6, b7⟩, loc, cell, free, freeC, pin, hok, len⟩ := I
  refine ⟨ok, os, bare, ⟨b1, b2, fun b ob e n x => og b (b3 b ob e n x), b4, fun b xs e => ot b xs (b5 b xs e), fun b ob x e => ?_, fun b ps e => ?_⟩, loc, cell, og _ free, fun x c e => og c (freeC x c e), fun p hp => ?_, fun b ob e => ?_, len⟩
  · rw [upd_ne fun z => by subst z; exact n0 ob x e]; exact b6 b ob x e
  · obtain ⟨m, e2⟩ := b7 b ps e
    exact ⟨m, by rw [upd_ne fun z => by subst z; rw [h] at e2; exact n2 _ (Option.some.inj e2)]; exact e2⟩
  · obtain ⟨e, n, r⟩ := pin p hp; exact ⟨e, og _ n, r⟩
  · by_cases hb : b = d
    · subst hb; rw [upd_same] at e; rw [← Option.some.inj e]; exact new
    · rw [upd_ne hb] at e
      exact (hok b ob e).stay (fun c v _ q => q) (fun c q => oo c _ q) fun c xs q => ot c xs q
theorem n0_of {u : HO} (I : Inv X pins σ H s) (h : H d = some u) (nf : ∀ o' x, u ≠ .frz o' x) : ∀ o' x, X.H_0 d ≠ some (.frz o' x) := fun o' x e => by
  have q := I.base.frzs d o' x e
  rw [h] at q
  exact nf _ _ (Option.some.inj q)
theorem inv_lock2 (I : Inv X pins σ H s) (h : H d = some (.dK kvs)) : ∃ o, Inv X pins σ (upd H d (twO o kvs)) s := by
  have x := I.hok d _ h
  obtain ⟨_, _, _, _, o, _, _, e, _⟩ := id x
  have x2 : ObjOk X.prog X.w (upd H d (twO o kvs)) s.heap d (.dK kvs) := x
  exact ⟨o, inv_named I h (n0_of I h fun _ _ z => nomatch z) (fun _ z => nomatch z) (fun _ z => nomatch z) (fun _ z => nomatch z) ⟨e, e, x2⟩⟩
theorem inv_unlock2 (I : Inv X pins σ H s) (h : H d = some (twO o kvs)) (n0 : ∀ o' x, X.H_0 d ≠ some (.frz o' x)) : Inv X pins σ (upd H d (.dK kvs)) s := by
  obtain ⟨_, _, x⟩ := I.hok d _ h
  have x2 : ObjOk X.prog X.w (upd H d (.dK kvs)) s.heap d (.dK kvs) := x
  exact inv_named I h n0 (fun _ z => nomatch z) (fun _ z => nomatch z) (fun _ z => nomatch z) x2
theorem two_at (I : Inv X pins σ H s) (h : H d = some (twO o kvs)) : (d == sysModules) = false ∧ s.heap.get? d = some o ∧ o.ExactDict ∧ ∃ (es : Array DictEntry) (ep : Nat) (vs : List (Key × Value)), o.data = .dict es ep ∧ es.size = kvs.length ∧ KV kvs vs ∧ s.heap.DictAt (mixKind X.prog X.w) d vs ep := by
  obtain ⟨e1, x1⟩ := I.hok d _ h
  obtain ⟨e2, z, hs, vs, kv, o', es, ep, e3, xd, dd, r⟩ := x1
  rw [e2] at e3
  obtain rfl := Option.some.inj e3
  have l1 := r.2.1.length
  exact ⟨hs, e2, xd, es, ep, vs, dd, by have l2 := Paired.length kv; simp only [Array.length_toList] at l1; omega, kv, o, es, e2, xd, dd, r⟩
end
def Itk2 (d : Addr) (o : Obj) (kvs : List (Key × V)) : It :=
  ⟨fun i H => H d = some (twO o kvs) ∧ i < kvs.length, fun i H x H' => H' = H ∧ ∃ k v, kvs[i]? = some (k, v) ∧ x = kV k, fun i H => H d = some (twO o kvs) ∧ kvs.length ≤ i⟩
def Iti2 (d : Addr) (o : Obj) (kvs : List (Key × V)) : It :=
  ⟨fun i H => H d = some (twO o kvs) ∧ i < kvs.length, fun i H x H' => ∃ T k v, kvs[i]? = some (k, v) ∧ x = .ref T ∧ H T = none ∧ H' = upd H T (.tup [kV k, v]), fun i H => H d = some (twO o kvs) ∧ kvs.length ≤ i⟩
section
variable {P : Program} {w : World} {K : PySem.W.Frag} {tg : Expr} {d : Addr} {o : Obj} {ess : Array DictEntry} {epo : Nat} {kvs : List (Key × V)}
theorem turn_k2 (it : Addr) (hod : o.data = .dict ess epo) : Turn P w K tg (Itk2 d o kvs) [it] it (fun i h => h.IsKeyIter it d i kvs.length epo) where
  mem := List.mem_singleton.mpr rfl
  obj := fun i h ⟨oi, e, c, dd⟩ b hb => ⟨oi, by obtain rfl := List.mem_singleton.mp hb; exact e, fun v z => by rw [dd] at z; cases z⟩
  keep := fun i h h' st k => st.at fun oi => k it (List.mem_singleton.mpr rfl) oi
  item := fun X hP hw hK hc i pins s σ H E I hf st ⟨hd, hi⟩ => by
    subst hP hw hK
    obtain ⟨g0, g1, g2, g3, g4, g5⟩ := hf it (List.mem_singleton.mpr rfl)
    obtain ⟨_, ho, xd, e1, p1, vs, dd, sz, kv, da⟩ := two_at I hd
    obtain ⟨rfl, rfl⟩ := dict_ep hod dd
    have lv : kvs.length = vs.length := Paired.length kv
    have hg := List.getElem?_eq_getElem hi
    generalize kvs[i] = kz at hg
    obtain ⟨k, v⟩ := kz
    obtain ⟨u, hu, ru⟩ := kv_get kv hg
    rw [lv] at st
    refine wpAny_pyNext_dict_item st da hu fun key h1 hkey st1 sb => ?_
    obtain ⟨oi, e, c, dk⟩ := id st1
    have J : Inv X pins σ H { s with heap := h1 } := I.turned (t' := s.toks) (fun b ob hb ez => (sb.2 b hb).trans ez) g0 g1 g3 g4 g5
    refine ⟨key, rfl, go_of (s := { s with heap := h1 }) e c dk (by decide) ⟨kV k, H, J, relV_key (show keyIs k key = true from hkey), ⟨rfl, k, v, hg, rfl⟩, ?_, fun b hb => (hf b hb).1⟩⟩
    rw [lv]
    exact st1
  done := fun X hP hw hK hc i pins s σ H E I hf st ⟨hd, hi⟩ => by
    subst hP hw hK
    obtain ⟨g0, g1, g2, g3, g4, g5⟩ := hf it (List.mem_singleton.mpr rfl)
    obtain ⟨_, ho, xd, e1, p1, vs, dd, sz, kv, da⟩ := two_at I hd
    obtain ⟨rfl, rfl⟩ := dict_ep hod dd
    exact next_key_end (I.ok.hd hc) st ho dd sz hi fun h1 eb => ⟨rfl, I.turned (t' := s.toks) (fun b ob hb ez => eb b ob hb ez) g0 g1 g3 g4 g5⟩
  self := fun A i s Q E st => wpAny_pyIter_keyiter st
theorem turn_i2 {elts : List Expr} {kk : Nat} {tpos : Pos} (it : Addr) (hod : o.data = .dict ess epo) : Turn P w K (.Tuple elts kk tpos) (Iti2 d o kvs) [it] it (fun i h => ∃ ok ov, IsItemIter h it d i kvs.length epo ok ov) where
  mem := List.mem_singleton.mpr rfl
  obj := fun i h ⟨ok, ov, e⟩ b hb => by
    obtain rfl := List.mem_singleton.mp hb
    exact ⟨_, e, fun v z => nomatch z⟩
  keep := fun i h h' ⟨ok, ov, e⟩ k => ⟨ok, ov, k it (List.mem_singleton.mpr rfl) _ e⟩
  item := fun X hP hw hK hc i pins s σ H E I hf ⟨ok, ov, st⟩ ⟨hd, hi⟩ => by
    subst hP hw hK
    obtain ⟨_, ho, xd, e1, p1, vs, dd, sz, kv, da⟩ := two_at I hd
    obtain ⟨rfl, rfl⟩ := dict_ep hod dd
    have lv : kvs.length = vs.length := Paired.length kv
    have hg := List.getElem?_eq_getElem hi
    generalize kvs[i] = kz at hg
    obtain ⟨k, v⟩ := kz
    obtain ⟨u, hu, ru⟩ := kv_get kv hg
    rw [lv] at st
    have itlt : it < s.heap.objs.size := Heap.lt_size st
    obtain ⟨N, hN⟩ : ∃ N, N = s.heap.objs.size := ⟨_, rfl⟩
    refine wpAny_pyNext_items_item st da hu fun key h1 hkey ot hT hz hk => ?_
    rw [← hN] at ot hT itlt ⊢
    refine ⟨_, rfl, wpAny_letOwnedTupleGo_items (s := { s with heap := h1 }) ot fun h2 st2 sb => ?_⟩
    have eT : h2.get? N = some { cls := .type "tuple", data := .seq #[key, u] } := (sb.2 _ (Nat.ne_of_gt itlt)).trans hT
    have fresh : H N = none := I.hok.fresh (Nat.le_of_eq hN.symm)
    have J : Inv X pins σ (upd H N (.tup [kV k, v])) { s with heap := h2 } := by
      refine I.turnedNew (t' := s.toks) (ch := [it]) (fun b ob hb ez => ?_) hf (Nat.le_of_eq hN.symm) ⟨by show 2 ≤ sizeLine; decide, [key, u], .cons (relV_key (show keyIs k key = true from hkey)) (.cons ru .nil), ⟨_, eT, rfl, _, rfl⟩⟩
      exact (sb.2 b fun z => hb (List.mem_singleton.mpr z)).trans (hk b ob (fun z => hb (List.mem_singleton.mpr z)) ez)
    refine ⟨.ref N, _, J, rfl, ⟨N, k, v, hg, rfl, fresh, rfl⟩, ⟨key, u, by rw [lv]; exact st2⟩, fun b hb => ?_⟩
    rw [List.mem_singleton.mp hb, upd_ne (Nat.ne_of_lt itlt)]
    exact (hf it (List.mem_singleton.mpr rfl)).1
  done := fun X hP hw hK hc i pins s σ H E I hf ⟨ok, ov, st⟩ ⟨hd, hi⟩ => by
    subst hP hw hK
    obtain ⟨g0, g1, g2, g3, g4, g5⟩ := hf it (List.mem_singleton.mpr rfl)
    obtain ⟨_, ho, xd, e1, p1, vs, dd, sz, kv, da⟩ := two_at I hd
    obtain ⟨rfl, rfl⟩ := dict_ep hod dd
    have lv : kvs.length = vs.length := Paired.length kv
    rw [lv] at st
    exact wpAny_pyNext_items_end (I.ok.hd hc) st da (List.getElem?_eq_none (by omega)) fun h1 eb => ⟨rfl, I.turned (t' := s.toks) (fun b ob hb ez => eb b ob hb ez) g0 g1 g3 g4 g5⟩
  self := fun A i s Q E ⟨_, _, e⟩ => PySem.W.kcp_self e
end
section
variable {X : Cx} {tg e : Expr} {td : TE} {apos cpos : Pos}
def iK2 (td : TE) : TI := fun σ H R => td σ H fun x H1 => ∃ d o kvs, x = .ref d ∧ H1 d = some (twO o kvs) ∧ R (Itk2 d o kvs) H1
def iI2 (td : TE) : TI := fun σ H R => td σ H fun x H1 => ∃ d o kvs, x = .ref d ∧ H1 d = some (twO o kvs) ∧ R (Iti2 d o kvs) H1
theorem pi_k2 (he : PE X e td) : PI X tg e (iK2 td) := by
  refine ⟨fun pins s σ H R I h => thn (he.run pins s σ H _ I h) fun u s1 ⟨x, H1, J, rx, d, o, kvs, ex, hd, q⟩ => ?_⟩
  subst ex
  obtain rfl : u = Value.ref d := rx
  obtain ⟨ns, ho, xd, e1, p1, vs, dd, sz, kv, da⟩ := two_at J hd
  exact iter_keys ns ho xd dd (pi_one (tk := s1.toks) J _ (turn_k2 _ dd) ⟨_, Heap.get?_push_size _ rfl, rfl, by rw [sz] <;> rfl⟩ q)
theorem pi_i2 {elts : List Expr} {kk : Nat} {tpos : Pos} (he : PE X e td) (hbase : attributeBase e "items" X.env (eval e X.env) = eval e X.env) (hline : (apos.endLine == cpos.line) = true) :
    PI X (.Tuple elts kk tpos) (.Call (.Attribute e "items" apos) [] [] cpos) (iI2 td) := by
  refine ⟨fun pins s σ H R I h => ?_⟩
  refine wpAny_Call_method (T := "dict") (id := "dict.items") hbase rfl hline F.plainAttrs_dict F.slot_dict_items F.type_dict_items (thn (he.run pins s σ H _ I h) fun u s1 ⟨x, H1, J, rx, d, o, kvs, ex, hd, q⟩ => ?_)
  subst ex
  obtain rfl : u = Value.ref d := rx
  obtain ⟨ns, ho, xd, e1, p1, vs, dd, sz, kv, da⟩ := two_at J hd
  have lv : kvs.length = vs.length := Paired.length kv
  refine ⟨da.dictOf.typeIs, da.dictOf.mapOf.noDict, ?_⟩
  generalize hv : ({ cls := .type "dict_items", data := .fields #[.ref d] } : Obj) = vo
  have J2 : Inv X pins σ H1 { s1 with heap := s1.heap.push vo } := J.kept (t' := s1.toks) fun b ob => Heap.get?_push_of_some _
  have fin : wpAny (model X.prog X.w) X.A (pyIter (.ref s1.heap.objs.size)) (PIE X pins σ (.Tuple elts kk tpos) R) X.xe { s1 with heap := s1.heap.push vo } := by
    rw [← hv] at J2 ⊢
    exact wpAny_pyIter_items (d := d) (knd := mixKind X.prog X.w) ⟨_, Heap.get?_push_size _ rfl, rfl, rfl⟩ (da.push _) (pi_one (tk := s1.toks) J2 _ (turn_i2 _ dd) ⟨.none, .none, by rw [lv]; exact Heap.get?_push_size _ rfl⟩ q)
  rw [← hv] at fin
  refine PySem.method_meetsIn F.slot_dict_items F.entry_dict_items rfl (PySem.evalArgs_none ⟨rfl, da.dictOf.typeIs, F.args_dict_items_1 _, _, meets_dict_items (mixKind X.prog X.w) d ns, ⟨vs, da.dictOf⟩, fin⟩)
end
end DL

namespace DL
open PySem PySem.Spec PyProof.Rows L2
section
variable {X : Cx} {st : Stmt} {t : TS} {e : Expr} {te : TE}
def tLk2 (t : TS) : TS := fun D σ H => ∃ d ws, H d = some (.dK ws) ∧ ∀ o, t ⟨fun σ' H' => H' d = some (twO o ws) ∧ D.nx σ' (upd H' d (.dK ws)), fun v H' => H' d = some (twO o ws) ∧ D.rt v (upd H' d (.dK ws)),
  fun σ' H' => H' d = some (twO o ws) ∧ D.bk σ' (upd H' d (.dK ws)), fun σ' H' => H' d = some (twO o ws) ∧ D.ct σ' (upd H' d (.dK ws))⟩ σ (upd H d (twO o ws))
theorem ps_lk2 (h : PS X st t) : PS X st (tLk2 t) := by
  refine ⟨fun pins s σ H D I ⟨d, ws, hd, hw⟩ => ?_⟩
  have n0 := n0_of I hd fun _ _ z => nomatch z
  obtain ⟨o, I1⟩ := inv_lock2 I hd
  refine thn (h.run pins s σ _ _ I1 (hw o)) fun f s1 q => ?_
  cases f with
  | next => obtain ⟨σ', H', J, z, q⟩ := q; exact ⟨σ', _, inv_unlock2 J z n0, q⟩
  | brk => obtain ⟨σ', H', J, z, q⟩ := q; exact ⟨σ', _, inv_unlock2 J z n0, q⟩
  | cont => obtain ⟨σ', H', J, z, q⟩ := q; exact ⟨σ', _, inv_unlock2 J z n0, q⟩
  | ret v => obtain ⟨x, σ', H', J, r, z, q⟩ := q; exact ⟨x, σ', _, inv_unlock2 J z n0, r, q⟩
end
section
variable {K : PySem.W.Frag} {M : Mem} {H : Hp} {a : Addr} {o : Obj} {ws : List (Key × V)} {kvs : List (Key × D)}
theorem mem_lock (m : MRel K M H) (h : M a = some (.dK kvs)) (hk : ws.map (·.1) = kvs.map (·.1)) (l : IsL K H (kvs.map (·.2)) (ws.map (·.2))) : MRel K (wr M a (.lk o ws kvs)) (upd H a (twO o ws)) ∧ Fr M H (wr M a (.lk o ws kvs)) (upd H a (twO o ws)) := by
  have f : Fr M H (wr M a (.lk o ws kvs)) (upd H a (twO o ws)) := fr_write m h
  exact ⟨mr_write m h ⟨upd_same, hk, IsL.ext (f.ext m) _ _ l⟩, f⟩
theorem mem_unlock (m : MRel K M H) (h : M a = some (.lk o ws kvs)) : MRel K (wr M a (.dK kvs)) (upd H a (.dK ws)) ∧ Fr M H (wr M a (.dK kvs)) (upd H a (.dK ws)) := by
  obtain ⟨hh, hk, l⟩ := m a _ h
  have f : Fr M H (wr M a (.dK kvs)) (upd H a (.dK ws)) := fr_write m h
  exact ⟨mr_write m h ⟨ws, upd_same, hk, IsL.ext (f.ext m) _ _ l⟩, f⟩
end
def dLkS (t : DTS) : DTS := fun D E e M => ∃ a kvs, M a = some (.dK kvs) ∧ ∀ o ws, t ⟨fun e' M' => M' a = some (.lk o ws kvs) ∧ D.nx e' (wr M' a (.dK kvs)), fun d M' => M' a = some (.lk o ws kvs) ∧ D.rt d (wr M' a (.dK kvs)),
  fun e' M' => M' a = some (.lk o ws kvs) ∧ D.bk e' (wr M' a (.dK kvs)), fun e' M' => M' a = some (.lk o ws kvs) ∧ D.ct e' (wr M' a (.dK kvs))⟩ E e (wr M a (.lk o ws kvs))
def dLkE (t : DTE) : DTE := fun e M Q E => ∃ a kvs, M a = some (.dK kvs) ∧ ∀ o ws, t e (wr M a (.lk o ws kvs)) (fun d M' => M' a = some (.lk o ws kvs) ∧ Q d (wr M' a (.dK kvs))) E
section
variable {g : Gd} {st : Stmt} {t : DTS} {x : Expr} {te : DTE}
theorem ds_lkS (h : DS g st t) : DS g st (dLkS t) := by
  obtain ⟨t', p, k⟩ := h.ps
  refine ⟨⟨tLk2 t', ps_lk2 p, fun P hP σ H e M D DV sl mr hp le q => ?_⟩⟩
  obtain ⟨a, kvs, hM, q⟩ := q
  obtain ⟨ws, hH, hk, l⟩ := mr a _ hM
  refine ⟨a, ws, hH, fun o => ?_⟩
  obtain ⟨m1, f1⟩ := mem_lock (o := o) mr hM hk l
  refine k P hP σ _ e _ _ _ (sl.ext (f1.ext mr)) m1 (hP.step _ _ _ _ hp f1) ⟨fun σ' H' e' M' sl' mr' hp' q' => ?_, fun v H' d M' i mr' hp' q' => ?_, fun σ' H' e' M' sl' mr' hp' q' => ?_, fun σ' H' e' M' sl' mr' hp' q' => ?_⟩ (q o ws)
  · obtain ⟨z, q'⟩ := q'
    obtain ⟨m2, f2⟩ := mem_unlock mr' z
    exact ⟨(mr' a _ z).1, le.nx _ _ _ _ (sl'.ext (f2.ext mr')) m2 (hP.step _ _ _ _ hp' f2) q'⟩
  · obtain ⟨z, q'⟩ := q'
    obtain ⟨m2, f2⟩ := mem_unlock mr' z
    exact ⟨(mr' a _ z).1, le.rt _ _ _ _ (Is.ext (f2.ext mr') _ _ i) m2 (hP.step _ _ _ _ hp' f2) q'⟩
  · obtain ⟨z, q'⟩ := q'
    obtain ⟨m2, f2⟩ := mem_unlock mr' z
    exact ⟨(mr' a _ z).1, le.bk _ _ _ _ (sl'.ext (f2.ext mr')) m2 (hP.step _ _ _ _ hp' f2) q'⟩
  · obtain ⟨z, q'⟩ := q'
    obtain ⟨m2, f2⟩ := mem_unlock mr' z
    exact ⟨(mr' a _ z).1, le.ct _ _ _ _ (sl'.ext (f2.ext mr')) m2 (hP.step _ _ _ _ hp' f2) q'⟩
theorem de_lkE (h : DE g x te) : DE g x (dLkE te) := by
  refine ⟨fun pins s σ H e M Q I q => ?_⟩
  obtain ⟨a, kvs, hM, q⟩ := q
  obtain ⟨ws, hH, hk, l⟩ := I.mr a _ hM
  have n0 := n0_of I.inv hH fun _ _ z => nomatch z
  obtain ⟨o, J⟩ := inv_lock2 I.inv hH
  obtain ⟨m1, f1⟩ := mem_lock (o := o) I.mr hM hk l
  refine thn (h.run pins s σ _ e _ _ (I.next J m1 f1) (q o ws)) fun u s1 z => ?_
  obtain ⟨v, d, H1, M1, r, i, J1, f2, z, q⟩ := z
  obtain ⟨m2, f3⟩ := mem_unlock J1.mr z
  exact ⟨v, d, _, _, r, Is.ext (f3.ext J1.mr) _ _ i, J1.next (inv_unlock2 J1.inv (J1.mr a _ z).1 n0) m2 f3, (f1.trans f2).trans f3, q⟩
end
def diKy (t : DTE) : DTI := fun e M R E => t e M (fun x M1 => ∃ a o ws kvs, x = .ref a ∧ M1 a = some (.lk o ws kvs) ∧ R ⟨kvs.map fun kv => keyV kv.1, fun M' => M' a = some (.lk o ws kvs)⟩ M1) E
def diItm (t : DTE) : DTI := fun e M R E => t e M (fun x M1 => ∃ a o ws kvs, x = .ref a ∧ M1 a = some (.lk o ws kvs) ∧ R ⟨(kvs.map fun kv => [keyV kv.1, kv.2]).map D.tup, fun M' => M' a = some (.lk o ws kvs)⟩ M1) E
section
variable {g : Gd} {x : Expr} {te : DTE} {apos cpos tpos : Pos} {tg : Expr}
theorem di_ky (h : DE g x te) : DI g tg x (diKy te) := by
  refine ⟨⟨_, pi_k2 h.pe, fun σ H e M R RV sl mr fr q k => ?_⟩⟩
  refine low_start sl mr fr q fun v d M1 H1 i m f q => ?_
  obtain ⟨a, o, ws, kvs, rfl, hM, q⟩ := q
  rw [is_ref] at i
  subst i
  obtain ⟨hH, hk, l⟩ := m a _ hM
  refine ⟨a, o, ws, rfl, hH, k _ _ M1 H1 ?_ m f q⟩
  have ek : kvs.map (fun kv => keyV kv.1) = ws.map fun kv => keyV kv.1 := by
    have := congrArg (List.map keyV) hk
    rw [List.map_map, List.map_map] at this
    exact this.symm
  rw [ek]
  refine jrel_of (f := fun H vs => H a = some (twO o ws) ∧ vs = ws.map fun p => kV p.1) (fun M' H' m' _ z => ⟨_, ⟨(m' a _ z).1, rfl⟩, isL_map (fun p => ii_keyV p.1) ws⟩) (fun i H vs y h e => ?_) fun i H vs h e => ?_
  · obtain ⟨h, rfl⟩ := h
    rw [List.getElem?_map] at e
    cases q : ws[i]? with
    | none => rw [q] at e; cases e
    | some p =>
      rw [q] at e
      cases e
      obtain ⟨hi, _⟩ := List.getElem?_eq_some_iff.mp q
      refine ⟨⟨h, hi⟩, fun y H' z => ?_⟩
      obtain ⟨rfl, k, v, e1, rfl⟩ := z
      rw [q] at e1
      cases e1
      exact ⟨rfl, rfl⟩
  · obtain ⟨h, rfl⟩ := h
    exact ⟨h, by simpa using e⟩
theorem di_itm {elts : List Expr} {kk : Nat} (h : DE g x te) (hb : attributeBase x "items" g.X.env (eval x g.X.env) = eval x g.X.env) (hl : (apos.endLine == cpos.line) = true) : DI g (.Tuple elts kk tpos) (.Call (.Attribute x "items" apos) [] [] cpos) (diItm te) := by
  refine ⟨⟨_, pi_i2 h.pe hb hl, fun σ H e M R RV sl mr fr q k => ?_⟩⟩
  refine low_start sl mr fr q fun v d M1 H1 i m f q => ?_
  obtain ⟨a, o, ws, kvs, rfl, hM, q⟩ := q
  rw [is_ref] at i
  subst i
  obtain ⟨hH, hk, l⟩ := m a _ hM
  have hn : ws.length = kvs.length := by have := congrArg List.length hk; simpa using this
  refine ⟨a, o, ws, rfl, hH, k _ _ M1 H1 ?_ m f q⟩
  refine jrel_new (ts := kvs.map fun kv => [keyV kv.1, kv.2]) (f := fun H vss => H a = some (twO o ws) ∧ vss = ws.map fun p => [kV p.1, p.2]) rfl (fun M' H' m' _ z => ⟨_, ⟨(m' a _ z).1, rfl⟩, by simp [hn], fun i t e => ?_⟩) (fun i H vss vs h e => ?_) fun i H vss h e => ?_
  · obtain ⟨_, _, l'⟩ := m' a _ z
    rw [List.getElem?_map] at e
    obtain ⟨kv, e1, rfl⟩ := Option.map_eq_some_iff.mp e
    obtain ⟨v, e2, i2⟩ := l'.get (i := i) (by rw [List.getElem?_map, e1]; rfl)
    rw [List.getElem?_map] at e2
    obtain ⟨w, e3, rfl⟩ := Option.map_eq_some_iff.mp e2
    have e4 : w.1 = kv.1 := by
      have := congrArg (·[i]?) hk
      simp only [List.getElem?_map, e1, e3, Option.map_some, Option.some.injEq] at this
      exact this
    refine ⟨[kV w.1, w.2], by rw [List.getElem?_map, e3]; rfl, ?_⟩
    rw [← e4]
    exact IsL.mk (ii_keyV w.1) (IsL.mk i2 (isL_nil.mpr rfl))
  · obtain ⟨h, rfl⟩ := h
    rw [List.getElem?_map] at e
    obtain ⟨w, e3, rfl⟩ := Option.map_eq_some_iff.mp e
    obtain ⟨hi, _⟩ := List.getElem?_eq_some_iff.mp e3
    refine ⟨⟨h, hi⟩, fun y H' z => ?_⟩
    obtain ⟨T, k, v, e1, rfl, n, rfl⟩ := z
    rw [e3] at e1
    cases e1
    exact ⟨T, rfl, n, rfl⟩
  · obtain ⟨h, rfl⟩ := h
    exact ⟨h, by simpa using e⟩
end
end DL

namespace DL
open PySem PySem.Spec PyProof.Rows L2
inductive CD where
  | non | bl (b : Bool) | int (i : Int) | str (s : Str)
  deriving DecidableEq
def CD.d : CD → D
  | .non => .non
  | .bl b => .bl b
  | .int i => .int i
  | .str s => .str s
inductive BF where
  | abs | len | min | max | all | any | sum | sorted | repr | isi
  deriving DecidableEq
inductive BT where
  | int | tuple | list | dict
  deriving DecidableEq
inductive BM where
  | join | upper | append | extend | pop | get | setd | upd | setdT | index
  deriving DecidableEq
def BF.nm : BF → String
  | .abs => "abs" | .len => "len" | .min => "min" | .max => "max" | .all => "all" | .any => "any" | .sum => "sum" | .sorted => "sorted" | .repr => "repr" | .isi => "isinstance"
def BF.rd : BF → RnD
  | .abs => rAbs | .len => rLenD | .min => rMin2 | .max => rMax2 | .all => rBools fun bs => bs.all id | .any => rBools fun bs => bs.any id | .sum => rSumD | .sorted => rSortedD | .repr => rRepr | .isi => rIsiD
def BF.rt : BF → RtD
  | .len => tLen | .all => tBools fun bs => bs.all id | .any => tBools fun bs => bs.any id | .sum => tSum | _ => fun _ _ _ => False
def BT.nm : BT → String
  | .int => "int" | .tuple => "tuple" | .list => "list" | .dict => "dict"
def BT.rd : BT → RnD
  | .int => rInt | .tuple => rTuple | .list => rList | .dict => rDict
def BT.rt : BT → RtD
  | .tuple => tTuple | _ => fun _ _ _ => False
def BM.nm : BM → String
  | .join => "join" | .upper => "upper" | .append => "append" | .extend => "extend" | .pop => "pop" | .get => "get" | .setd => "setdefault" | .upd => "update" | .setdT => "setdefault" | .index => "index"
def BM.ty : BM → String
  | .join => "str" | .upper => "str" | .get => "dict" | .setd => "dict" | .upd => "dict" | .setdT => "dict" | _ => "list"
def BM.id : BM → String
  | .join => "str.join" | .upper => "str.upper" | .append => "list.append" | .extend => "list.extend" | .pop => "list.pop" | .get => "dict.get" | .setd => "dict.setdefault" | .upd => "dict.update" | .setdT => "dict.setdefault" | .index => "list.index"
def BM.rd : BM → RmD
  | .join => mJoin | .upper => mUpper | .append => mAppend | .extend => mExtend | .pop => mPop | .get => mGet | .setd => mSetd | .upd => mUpd | .setdT => mSetdT | .index => mIndex
def dMulS : R2D := fun x y M Q => match x, y with | .str s, .int n => MulOk s n ∧ Q (.str (Txt.mul s n)) M | _, _ => False
theorem opd_mulS {X : Cx} : OpD X (binaryOp .Mult) dMulS := by
  refine ⟨fun x y H Q => ∃ s n, x = .str s ∧ y = .int n ∧ MulOk s n ∧ Q (.str (Txt.mul s n)) H, ?_, fun M H Mo Ho x y a b Q QV m f i j fin q => ?_⟩
  · intro pins s σ H x y v u Q I rx ry h
    obtain ⟨i, j, rfl, rfl, hz, q⟩ := h
    obtain ⟨t, rfl⟩ := rx
    obtain ⟨t', rfl⟩ := ry
    exact PySem.SB.mul hz fun t' k => ⟨.str (Txt.mul i j), H, I.tok _, ⟨_, rfl⟩, q⟩
  · cases a with
    | str k => cases b with
      | int l =>
        rw [is_str] at i
        rw [is_int] at j
        exact ⟨k, l, i, j, q.1, fin _ _ _ _ ii_str m f q.2⟩
      | _ => exact q.elim
    | _ => exact q.elim
def dMulT2 : R2D := fun x y M Q => match x, y with | .tup xs, .int k => xs ≠ [] ∧ 2 ≤ k ∧ k ≤ 1000 ∧ xs.length ≤ 1000 ∧ Q (.tup (List.replicate k.toNat xs).flatten) M | _, _ => False
theorem isL_repl {K : PySem.W.Frag} {H : Hp} {ds : List D} {vs : List V} (l : IsL K H ds vs) : ∀ n : Nat, IsL K H (List.replicate n ds).flatten (List.replicate n vs).flatten
  | 0 => isL_nil.mpr rfl
  | n + 1 => by
    rw [List.replicate_succ, List.replicate_succ, List.flatten_cons, List.flatten_cons]
    exact l.append (isL_repl l n)
theorem opd_mulT2 {X : Cx} : OpD X (binaryOp .Mult) dMulT2 := by
  refine ⟨_, op_repT, fun M H Mo Ho x y a b Q QV m f i j fin q => ?_⟩
  cases a with
  | tup xs =>
    cases b with
    | int k =>
      rw [is_tup] at i
      rw [is_int] at j
      obtain ⟨l, vs, rfl, h1, l1⟩ := i
      obtain ⟨h2, h3, h4, h5, q⟩ := q
      refine ⟨l, k, vs, rfl, j, SqT.of h1, fun e => h2 ?_, h3, h4, by rw [l1.length]; exact h5, fin.newT m f (isL_repl l1 _) q⟩
      subst e
      cases xs with
      | nil => rfl
      | cons => rw [isL_cons] at l1; obtain ⟨_, _, e, _⟩ := l1; cases e
    | _ => exact q.elim
  | _ => exact q.elim
def dMul01 : R2D := fun x y M Q => match x, y with | .tup xs, .int k => xs ≠ [] ∧ ((k = 1 ∧ Q (.tup xs) M) ∨ (k = 0 ∧ Q (.tup []) M)) | _, _ => False
theorem opd_mul01 {X : Cx} : OpD X (binaryOp .Mult) dMul01 := by
  refine ⟨_, op_mul01, fun M H Mo Ho x y a b Q QV m f i j fin q => ?_⟩
  cases a with
  | tup xs =>
    cases b with
    | int k =>
      have i0 := i
      rw [is_tup] at i
      rw [is_int] at j
      obtain ⟨l, vs, rfl, h1, l1⟩ := i
      obtain ⟨ne, q⟩ := q
      refine ⟨l, vs, rfl, SqT.of h1, ?_⟩
      rcases q with ⟨rfl, q⟩ | ⟨rfl, q⟩
      · exact .inl ⟨j, fin _ _ _ _ i0 m f q⟩
      · refine .inr ⟨j, fun e => ne ?_, fin.newT m f (isL_nil.mpr rfl) q⟩
        subst e
        cases xs with
        | nil => rfl
        | cons => rw [isL_cons] at l1; obtain ⟨_, _, e, _⟩ := l1; cases e
    | _ => exact q.elim
  | _ => exact q.elim
def dMulT : R2D := fun x y M Q => match x, y with | .tup xs, .int k => xs ≠ [] ∧ 0 ≤ k ∧ k ≤ 1000 ∧ xs.length ≤ 1000 ∧ Q (.tup (List.replicate k.toNat xs).flatten) M | _, _ => False
theorem opd_mulT {X : Cx} : OpD X (binaryOp .Mult) dMulT := by
  refine OpD.imp (opd_mul01.or opd_mulT2) fun x y M Q q => ?_
  cases x with
  | tup xs =>
    cases y with
    | int k =>
      obtain ⟨h1, h2, h3, h4, q⟩ := q
      by_cases z : k = 0
      · subst z; exact .inl ⟨h1, .inr ⟨rfl, q⟩⟩
      by_cases z1 : k = 1
      · subst z1
        refine .inl ⟨h1, .inl ⟨rfl, ?_⟩⟩
        have e : (List.replicate (1 : Int).toNat xs).flatten = xs := by
          show (List.replicate 1 xs).flatten = xs
          simp
        rw [e] at q
        exact q
      · exact .inr ⟨h1, by omega, h3, h4, q⟩
    | _ => exact q.elim
  | _ => exact q.elim
def dMulA : R2D := fun x y M Q => match x with
  | .ref _ => dMulL x y M Q
  | .str _ => dMulS x y M Q
  | .tup _ => dMulT x y M Q
  | _ => dMulI x y M Q
def CPowG (i j : Int) : Prop := 0 ≤ j ∧ ((i.natAbs.log2 + 1 : Nat) : Int) * j ≤ 2 ^ 27
theorem op_powG {X : Cx} : OpR X (binaryOp .Pow) (rI CPowG fun i j => .int (i ^ j.toNat)) := opI fun i j _ _ _ _ _ hc q => by
  refine pow_int hc.1 (Int.le_trans (Int.mul_le_mul_of_nonneg_right ?_ hc.1) hc.2) q
  have : Builtin.Int.intBits i ≤ i.natAbs.log2 + 1 := by
    unfold Builtin.Int.intBits
    split <;> omega
  exact Int.ofNat_le.mpr this
def boR : Operator → R2D
  | .Add => dAdd
  | .Sub => dSub
  | .Mult => dMulA
  | .FloorDiv => dFdiv
  | .Mod => dMod
  | .Pow => dI CPowG fun i j => .int (i ^ j.toNat)
  | _ => fun _ _ _ _ => False
def coR : CmpOp → R2D
  | .Eq => dEq
  | .NotEq => dNe
  | .Lt => dLt
  | .LtE => dIB fun i j => decide (i ≤ j)
  | .Gt => dIB fun i j => decide (j < i)
  | .GtE => dIB fun i j => decide (j ≤ i)
  | .Is => dIs false
  | .IsNot => dIs true
  | .In => dIn false
  | .NotIn => dIn true
mutual
inductive IG where
  | nm (i : Nat)
  | tp (gs : IGs)
  | st (i j : Nat)
inductive IGs where
  | nil
  | cons (g : IG) (r : IGs)
end
mutual
def IG.slots : IG → List Nat
  | .nm i => [i]
  | .tp gs => IGs.slots gs
  | .st i j => [i, j]
def IGs.slots : IGs → List Nat
  | .nil => []
  | .cons g r => IG.slots g ++ IGs.slots r
end
mutual
def wG : IG → DTG
  | .nm i => dgName i
  | .tp gs => dgTup (wGs gs)
  | .st i j => dgStar i j
def wGs : IGs → DTGs
  | .nil => dgNil
  | .cons g r => dgCons (wG g) (wGs r)
end
mutual
inductive IE where
  | sl (i : Nat)
  | lit (c : CD)
  | gc (c : CD)
  | gty (T : BTy)
  | tup (es : IEs)
  | lst (es : IEs)
  | bin (o : Operator) (a b : IE)
  | neg (a : IE)
  | cmp (o : CmpOp) (a b : IE)
  | chain (o o' : CmpOp) (a b c : IE)
  | andE (a b : IE)
  | orE (a b : IE)
  | one (a : IE)
  | nt (a : IE)
  | ife (c a b : IE)
  | ix (a i : IE)
  | sli (a : IE) (lo hi : IO)
  | cb (f : BF) (a : IE) (es : IEs)
  | ct (f : BT) (a : IE) (es : IEs)
  | tb (f : BF) (l : IE)
  | tt (f : BT) (l : IE)
  | cal (f : Nat) (es ks : IEs)
  | mth (f ci : Nat) (m : Str) (o : IE) (es ks : IEs)
  | fld (ci : Nat) (f : Str) (o : IE)
  | fz (a : IE)
  | fzK (a : IE)
  | dct (d : IDs)
  | lcF (l : IE)
  | bad
  | slst (a : IE) (lo hi st : IO)
  | revX (a : IE) (lo hi st : IO)
  | lenK (a : IE)
  | srS (a : IE)
  | rgE (tp : Bool) (a : IE)
  | eqO (neg : Bool) (i ci : Nat) (cn : Str) (a b : IE)
  | lnO (i ci : Nat) (a : IE)
  | isC (ci : Nat) (a : IE)
  | lkE (a : IE)
  | dc (own : List (Str × Nat)) (g : IG) (it : II) (cs : IO) (k e : IE)
  | dcT (own : List (Str × Nat)) (g : IG) (it : II) (cs : IO) (k e : IE)
  | srT (a : IE)
  | newK
  | newT
  | ttX (l : IE)
  | ctX (a : IE)
  | ctK (a : IE)
  | tupX (es : IEs)
  | catX (a b : IE)
  | itX (o : IE)
  | lz (a b : IE)
  | dz (a b : IE)
  | dc2 (own : List (Str × Nat)) (vs1 : List Nat) (g : IG) (it : II) (cs : IO) (g1 : IG) (it1 : II) (cs1 : IO) (k e : IE)
  | lenS (own : List (Str × Nat)) (g : IG) (it : II) (cs : IO) (e : IE)
  | srI (own : List (Str × Nat)) (g : IG) (it : II) (cs : IO) (e : IE)
  | mt (m : BM) (o : IE) (a : IE) (es : IEs)
  | mt0 (m : BM) (o : IE)
  | lc (own : List (Str × Nat)) (g : IG) (it : II) (cs : IO) (e : IE)
  | lc2 (own : List (Str × Nat)) (vs1 : List Nat) (g : IG) (it : II) (cs : IO) (g1 : IG) (it1 : II) (cs1 : IO) (e : IE)
inductive IEs where
  | nil
  | cons (a : IE) (r : IEs)
inductive IDs where
  | nil
  | cons (a b : IE) (r : IDs)
inductive IO where
  | no
  | yes (a : IE)
inductive II where
  | any (a : IE)
  | rg1 (a : IE)
  | rg2 (a b : IE)
  | en (a : IE)
  | zp (a b : IE)
  | zpR (a b : IE)
  | ky (a : IE)
  | itm (a : IE)
/-- a type as a value -/
inductive BTy where
  | str | int | tuple | bool | list | dict
end
def BTy.nm : BTy → String
  | .str => "str" | .int => "int" | .tuple => "tuple" | .bool => "bool" | .list => "list" | .dict => "dict"
def IEs.len : IEs → Nat
  | .nil => 0
  | .cons _ r => r.len + 1
structure Tb where
  g : Nat → DSp := fun _ _ _ _ _ => False
  m : Nat → DSp := fun _ _ _ _ _ => False
  c : Nat → Addr := fun _ => 0
section
variable (S : Tb)
mutual
/-- the value; the test; a new list -/
def wE : IE → DTE
  | .sl i => dSlot i
  | .lit c => dC c.d
  | .gc c => dC c.d
  | .gty T => dC (.ty T.nm)
  | .tup es => dTup (wEs es)
  | .lst es => dLst (wEs es)
  | .bin o a b => dBin (boR o) (wE a) (wE b)
  | .neg a => dNeg (wE a)
  | .cmp o a b => dBin (coR o) (wE a) (wE b)
  | .chain o o' a b c => dChain (coR o) (coR o') (wE a) (wE b) (wE c)
  | .andE a b => dAnd (wE a) (wE b)
  | .orE a b => dOr (wE a) (wE b)
  | .one a => wE a
  | .nt a => dNot (wE a)
  | .ife c a b => dIfE (wT c) (wE a) (wE b)
  | .ix a i => dBin dIx (wE a) (wE i)
  | .sli a lo hi => dSlice (wE a) (wO lo) (wO hi)
  | .cb f a es => dCall f.rd (dCons (wE a) (wEs es))
  | .ct f a es => dCall f.rd (dCons (wE a) (wEs es))
  | .tb f l => dTmp f.rt (wL l)
  | .tt f l => dTmp f.rt (wL l)
  | .cal f es ks => dFnN (S.g f) es.len ks.len (wEs es) (wEs ks)
  | .mth f ci m o es ks => dMth (S.c ci) m (S.m f) es.len ks.len (wE o) (wEs es) (wEs ks)
  | .fld ci f o => dFld (S.c ci) f (wE o)
  | .fz a => dFz (wE a)
  | .fzK a => dFzK (wE a)
  | .dct d => dDisp (wDs d)
  | .lcF l => dLcF (wL l)
  | .bad => dBadE
  | .slst a lo hi st => dSliS (wE a) (wO lo) (wO hi) (wO st)
  | .revX a lo hi st => dRevX (wE a) (wO lo) (wO hi) (wO st)
  | .lenK a => dLenK (wE a)
  | .srS a => dSrtS (wE a)
  | .rgE tp a => if tp then dTpR (wE a) else dLsR (wE a)
  | .eqO neg i ci _ a b => dEqO neg (S.c ci) (S.m i) (wE a) (wE b)
  | .lnO i ci a => dLnO (S.c ci) (S.m i) (wE a)
  | .isC ci a => dCall (rIsiO (S.c ci)) (dCons (wE a) (dCons (dC (.ref (S.c ci))) dNil))
  | .lkE a => dLkE (wE a)
  | .dc own g it cs k e => dNewD (dDc (wI it) (wG g) (wC cs) (wE k) (wE e) (own.map (·.2)))
  | .dcT own g it cs k e => dNewDT (dDcT (wI it) (wG g) (wC cs) (wE k) (wE e) (own.map (·.2)))
  | .srT a => dCall rSortedT (dCons (wE a) dNil)
  | .newK => dNewK
  | .newT => dNewT
  | .ttX l => dTmp tTupleX (wL l)
  | .ctX a => dCall rTupleX (dCons (wE a) dNil)
  | .ctK a => dCall rTupleK (dCons (wE a) dNil)
  | .tupX es => dTupX (wEs es)
  | .catX a b => dBin dAddX (wE a) (wE b)
  | .itX o => dItX (wE o)
  | .lz a b => dLz (dCons (wE a) (dCons (wE b) dNil))
  | .dz a b => dDz (dCons (wE a) (dCons (wE b) dNil))
  | .dc2 own vs1 g it cs g1 it1 cs1 k e => dNewD (dDc2 (wI it) (wG g) (wC cs) (wI it1) (wG g1) (wC cs1) (wE k) (wE e) (own.map (·.2)) vs1)
  | .lenS own g it cs e => dLenS (dSc (wI it) (wG g) (wC cs) (wE e) (own.map (·.2)))
  | .srI own g it cs e => dSrI (dScI (wI it) (wG g) (wC cs) (wE e) (own.map (·.2)))
  | .mt m o a es => dMt m.ty m.rd (wE o) (dCons (wE a) (wEs es))
  | .mt0 m o => dMt m.ty m.rd (wE o) dNil
  | .lc own g it cs e => dNew (dLc (wI it) (wG g) (wC cs) (wE e) (own.map (·.2)))
  | .lc2 own vs1 g it cs g1 it1 cs1 e => dNew (dLc2 (wI it) (wG g) (wC cs) (wI it1) (wG g1) (wC cs1) (wE e) (own.map (·.2)) vs1)
def wT : IE → DTT
  | .cmp o a b => dTest (dBin (coR o) (wE a) (wE b))
  | .chain o o' a b c => dTest (dChain (coR o) (coR o') (wE a) (wE b) (wE c))
  | .andE a b => dAndT (wT a) (wT b)
  | .orE a b => dOrT (wT a) (wT b)
  | .one a => wT a
  | .nt a => dNotT (wT a)
  | .sl i => dTruth (dSlot i)
  | .lit c => dTruth (dC c.d)
  | .gc c => dTruth (dC c.d)
  | .ix a i => dTruth (dBin dIx (wE a) (wE i))
  | .sli a lo hi => dTruth (dSlice (wE a) (wO lo) (wO hi))
  | .cb f a es => dTruth (dCall f.rd (dCons (wE a) (wEs es)))
  | .ct f a es => dTruth (dCall f.rd (dCons (wE a) (wEs es)))
  | .tb f l => dTruth (dTmp f.rt (wL l))
  | .tt f l => dTruth (dTmp f.rt (wL l))
  | .cal f es ks => dTruth (dFnN (S.g f) es.len ks.len (wEs es) (wEs ks))
  | .mth f ci m o es ks => dTruth (dMth (S.c ci) m (S.m f) es.len ks.len (wE o) (wEs es) (wEs ks))
  | .fld ci f o => dTruth (dFld (S.c ci) f (wE o))
  | .lenK a => dTruth (dLenK (wE a))
  | .eqO neg i ci _ a b => dTest (dEqO neg (S.c ci) (S.m i) (wE a) (wE b))
  | .lnO i ci a => dTruth (dLnO (S.c ci) (S.m i) (wE a))
  | .isC ci a => dTruth (dCall (rIsiO (S.c ci)) (dCons (wE a) (dCons (dC (.ref (S.c ci))) dNil)))
  | .mt m o a es => dTruth (dMt m.ty m.rd (wE o) (dCons (wE a) (wEs es)))
  | .mt0 m o => dTruth (dMt m.ty m.rd (wE o) dNil)
  | _ => fun _ _ _ _ => False
def wL : IE → DTA
  | .lc own g it cs e => dLc (wI it) (wG g) (wC cs) (wE e) (own.map (·.2))
  | .lc2 own vs1 g it cs g1 it1 cs1 e => dLc2 (wI it) (wG g) (wC cs) (wI it1) (wG g1) (wC cs1) (wE e) (own.map (·.2)) vs1
  | _ => fun _ _ _ _ => False
def wEs : IEs → DTA
  | .nil => dNil
  | .cons a r => dCons (wE a) (wEs r)
def wDs : IDs → List (DTE × DTE)
  | .nil => []
  | .cons a b r => (wE a, wE b) :: wDs r
def wO : IO → DTO
  | .no => dNoPart
  | .yes a => dPart (wE a)
def wC : IO → DTT
  | .no => dYes
  | .yes a => wT a
def wI : II → DTI
  | .any a => diAny (wE a)
  | .rg1 a => diRng1 (dCons (wE a) dNil)
  | .rg2 a b => diRng2 (dCons (wE a) (dCons (wE b) dNil))
  | .en a => diEnum (dCons (wE a) dNil)
  | .zp a b => diZip (dCons (wE a) (dCons (wE b) dNil))
  | .zpR a b => diZipR (dCons (wE a) (dCons (wE b) dNil))
  | .ky a => diKy (wE a)
  | .itm a => diItm (wE a)
end
mutual
inductive IS where
  | ex (a : IE)
  | asg (g : IG) (a : IE)
  | aug (add : Bool) (i : Nat) (a : IE)
  | sto (o i a : IE)
  | sto2 (o i o2 i2 a : IE)
  | hed (o c a : IE)
  | sfl (ci : Nat) (f : Str) (o a : IE)
  | bad
  | par (i j : Nat) (a b : IE)
  | ret (a : IE)
  | retN
  | iff (c : IE) (a b : ISs)
  | fo (g : IG) (it : II) (b : ISs)
  | wh (c : IE) (b : ISs)
  | pas | brk | cnt
  | lkS (s : IS)
inductive ISs where
  | nil
  | cons (s : IS) (r : ISs)
  | frz (i : Nat) (r : ISs)
  | frzK (i : Nat) (r : ISs)
  | fgt (r : ISs)
end
mutual
def wS : IS → DTS
  | .ex a => dDrop (wE S a)
  | .asg g a => dAsg (wE S a) (wG g)
  | .aug add i a => dAug add i (wE S a)
  | .sto o i a => dAsg (wE S a) (dgSub (wE S o) (wE S i))
  | .sto2 o i o2 i2 a => dAsg (wE S a) (dgTup2 (dgCons (dgSub (wE S o) (wE S i)) (dgCons (dgSub (wE S o2) (wE S i2)) dgNil)))
  | .hed o c a => dAsg (wE S a) (dgHead (wE S o) (dPart (wE S c)))
  | .sfl ci f o a => dSfl (S.c ci) f (wE S o) (wE S a)
  | .bad => dBadS
  | .par i j a b => dPar i j (wE S a) (wE S b)
  | .ret a => dRet (wE S a)
  | .retN => dRetN
  | .iff c a b => dIf (wT S c) (wSs a) (wSs b)
  | .fo g it b => dFor (wI S it) (wG g) (wSs b)
  | .wh c b => dWhile (wT S c) (wSs b)
  | .pas => dNext
  | .brk => fun D _ e M => D.bk e M
  | .cnt => fun D _ e M => D.ct e M
  | .lkS s => dLkS (wS s)
def wSs : ISs → DTS
  | .nil => dNext
  | .cons s r => dSeq (wS s) (wSs r)
  | .frz i r => dFrz i (wSs r)
  | .frzK i r => dFrzK i (wSs r)
  | .fgt r => dForget (wSs r)
end
end
end DL

namespace DL
open PySem PySem.Spec PyProof.Rows L2
theorem three_of {x y z : Str} {px py pz pt pt2 : Pos} {kt k2 : Nat} {a b d : Expr} {env : PySem.Env} (hk : env.scope.kind = .function) (hx : env.scope.names.lookup x = some .local) (hy : env.scope.names.lookup y = some .local) (hz : env.scope.names.lookup z = some .local) (hl : (py.line == px.line) = true) (hl2 : (pz.line == px.line) = true) (hne : x ≠ y) (hne2 : x ≠ z) (hne3 : y ≠ z)
    (sa : isStar a = false) (sb : isStar b = false) (sd : isStar d = false) (hf : (foldedForSure 8 a && (foldedForSure 8 b && foldedForSure 8 d)) = false) (hc : (constantsAlone 8 a && (constantsAlone 8 b && constantsAlone 8 d)) = false) :
    swappedStores [.Tuple [.Name x px, .Name y py, .Name z pz] kt pt] (.Tuple [a, b, d] k2 pt2) env = pure (some [x, y, z]) := by
  have h1 : env.kindOf x = some .local := hx
  have h2 : env.kindOf y = some .local := hy
  have h3 : env.kindOf z = some .local := hz
  have hf' : [a, b, d].all (foldedForSure 8) = false := by simpa using hf
  have hc' : [a, b, d].all (constantsAlone 8) = false := by simpa using hc
  have hl' : py.line = px.line := by simpa using hl
  have hl2' : pz.line = px.line := by simpa using hl2
  have ne1 : y ≠ x := fun e => hne e.symm
  have ne2 : z ≠ x := fun e => hne2 e.symm
  have ne3 : z ≠ y := fun e => hne3 e.symm
  have b1 : (y == x) = false := beq_eq_false_iff_ne.mpr ne1
  have b2 : (z == x) = false := beq_eq_false_iff_ne.mpr ne2
  have b3 : (z == y) = false := beq_eq_false_iff_ne.mpr ne3
  unfold swappedStores
  simp [kind_of hk, h1, h2, h3, Expr.pos, hl', hl2', List.eraseDups_cons, ne1, ne2, ne3, b1, b2, b3, star_match, sa, sb, sd, hf', hc', List.filterMap_cons]
  intro z
  rcases z with z | z | z
  · cases a <;> first | (exact nomatch (show false = true from z)) | cases sa
  · cases b <;> first | (exact nomatch (show false = true from z)) | cases sb
  · cases d <;> first | (exact nomatch (show false = true from z)) | cases sd
theorem stores_mixed {x : Str} {px pt pt2 : Pos} {ts : List Expr} {kt k2 : Nat} {v : Expr} {env : PySem.Env} : swappedStores [.Tuple [.Name x px, .Tuple ts k2 pt2] kt pt] v env = pure none := by
  unfold swappedStores
  cases v with
  | Tuple vs k p =>
    show (if _ then _ else _) = _
    split
    · rfl
    · show (if _ then _ else _) = _
      split
      · rfl
      · refine if_pos ?_
        rw [Bool.or_eq_true]
        left
        by_cases hx : env.kindOf x = some .local
        · simp [List.filterMap_cons, hx, Expr.pos]
        · simp [List.filterMap_cons, hx, Expr.pos]
  | _ => rfl
section
variable {g : Gd} {a b d : Expr} {ta tb td : DTE}
theorem ds_par3 {i j l : Nat} {x y z : Str} {px py pz pt pt2 pos : Pos} {kt k2 : Nat} (hc : g.X.calm = true) (hN : g.X.N.Nodup) (hi : g.X.N[i]? = some x) (hj : g.X.N[j]? = some y) (hl : g.X.N[l]? = some z) (hij : i ≠ j) (hil : i ≠ l) (hjl : j ≠ l)
    (hx : g.X.env.scope.names.lookup x = some .local) (hy : g.X.env.scope.names.lookup y = some .local) (hz : g.X.env.scope.names.lookup z = some .local) (ha : DE g a ta) (hb : DE g b tb) (hd : DE g d td) (sa : isStar a = false) (sb : isStar b = false) (sd : isStar d = false)
    (hw : swappedStores [.Tuple [.Name x px, .Name y py, .Name z pz] kt pt] (.Tuple [a, b, d] k2 pt2) g.X.env = pure (some [x, y, z])) :
    DS g (.Assign [.Tuple [.Name x px, .Name y py, .Name z pz] kt pt] (.Tuple [a, b, d] k2 pt2) pos) (dAsg (dTup (dCons ta (dCons tb (dCons td dNil)))) (dgTup (dgCons (dgName i) (dgCons (dgName j) (dgCons (dgName l) dgNil))))) := by
  obtain ⟨t', pa, ka⟩ := (da_cons ha (da_cons hb (da_cons hd da_nil sd) sb) sa).pa
  refine ⟨⟨_, ps_par3 hc hN hi hj hl hij hil hjl hx hy hz pa hw, fun P hP σ H e M D DV sl mr hp le q => ?_⟩⟩
  refine ka σ H e M (fun ds M2 => ds.length ≤ sizeLine ∧ dgTup (dgCons (dgName i) (dgCons (dgName j) (dgCons (dgName l) dgNil))) (.tup ds) e M2 D.nx g.E) _ sl mr (hP.base _ _ hp) q fun ds vs M2 H2 lv m f q => ?_
  obtain ⟨_, q⟩ := q
  match ds, q with
  | [d1, d2, d3], ⟨_, q⟩ =>
    obtain ⟨v1, w1, rfl, i1, lv⟩ := isL_cons.mp lv
    obtain ⟨v2, v3, rfl, i2, i3⟩ := isL_two lv
    exact ⟨v1, v2, v3, rfl, le.nx _ _ _ _ (SRel.set i3 l (SRel.set i2 j (SRel.set i1 i (sl.ext (f.ext mr))))) m (hP.step _ _ _ _ hp f) q⟩
  | [], q => exact q.elim
  | [_], q => exact q.elim
  | [_, _], q => exact q.elim
  | _ :: _ :: _ :: _ :: _, q => exact absurd q.1 (by simp)
end
end DL

namespace DL
open PySem PySem.Spec PyProof.Rows L2
structure Cc where
  sc : Scope
  N : List Str
  cals : List (Str × Nat × List Str)
  mths : List (Nat × Str × Nat × List Str)
  flds : List (Nat × Str)
  cs : List (Str × CD)
  cls : List (Nat × Str)
  blk : Bool
def Cc.into (c : Cc) (scope : Scope) : Cc := { c with sc := relS scope c.sc, blk := true }
def Cc.kd (c : Cc) (n : Str) : Option NameKind := c.sc.names.lookup n
def visB : Option NameKind → Bool
  | some .local => true
  | some .cell => true
  | some .free => true
  | _ => false
def glB : Option NameKind → Bool
  | some .globalImplicit => true
  | _ => false
def slotB (c : Cc) (i : Nat) (n : Str) : Bool := decide (c.N[i]? = some n)
def okName (n : Str) : Bool := !(n == ("__debug__" : Str)) && !(n == ("__classdict__" : Str)) && !(n == ("__name__" : Str))
def litB : CD → Const → Bool
  | .non, .none => true
  | .bl b, .bool b' => b == b'
  | .int i, .int j => decide (i = j)
  | .str s, .str t => decide (s = t)
  | _, _ => false
def isLc : IE → Bool
  | .lc .. => true
  | .lc2 .. => true
  | _ => false
def isAny : II → Bool
  | .any _ => true
  | _ => false
mutual
def chkG : IG → Cc → Expr → Bool
  | .nm i, c, e => match e with
    | .Name n _ => slotB c i n && (match c.kd n with | some .local => true | some .cell => !c.blk | _ => false)
    | _ => false
  | .tp gs, c, e => match e with
    | .Tuple xs _ _ => chkGs gs c xs
    | _ => false
  | .st i j, c, e => match e with
    | .Tuple [.Name n _, .Starred (.Name m _) _] _ _ => (slotB c i n && (match c.kd n with | some .local => true | some .cell => !c.blk | _ => false)) && (slotB c j m && (match c.kd m with | some .local => true | some .cell => !c.blk | _ => false))
    | _ => false
def chkGs : IGs → Cc → List Expr → Bool
  | .nil, _, xs => match xs with | [] => true | _ => false
  | .cons g r, c, xs => match xs with
    | x :: ys => !isStar x && (chkG g c x && chkGs r c ys)
    | _ => false
end
mutual
def chkE : IE → Cc → Bool → Expr → Bool
  | .sl i, c, m, e => match e with
    | .Name n _ => slotB c i n && visB (c.kd n)
    | _ => false
  | .lit d, c, m, e => match e with
    | .Constant k _ _ => litB d k
    | _ => false
  | .gc d, c, m, e => match e with
    | .Name n _ => glB (c.kd n) && decide (c.cs.lookup n = some d)
    | _ => false
  | .gty T, c, m, e => match e with
    | .Name n _ => !m && (glB (c.kd n) && decide (n = (T.nm : Str)))
    | _ => false
  | .tup es, c, m, e => match e with
    | .Tuple xs _ _ => !m && chkEs es c xs
    | _ => false
  | .lst es, c, m, e => match e with
    | .List xs _ => !m && chkEs es c xs
    | _ => false
  | .bin o a b, c, m, e => match e with
    | .BinOp x op y _ => !m && (decide (op = o) && (chkE a c false x && chkE b c false y))
    | _ => false
  | .neg a, c, m, e => match e with
    | .UnaryOp .USub x _ => !m && chkE a c false x
    | _ => false
  | .cmp o a b, c, m, e => match e with
    | .Compare x [op] [y] _ => decide (op = o) && (!isSetD y && (chkE a c false x && chkE b c false y))
    | _ => false
  | .chain o o' a b d, c, m, e => match e with
    | .Compare x [op, op'] [y, z] _ => decide (op = o) && (decide (op' = o') && (!isSetD z && (chkE a c false x && (chkE b c false y && chkE d c false z))))
    | _ => false
  | .andE a b, c, m, e => match e with
    | .BoolOp .And (x :: y :: r) p => chkE a c m x && chkE b c m (.BoolOp .And (y :: r) p)
    | _ => false
  | .orE a b, c, m, e => match e with
    | .BoolOp .Or (x :: y :: r) p => chkE a c m x && chkE b c m (.BoolOp .Or (y :: r) p)
    | _ => false
  | .one a, c, m, e => match e with
    | .BoolOp _ [x] _ => chkE a c m x
    | _ => false
  | .nt a, c, m, e => match e with
    | .UnaryOp .Not x _ => chkE a c m x
    | _ => false
  | .ife t a b, c, m, e => match e with
    | .IfExp w x y _ => !m && (chkE t c true w && (chkE a c false x && chkE b c false y))
    | _ => false
  | .ix a i, c, m, e => match e with
    | .Subscript x y _ => !isSlice y && (chkE a c false x && chkE i c false y)
    | _ => false
  | .sli a lo hi, c, m, e => match e with
    | .Subscript x (.Slice l h none _) _ => chkE a c false x && (chkO lo c l && chkO hi c h)
    | _ => false
  | .cb f a es, c, m, e => match e with
    | .Call (.Name n _) (x :: xs) [] _ => glB (c.kd n) && (decide (n = (f.nm : Str)) && (!isStar x && (chkE a c false x && chkEs es c xs)))
    | _ => false
  | .ct f a es, c, m, e => match e with
    | .Call (.Name n _) (x :: xs) [] _ => glB (c.kd n) && (decide (n = (f.nm : Str)) && (!isStar x && (chkE a c false x && chkEs es c xs)))
    | _ => false
  | .tb f l, c, m, e => match e with
    | .Call (.Name n _) [x] [] _ => glB (c.kd n) && (decide (n = (f.nm : Str)) && (!isStar x && (chkE l c false x && isLc l)))
    | _ => false
  | .tt f l, c, m, e => match e with
    | .Call (.Name n _) [x] [] _ => glB (c.kd n) && (decide (n = (f.nm : Str)) && (!isStar x && (chkE l c false x && isLc l)))
    | _ => false
  | .cal f es ks, c, m, e => match e with
    | .Call (.Name n _) xs kws _ => glB (c.kd n) && (decide (c.cals[f]? = some (n, xs.length, kws.filterMap (·.arg))) && ((match xs with | x :: _ => !isStar x | [] => true) && (chkEs es c xs && chkKs ks c kws)))
    | _ => false
  | .mth f ci mm o es ks, c, m, e => match e with
    | .Call (.Attribute x n q) xs kws p => decide (n = mm) && (noSup x && ((q.endLine == p.line) && (decide (xs.length + kws.length + 1 < 30) && (decide (c.mths[f]? = some (ci, mm, xs.length, kws.filterMap (·.arg))) && ((match xs with | x :: _ => !isStar x | [] => true) && (chkE o c false x && (chkEs es c xs && chkKs ks c kws)))))))
    | _ => false
  | .fld ci f o, c, m, e => match e with
    | .Attribute x n _ => decide (n = f) && (noSup x && (c.flds.contains (ci, f) && chkE o c false x))
    | _ => false
  | .fz a, c, m, e => !m && (notComp e && chkE a c false e)
  | .fzK a, c, m, e => !m && (notComp e && chkE a c false e)
  | .dct d, c, m, e => match e with
    | .Dict keys values _ => !m && (!keys.isEmpty && (decide (keys.length ≤ 15) && chkDs d c keys values))
    | _ => false
  | .lcF l, c, m, e => !m && (isLc l && chkE l c false e)
  | .bad, _, m, _ => !m
  | .slst a lo hi st, c, m, e => match e with
    | .Subscript x (.Slice l h (some s) _) _ => !m && (chkE a c false x && (chkO lo c l && (chkO hi c h && chkO st c (some s))))
    | _ => false
  | .revX a lo hi st, c, m, e => match e with
    | .Subscript x (.Slice l h (some s) _) _ => !m && (chkE a c false x && (chkO lo c l && (chkO hi c h && chkO st c (some s))))
    | _ => false
  | .lenK a, c, m, e => match e with
    | .Call (.Name n _) [.Call (.Name n2 _) [x] [] _] [] _ => glB (c.kd n) && (glB (c.kd n2) && (decide (n = ("len" : Str)) && (decide (n2 = ("set" : Str)) && (!isStar x && chkE a c false x))))
    | _ => false
  | .srS a, c, m, e => match e with
    | .Call (.Name n _) [.Call (.Name n2 _) [x] [] _] [] _ => !m && (glB (c.kd n) && (glB (c.kd n2) && (decide (n = ("sorted" : Str)) && (decide (n2 = ("set" : Str)) && (!isStar x && chkE a c false x)))))
    | _ => false
  | .rgE tp a, c, m, e => match e with
    | .Call (.Name n _) [.Call (.Name n2 _) [x] [] _] [] _ => !m && (glB (c.kd n) && (glB (c.kd n2) && (decide (n = (if tp then "tuple" else "list" : Str)) && (decide (n2 = ("range" : Str)) && (!isStar x && chkE a c false x)))))
    | _ => false
  | .eqO neg i ci cn a b, c, m, e => match e with
    | .Compare x [op] [y] _ => decide (op = neOf neg) && (!isSetD y && (decide (c.mths[i]? = some (ci, ("__eq__" : Str), 1, [])) && (c.cls.contains (ci, cn) && (chkE a c false x && chkE b c false y))))
    | _ => false
  | .lnO i ci a, c, m, e => match e with
    | .Call (.Name n _) [x] [] _ => glB (c.kd n) && (decide (n = ("len" : Str)) && (decide (c.mths[i]? = some (ci, ("__len__" : Str), 0, [])) && (!isStar x && chkE a c false x)))
    | _ => false
  | .isC ci a, c, m, e => match e with
    | .Call (.Name n _) [x, .Name n2 _] [] _ => glB (c.kd n) && (glB (c.kd n2) && (decide (n = ("isinstance" : Str)) && (c.cls.contains (ci, n2) && (!isStar x && chkE a c false x))))
    | _ => false
  | .lkE a, c, m, e => !m && (notComp e && chkE a c false e)
  | .dc own g it cs k a, c, m, e => match e with
    | .DictComp kx vx [⟨tg, iter, ifs, as⟩] scope _ => !m && (decide (as = 0) && (blkC c.N c.sc scope own && (decide (∀ i ∈ IG.slots g, i ∈ own.map (·.2)) && (!isSetD iter && (chkI it c tg iter && (chkG g (c.into scope) tg && (chkC cs (c.into scope) ifs && (chkE k (c.into scope) false kx && chkE a (c.into scope) false vx))))))))
    | _ => false
  | .dcT own g it cs k a, c, m, e => match e with
    | .DictComp kx vx [⟨tg, iter, ifs, as⟩] scope _ => !m && (decide (as = 0) && (blkC c.N c.sc scope own && (decide (∀ i ∈ IG.slots g, i ∈ own.map (·.2)) && (!isSetD iter && (chkI it c tg iter && (chkG g (c.into scope) tg && (chkC cs (c.into scope) ifs && (chkE k (c.into scope) false kx && chkE a (c.into scope) false vx))))))))
    | _ => false
  | .srT a, c, m, e => match e with
    | .Call (.Name n _) [x] [] _ => !m && (glB (c.kd n) && (decide (n = ("sorted" : Str)) && (!isStar x && chkE a c false x)))
    | _ => false
  | .newK, _, m, e => match e with | .Dict [] [] _ => !m | _ => false
  | .newT, _, m, e => match e with | .Dict [] [] _ => !m | _ => false
  | .ttX l, c, m, e => match e with
    | .Call (.Name n _) [x] [] _ => !m && (glB (c.kd n) && (decide (n = ("tuple" : Str)) && (!isStar x && (chkE l c false x && isLc l))))
    | _ => false
  | .ctX a, c, m, e => match e with
    | .Call (.Name n _) [x] [] _ => !m && (glB (c.kd n) && (decide (n = ("tuple" : Str)) && (!isStar x && chkE a c false x)))
    | _ => false
  | .ctK a, c, m, e => match e with
    | .Call (.Name n _) [x] [] _ => !m && (glB (c.kd n) && (decide (n = ("tuple" : Str)) && (!isStar x && chkE a c false x)))
    | _ => false
  | .tupX es, c, m, e => match e with
    | .Tuple xs _ _ => !m && chkEs es c xs
    | _ => false
  | .catX a b, c, m, e => match e with
    | .BinOp x .Add y _ => !m && (chkE a c false x && chkE b c false y)
    | _ => false
  | .itX o, c, m, e => match e with
    | .Call (.Name n _) [.Call (.Attribute x n2 q) [] [] p] [] _ => !m && (glB (c.kd n) && (decide (n = ("tuple" : Str)) && (decide (n2 = ("items" : Str)) && (noSup x && ((q.endLine == p.line) && chkE o c false x)))))
    | _ => false
  | .lz a b, c, m, e => match e with
    | .Call (.Name n _) [.Call (.Name n2 _) [x, y] [] _] [] _ => !m && (glB (c.kd n) && (decide (n = ("list" : Str)) && (glB (c.kd n2) && (decide (n2 = ("zip" : Str)) && (!isStar x && (!isStar y && (chkE a c false x && chkE b c false y)))))))
    | _ => false
  | .dz a b, c, m, e => match e with
    | .Call (.Name n _) [.Call (.Name n2 _) [x, y] [] _] [] _ => !m && (glB (c.kd n) && (decide (n = ("dict" : Str)) && (glB (c.kd n2) && (decide (n2 = ("zip" : Str)) && (!isStar x && (!isStar y && (chkE a c false x && chkE b c false y)))))))
    | _ => false
  | .dc2 own vs g it cs g1 it1 cs1 k a, c, m, e => match e with
    | .DictComp kx vx [⟨tg, iter, ifs, as⟩, ⟨tg1, iter1, ifs1, as1⟩] scope _ => !m && (decide (as = 0) && (decide (as1 = 0) && (blkC c.N c.sc scope own && (decide (∀ i ∈ IG.slots g, i ∈ own.map (·.2)) && (decide (∀ i ∈ IG.slots g1, i ∈ vs) && (decide (∀ i ∈ vs, i ∈ own.map (·.2)) && (!isSetD iter && (!isSetD iter1 && (isAny it1 && (chkI it c tg iter && (chkG g (c.into scope) tg && (chkC cs (c.into scope) ifs &&
        (chkI it1 (c.into scope) tg1 iter1 && (chkG g1 (c.into scope) tg1 && (chkC cs1 (c.into scope) ifs1 && (chkE k (c.into scope) false kx && chkE a (c.into scope) false vx))))))))))))))))
    | _ => false
  | .lenS own g it cs a, c, m, e => match e with
    | .Call (.Name n _) [.SetComp el [⟨tg, iter, ifs, as⟩] scope _] [] _ => !m && (glB (c.kd n) && (decide (n = ("len" : Str)) && (decide (as = 0) && (blkC c.N c.sc scope own && (decide (∀ i ∈ IG.slots g, i ∈ own.map (·.2)) && (!isSetD iter && (chkI it c tg iter && (chkG g (c.into scope) tg && (chkC cs (c.into scope) ifs && chkE a (c.into scope) false el)))))))))
    | _ => false
  | .srI own g it cs a, c, m, e => match e with
    | .Call (.Name n _) [.SetComp el [⟨tg, iter, ifs, as⟩] scope _] [] _ => !m && (glB (c.kd n) && (decide (n = ("sorted" : Str)) && (decide (as = 0) && (blkC c.N c.sc scope own && (decide (∀ i ∈ IG.slots g, i ∈ own.map (·.2)) && (!isSetD iter && (chkI it c tg iter && (chkG g (c.into scope) tg && (chkC cs (c.into scope) ifs && chkE a (c.into scope) false el)))))))))
    | _ => false
  | .mt k o a es, c, m, e => match e with
    | .Call (.Attribute x n q) (y :: ys) [] p => decide (n = (k.nm : Str)) && (noSup x && ((q.endLine == p.line) && (decide (ys.length < 28) && (!isStar y && (chkE o c false x && (chkE a c false y && chkEs es c ys))))))
    | _ => false
  | .mt0 k o, c, m, e => match e with
    | .Call (.Attribute x n q) [] [] p => decide (n = (k.nm : Str)) && (noSup x && ((q.endLine == p.line) && chkE o c false x))
    | _ => false
  | .lc own g it cs a, c, m, e => match e with
    | .ListComp el [⟨tg, iter, ifs, as⟩] scope _ => !m && (decide (as = 0) && (blkC c.N c.sc scope own && (decide (∀ i ∈ IG.slots g, i ∈ own.map (·.2)) && (!isSetD iter && (chkI it c tg iter && (chkG g (c.into scope) tg && (chkC cs (c.into scope) ifs && chkE a (c.into scope) false el)))))))
    | _ => false
  | .lc2 own vs g it cs g1 it1 cs1 a, c, m, e => match e with
    | .ListComp el [⟨tg, iter, ifs, as⟩, ⟨tg1, iter1, ifs1, as1⟩] scope _ => !m && (decide (as = 0) && (decide (as1 = 0) && (blkC c.N c.sc scope own && (decide (∀ i ∈ IG.slots g, i ∈ own.map (·.2)) && (decide (∀ i ∈ IG.slots g1, i ∈ vs) && (decide (∀ i ∈ vs, i ∈ own.map (·.2)) && (!isSetD iter && (!isSetD iter1 && (isAny it1 && (chkI it c tg iter && (chkG g (c.into scope) tg && (chkC cs (c.into scope) ifs &&
        (chkI it1 (c.into scope) tg1 iter1 && (chkG g1 (c.into scope) tg1 && (chkC cs1 (c.into scope) ifs1 && chkE a (c.into scope) false el)))))))))))))))
    | _ => false
def chkEs : IEs → Cc → List Expr → Bool
  | .nil, _, xs => match xs with | [] => true | _ => false
  | .cons a r, c, xs => match xs with
    | x :: ys => !isStar x && (chkE a c false x && chkEs r c ys)
    | _ => false
def chkKs : IEs → Cc → List Keyword → Bool
  | .nil, _, xs => match xs with | [] => true | _ => false
  | .cons a r, c, xs => match xs with
    | ⟨some _, x, _⟩ :: ys => chkE a c false x && chkKs r c ys
    | _ => false
def chkDs : IDs → Cc → List (Option Expr) → List Expr → Bool
  | .nil, _, ks, vs => match ks, vs with | [], [] => true | _, _ => false
  | .cons a b r, c, ks, vs => match ks, vs with
    | some x :: ks, y :: vs => chkE a c false x && (chkE b c false y && chkDs r c ks vs)
    | _, _ => false
def chkO : IO → Cc → Option Expr → Bool
  | .no, _, x => match x with | none => true | _ => false
  | .yes a, c, x => match x with | some y => chkE a c false y | _ => false
def chkC : IO → Cc → List Expr → Bool
  | .no, _, x => match x with | [] => true | _ => false
  | .yes a, c, x => match x with | [y] => chkE a c true y | _ => false
def chkI : II → Cc → Expr → Expr → Bool
  | .any a, c, _, x => chkE a c false x
  | .rg1 a, c, _, x => match x with
    | .Call (.Name n _) [y] [] _ => glB (c.kd n) && (decide (n = ("range" : Str)) && (!isStar y && chkE a c false y))
    | _ => false
  | .rg2 a b, c, _, x => match x with
    | .Call (.Name n _) [y, z] [] _ => glB (c.kd n) && (decide (n = ("range" : Str)) && (!isStar y && (!isStar z && (chkE a c false y && chkE b c false z))))
    | _ => false
  | .en a, c, t, x => match t, x with
    | .Tuple .., .Call (.Name n _) [y] [] _ => glB (c.kd n) && (decide (n = ("enumerate" : Str)) && (!isStar y && chkE a c false y))
    | _, _ => false
  | .zp a b, c, t, x => match t, x with
    | .Tuple .., .Call (.Name n _) [y, z] [] _ => glB (c.kd n) && (decide (n = ("zip" : Str)) && (!isStar y && (!isStar z && (chkE a c false y && chkE b c false z))))
    | _, _ => false
  | .zpR a b, c, t, x => match t, x with
    | .Tuple .., .Call (.Name n _) [y, z] [] _ => glB (c.kd n) && (decide (n = ("zip" : Str)) && (!isStar y && (!isStar z && (chkE a c false y && chkE b c false z))))
    | _, _ => false
  | .ky a, c, _, x => chkE a c false x
  | .itm a, c, t, x => match t, x with
    | .Tuple .., .Call (.Attribute y n q) [] [] p => decide (n = ("items" : Str)) && (noSup y && ((q.endLine == p.line) && chkE a c false y))
    | _, _ => false
end
def locB (k : Option NameKind) : Bool := match k with | some .local => true | _ => false
def noSwap (c : Cc) : Expr → Expr → Bool
  | .Tuple [.Name x _, .Name y _] _ _, v => !(locB (c.kd x) && locB (c.kd y)) || noPair (.Tuple [] 0 ⟨0, 0, 0, 0⟩) v
  | .Tuple (_ :: _ :: _ :: _ :: _) _ _, _ => true
  | .Tuple [.Name _ _, .Tuple _ _ _] _ _, _ => true
  | t, v => noPair t v
def triB : IG → IE → Cc → Stmt → Bool
  | .tp (.cons (.nm i) (.cons (.nm j) (.cons (.nm l) .nil))), .tup (.cons a (.cons b (.cons d .nil))), c, .Assign [.Tuple [.Name x p, .Name y q, .Name z r] _ _] (.Tuple [u, v, w] _ _) _ =>
    (decide (i ≠ j) && (decide (i ≠ l) && decide (j ≠ l))) && ((slotB c i x && (slotB c j y && slotB c l z)) && ((locB (c.kd x) && (locB (c.kd y) && locB (c.kd z))) && (((q.line == p.line) && (r.line == p.line)) && ((decide (x ≠ y) && (decide (x ≠ z) && decide (y ≠ z))) && ((!isStar u && (!isStar v && !isStar w)) && ((!(foldedForSure 8 u && (foldedForSure 8 v && foldedForSure 8 w)) && !(constantsAlone 8 u && (constantsAlone 8 v && constantsAlone 8 w))) && (chkE a c false u && (chkE b c false v && chkE d c false w))))))))
  | _, _, _, _ => false
mutual
def chkS : IS → Cc → Stmt → Bool
  | .ex a, c, s => match s with
    | .Expr x _ => notComp x && chkE a c false x
    | _ => false
  | .asg g a, c, s => triB g a c s || match s with
    | .Assign [t] x _ => !isStar t && (noSwap c t x && (chkG g c t && (chkE a c false x && (notComp x || (match t, x with
      | .Name y p, .ListComp _ _ sc q => (!(p.line == q.line) || !locB (c.kd y)) || ((match c.kd y with | some .local => true | _ => false) && !(sc.names.any fun (n, k) => n == y && (k == .local || k == .cell)))
      | .Tuple _ _ _, .ListComp _ _ _ _ => true
      | _, _ => false)))))
    | _ => false
  | .sto o i a, c, s => match s with
    | .Assign [.Subscript x y _] z _ => !isSlice y && (notComp z && (chkE o c false x && (chkE i c false y && chkE a c false z)))
    | _ => false
  | .sto2 o i o2 i2 a, c, s => match s with
    | .Assign [.Tuple [.Subscript x y _, .Subscript x2 y2 _] _ _] z _ => !isSlice y && (!isSlice y2 && (notComp z && (chkE o c false x && (chkE i c false y && (chkE o2 c false x2 && (chkE i2 c false y2 && chkE a c false z))))))
    | _ => false
  | .hed o d a, c, s => match s with
    | .Assign [.Subscript x (.Slice none (some y) none _) _] z _ => notComp z && (chkE o c false x && (chkE d c false y && chkE a c false z))
    | _ => false
  | .aug add i a, c, s => match s with
    | .AugAssign (.Name n _) op x _ => decide (op = if add then .Add else .Sub) && (slotB c i n && ((match c.kd n with | some .local => true | some .cell => !c.blk | _ => false) && chkE a c false x))
    | _ => false
  | .sfl ci f o a, c, s => match s with
    | .Assign [.Attribute x n _] z _ => decide (n = f) && (c.flds.contains (ci, f) && (chkE o c false x && chkE a c false z))
    | _ => false
  | .bad, _, _ => true
  | .lkS a, c, s => chkS a c s
  | .par i j a b, c, s => match s with
    | .Assign [.Tuple [.Name x p, .Name y q] _ _] (.Tuple [u, v] _ _) _ => decide (i ≠ j) && (slotB c i x && (slotB c j y && ((match c.kd x, c.kd y with | some .local, some .local => true | _, _ => false) && ((q.line == p.line) && (decide (x ≠ y) && (!isStar u && (!isStar v && (!(foldedForSure 8 u && foldedForSure 8 v) && (!(constantsAlone 8 u && constantsAlone 8 v) && (chkE a c false u && chkE b c false v))))))))))
    | _ => false
  | .ret a, c, s => match s with
    | .Return (some x) _ => chkE a c false x
    | _ => false
  | .retN, _, s => match s with
    | .Return none _ => true
    | _ => false
  | .iff t a b, c, s => match s with
    | .If w x y _ => chkE t c true w && (chkSs a c x && chkSs b c y)
    | _ => false
  | .fo g it b, c, s => match s with
    | .For tg iter x [] _ => !isSetD iter && (chkI it c tg iter && (chkG g c tg && chkSs b c x))
    | _ => false
  | .wh t b, c, s => match s with
    | .While w x [] _ => chkE t c true w && chkSs b c x
    | _ => false
  | .pas, _, s => match s with | .Pass _ => true | _ => false
  | .brk, _, s => match s with | .Break _ => true | _ => false
  | .cnt, _, s => match s with | .Continue _ => true | _ => false
def chkSs : ISs → Cc → List Stmt → Bool
  | .nil, _, xs => match xs with | [] => true | _ => false
  | .cons a r, c, xs => match xs with
    | x :: ys => chkS a c x && chkSs r c ys
    | _ => false
  | .frz _ r, c, xs => chkSs r c xs
  | .frzK _ r, c, xs => chkSs r c xs
  | .fgt r, c, xs => chkSs r c xs
end
theorem swaps_att (x : Expr) {o : Expr} {f : Str} {p2 : Pos} {l : Nat} {env : PySem.Env} : swapsWith x (some (.Attribute o f p2)) l env = pure false := by cases x <;> rfl
end DL

namespace DL
open PySem PySem.Spec PyProof.Rows L2
def CD.v : CD → V
  | .non => .non
  | .bl b => .bl b
  | .int i => .int i
  | .str s => .str s
theorem CD.is (c : CD) (K : PySem.W.Frag) (H : Hp) : Is K H c.d c.v := by
  cases c with
  | non => exact ii_non
  | bl => exact ii_bl
  | int => exact ii_int
  | str => exact ii_str
def GlobOk (P : Program) (w : World) (K : PySem.W.Frag) (mg : Str → Option Value) (base : Heap) (k : Nat) (n : Str) (np : Nat) (ks : List Str) (sp : DSp) : Prop :=
  ∃ fv : Value, mg n = some fv ∧ PySem.W.keepIn K fv = true ∧ CallOk P w K mg base k fv np ks sp
def MethOk (P : Program) (w : World) (K : PySem.W.Frag) (mg : Str → Option Value) (base : Heap) (k : Nat) (C : Addr) (m : Str) (np : Nat) (ks : List Str) (sp : DSp) : Prop :=
  ∃ f : Addr, Cls K C ∧ Meth K C m f ∧ CallOk P w K mg base k (.ref f) (np + 1) ks sp
structure CtxOk (c : Cc) (S : Tb) (k : Nat) (g : Gd) : Prop where
  sc : g.X.env.scope = c.sc
  N : g.X.N = c.N
  nd : c.N.Nodup
  nn : ∀ n ∈ c.N, okName n = true
  kind : c.sc.kind = .function
  calm : g.X.calm = true
  gok : Gok g k
  fn : c.blk = false → ∀ n, g.X.fn n = true
  free : ∀ n ∈ freeNames, g.X.mg n = none
  cs : ∀ n d, c.cs.lookup n = some d → okName n = true ∧ ∃ u, g.X.mg n = some u ∧ RelV d.v u
  cals : ∀ i n np ks, c.cals[i]? = some (n, np, ks) → okName n = true ∧ GlobOk g.X.prog g.X.w g.X.K g.X.mg g.X.base k n np ks (S.g i)
  mths : ∀ i ci m np ks, c.mths[i]? = some (ci, m, np, ks) → MethOk g.X.prog g.X.w g.X.K g.X.mg g.X.base k (S.c ci) m np ks (S.m i)
  flds : ∀ ci f, (ci, f) ∈ c.flds → Cls g.X.K (S.c ci) ∧ NoAttr g.X.K (S.c ci) f
  sl : g.X.A.units + 16 * k + 210 < cLine
  cls : ∀ ci n, (ci, n) ∈ c.cls → okName n = true ∧ g.X.mg n = some (.ref (S.c ci)) ∧ InsT g.X.K (S.c ci) ∧ OwnX g.X.K (S.c ci)
section
variable {c : Cc} {S : Tb} {k : Nat} {g : Gd}
theorem CtxOk.hu (O : CtxOk c S k g) : g.X.A.units + 70 < cLine := by have := O.gok.room.un; omega
theorem CtxOk.hN (O : CtxOk c S k g) : g.X.N.Nodup := by rw [O.N]; exact O.nd
theorem okName.dbg {n : Str} (h : okName n = true) : (n == ("__debug__" : Str)) = false := by
  unfold okName at h
  simp only [Bool.and_eq_true, Bool.not_eq_true'] at h
  exact h.1.1
theorem okName.cd {n : Str} (h : okName n = true) : (n == ("__classdict__" : Str)) = false := by
  unfold okName at h
  simp only [Bool.and_eq_true, Bool.not_eq_true'] at h
  exact h.1.2
theorem okName.nm {n : Str} (h : okName n = true) : n ≠ "__name__" := by
  unfold okName at h
  simp only [Bool.and_eq_true, Bool.not_eq_true'] at h
  exact fun z => by have := h.2; rw [z] at this; exact nomatch (this.symm.trans (by decide +kernel : (("__name__" : Str) == ("__name__" : Str)) = true))
theorem CtxOk.slot (O : CtxOk c S k g) {i : Nat} {n : Str} (h : slotB c i n = true) : g.X.N[i]? = some n ∧ okName n = true := by
  have := of_decide_eq_true h
  exact ⟨by rw [O.N]; exact this, O.nn n (List.mem_of_getElem? this)⟩
theorem CtxOk.vis (O : CtxOk c S k g) {n : Str} (h : visB (c.kd n) = true) : Vis g.X.env.scope n := by
  rw [O.sc]
  have h' : visB (c.sc.names.lookup n) = true := h
  unfold Vis
  cases e : c.sc.names.lookup n with
  | none => rw [e] at h'; cases h'
  | some q => rw [e] at h'; cases q <;> first | exact .inl rfl | exact .inr (.inl rfl) | exact .inr (.inr rfl) | cases h'
theorem CtxOk.gl (O : CtxOk c S k g) {n : Str} (h : glB (c.kd n) = true) : Gl g.X n := by
  show g.X.env.scope.names.lookup n = _
  rw [O.sc]
  have h' : glB (c.sc.names.lookup n) = true := h
  cases e : c.sc.names.lookup n with
  | none => rw [e] at h'; cases h'
  | some q => rw [e] at h'; cases q <;> first | rfl | cases h'
theorem CtxOk.into (O : CtxOk c S k g) {scope : Scope} (hs : scope.kind = .function) (s : Shared) (H : Hp) (C : Addr) (cl : List (Str × Addr)) (fp : List Addr) (M1 : Mem) (H1 : Hp) : CtxOk (c.into scope) S k (blkG g scope s H C cl fp M1 H1) where
  sc := by
    have : relS scope g.X.env.scope = relS scope c.sc := by rw [O.sc]
    exact this
  N := O.N
  nd := O.nd
  nn := O.nn
  kind := hs
  calm := O.calm
  gok := ⟨O.gok.room, O.gok.gu, fun u s' x => by
    obtain ⟨a, B, sI, pins, σ, H, cls, d, e, I, nb, up, sky, na, os, ag, w⟩ := x
    obtain ⟨_, _, _, _, _, z⟩ := w
    exact z.elim⟩
  fn := fun h => nomatch h
  free := O.free
  cs := O.cs
  cals := O.cals
  mths := O.mths
  flds := O.flds
  sl := O.sl
  cls := O.cls
end
def BF.id : BF → String := BF.nm
theorem BF.ok (f : BF) : okName (f.nm : Str) = true ∧ (f.nm : Str) ∈ freeNames ∧ bootBuiltins (f.nm : Str) = some (.builtin f.nm) := by
  cases f <;> exact ⟨by decide +kernel, by decide +kernel, by rfl⟩
theorem BT.ok (f : BT) : okName (f.nm : Str) = true ∧ (f.nm : Str) ∈ freeNames ∧ bootBuiltins (f.nm : Str) = some (.type f.nm) := by
  cases f <;> exact ⟨by decide +kernel, by decide +kernel, by rfl⟩
theorem BTy.ok (f : BTy) : okName (f.nm : Str) = true ∧ (f.nm : Str) ∈ freeNames ∧ bootBuiltins (f.nm : Str) = some (.type f.nm) := by
  cases f <;> exact ⟨by decide +kernel, by decide +kernel, by rfl⟩
section
variable {X : Cx}
theorem BF.cd (f : BF) (hc : X.calm = true) (hg : X.A.guards = some []) (hu : X.A.units + 70 < cLine) : CallD X (.builtin f.nm) f.rd := by
  cases f with
  | abs => exact cd_abs
  | len => exact cd_len
  | min => exact cd_min2 hc
  | max => exact cd_max2 hc
  | all => exact cd_all hc
  | any => exact cd_any hc
  | sum => exact cd_sum hc
  | sorted => exact cd_sorted
  | repr => exact cd_repr hg hu
  | isi => exact cd_isi
theorem BF.tmp (f : BF) : TmpOk f.rd f.rt := by
  cases f <;> first | exact ok_tLen | exact ok_tBools | exact ok_tSum | exact fun _ _ _ z => z.elim
theorem BT.cd (f : BT) (hc : X.calm = true) : CallD X (.type f.nm) f.rd := by
  cases f with
  | int => exact cd_int
  | tuple => exact cd_tuple
  | list => exact cd_list hc
  | dict => exact cd_dict hc
theorem BT.tmp (f : BT) : TmpOk f.rd f.rt := by
  cases f <;> first | exact ok_tTuple | exact fun _ _ _ z => z.elim
theorem BM.md (m : BM) (hu : X.A.units + 70 < cLine) : MtD X m.ty m.nm m.id m.rd := by
  cases m with
  | join => exact md_join
  | upper => exact md_upper
  | append => exact md_append
  | extend => exact md_extend
  | pop => exact md_pop
  | get => exact md_get (by omega)
  | setd => exact md_setd
  | upd => exact md_upd (by omega)
  | setdT => exact md_setdT (by omega)
  | index => exact md_index
theorem opd_no {f : Value → Value → Sem Value} : OpD X f (fun _ _ _ _ => False) := ⟨fun _ _ _ _ => False, fun _ _ _ _ _ _ _ _ _ _ _ _ z => z.elim, fun _ _ _ _ _ _ _ _ _ _ _ _ _ _ _ z => z.elim⟩
theorem boR_ok (o : Operator) : OpD X (binaryOp o) (boR o) := by
  cases o with
  | Add => exact opd_add
  | Sub => exact opd_sub
  | FloorDiv => exact opd_fdiv
  | Mod => exact opd_mod
  | Pow => exact opd_int op_powG
  | Mult =>
    refine OpD.imp (opd_mulL.or ((opd_int op_mulM).or (opd_mulS.or opd_mulT))) fun x y M Q q => ?_
    cases x with
    | ref => exact .inl q
    | str => exact .inr (.inr (.inl q))
    | tup => exact .inr (.inr (.inr q))
    | _ => exact .inr (.inl q)
  | _ => exact opd_no
theorem coR_ok (o : CmpOp) (hu : X.A.units + 70 < cLine) : OpD X (compareOp o) (coR o) := by
  cases o with
  | Eq => exact opd_eq (by omega)
  | NotEq => exact opd_ne (by omega)
  | Lt => exact opd_lt
  | LtE => exact opd_le
  | Gt => exact opd_gt
  | GtE => exact opd_ge
  | Is => exact opd_is
  | IsNot => exact opd_isNot
  | In => exact opd_in hu
  | NotIn => exact opd_notIn hu
end
end DL

namespace DL
open PySem PySem.Spec PyProof.Rows L2
def isBoolE : Expr → Bool
  | .BoolOp .. => true
  | _ => false
structure Snd (S : Tb) (g : Gd) (ir : IE) (m : Bool) (e : Expr) : Prop where
  de : m = false → DE g e (wE S ir)
  dt : m = true → DT g e (wT S ir)
  dw : m = true → isBoolE e = true → DW g e (wT S ir)
  dle : m = false → isLc ir = true → DLE g e (wL S ir)
  slc : m = false → isLc ir = true → ∀ (i : Nat) (y : Str) (py spos : Pos), g.X.N[i]? = some y → g.X.env.scope.names.lookup y = some .local → swapsWith e (some (.Name y py)) spos.line g.X.env = pure true → DS g (.Assign [.Name y py] e spos) (dAsg (wE S ir) (dgName i))
  slcF : m = false → isLc ir = true → ∀ (i : Nat) (y : Str) (py spos : Pos), g.X.N[i]? = some y → g.X.env.scope.names.lookup y = some .local → swapsWith e (some (.Name y py)) spos.line g.X.env = pure true → DS g (.Assign [.Name y py] e spos) (dAsg (dLcF (wL S ir)) (dgName i))
section
variable {S : Tb} {k : Nat} {c : Cc} {g : Gd} {ir : IE} {m : Bool} {e : Expr}
theorem Snd.leaf (h : DE g e (wE S ir)) (ht : wT S ir = dTruth (wE S ir)) (hp : plainT e = true) (hl : isLc ir = false) : Snd S g ir m e where
  de := fun _ => h
  dt := fun _ => by rw [ht]; exact dt_truth h fun w => truth_of hp g.X.env w
  dw := fun _ hb => by
    exfalso
    cases e <;> first | (cases hb; done) | (cases hp; done)
  dle := fun _ z => by rw [hl] at z; cases z
  slc := fun _ z => by rw [hl] at z; cases z
  slcF := fun _ z => by rw [hl] at z; cases z
theorem Snd.val (hm : (!m) = true) (h : DE g e (wE S ir)) (hl : isLc ir = false) : Snd S g ir m e where
  de := fun _ => h
  dt := fun z => by subst z; cases hm
  dw := fun z => by subst z; cases hm
  dle := fun _ z => by rw [hl] at z; cases z
  slc := fun _ z => by rw [hl] at z; cases z
  slcF := fun _ z => by rw [hl] at z; cases z
theorem Snd.both (h : m = false → DE g e (wE S ir)) (ht : m = true → DT g e (wT S ir)) (hb : isBoolE e = false) (hl : isLc ir = false) : Snd S g ir m e where
  de := h
  dt := ht
  dw := fun _ z => by rw [hb] at z; cases z
  dle := fun _ z => by rw [hl] at z; cases z
  slc := fun _ z => by rw [hl] at z; cases z
  slcF := fun _ z => by rw [hl] at z; cases z
theorem Snd.bool (h : m = false → DE g e (wE S ir)) (ht : m = true → DW g e (wT S ir)) (hl : isLc ir = false) : Snd S g ir m e where
  de := h
  dt := fun z => (ht z).dt
  dw := fun z _ => ht z
  dle := fun _ z => by rw [hl] at z; cases z
  slc := fun _ z => by rw [hl] at z; cases z
  slcF := fun _ z => by rw [hl] at z; cases z
theorem Snd.comp (hm : (!m) = true) (h : DLE g e (wL S ir)) (hw : wE S ir = dNew (wL S ir)) (hs : ∀ (i : Nat) (y : Str) (py spos : Pos), g.X.N[i]? = some y → g.X.env.scope.names.lookup y = some .local → swapsWith e (some (.Name y py)) spos.line g.X.env = pure true → DS g (.Assign [.Name y py] e spos) (dAsg (dNew (wL S ir)) (dgName i))) (hsF : ∀ (i : Nat) (y : Str) (py spos : Pos), g.X.N[i]? = some y → g.X.env.scope.names.lookup y = some .local → swapsWith e (some (.Name y py)) spos.line g.X.env = pure true → DS g (.Assign [.Name y py] e spos) (dAsg (dLcF (wL S ir)) (dgName i))) : Snd S g ir m e where
  de := fun _ => by rw [hw]; exact h.de
  dt := fun z => by subst z; cases hm
  dw := fun z => by subst z; cases hm
  dle := fun _ _ => h
  slc := fun _ _ => by rw [hw]; exact hs
  slcF := fun _ _ => hsF
mutual
theorem hitG : ∀ (t : IG) (d : D) (e : Sl) (M : Mem) (Q : Sl → Mem → Prop) (E : EX), wG t d e M Q E → ∃ e' M', Q e' M'
  | .nm i, d, e, M, Q, E, h => ⟨_, _, h⟩
  | .tp gs, d, e, M, Q, E, h => by
    cases d with
    | tup ds => exact hitGs gs ds e M Q E h
    | tx ds => exact hitGs gs ds e M Q E h
    | rl ds => exact hitGs gs ds e M Q E h
    | ref a => obtain ⟨ds, _, h⟩ := h; exact hitGs gs ds e M Q E h
    | _ => exact False.elim h
  | .st i j, d, e, M, Q, E, h => by
    cases d with
    | tup ds => cases ds with
      | cons x xs => exact ⟨_, _, h⟩
      | nil => exact False.elim h
    | _ => exact False.elim h
theorem hitGs : ∀ (t : IGs) (ds : List D) (e : Sl) (M : Mem) (Q : Sl → Mem → Prop) (E : EX), wGs t ds e M Q E → ∃ e' M', Q e' M'
  | .nil, ds, e, M, Q, E, h => ⟨_, _, h.2⟩
  | .cons t r, ds, e, M, Q, E, h => by
    cases ds with
    | nil => exact False.elim h
    | cons d ds =>
      obtain ⟨e1, M1, h1⟩ := hitG t d e M _ E h
      exact hitGs r ds e1 M1 Q E h1
end
mutual
theorem sndG : ∀ (t : IG) (c : Cc) (e : Expr), chkG t c e = true → ∀ g, CtxOk c S k g → DG g e (wG t) (IG.slots t)
  | .nm i, c, e, h, g, O => by
    unfold chkG at h
    split at h
    · simp only [Bool.and_eq_true] at h
      obtain ⟨h1, h2⟩ := h
      obtain ⟨hN, ok⟩ := O.slot h1
      split at h2
      · rename_i e1
        have e1' := (congrArg (fun z : Scope => z.names.lookup _) O.sc).trans e1
        exact dg_name O.hN hN (.inl e1') (.inr e1')
      · rename_i e1
        have e1' := (congrArg (fun z : Scope => z.names.lookup _) O.sc).trans e1
        exact dg_name O.hN hN (.inr e1') (.inl (O.fn (by simpa using h2) _))
      · cases h2
    · cases h
  | .tp gs, c, e, h, g, O => by
    unfold chkG at h
    split at h
    · obtain ⟨h1, h2, h3⟩ := sndGs gs c _ h g O
      exact dg_tup O.calm h1 h2 h3
    · cases h
  | .st i j, c, e, h, g, O => by
    unfold chkG at h
    split at h
    · simp only [Bool.and_eq_true] at h
      obtain ⟨⟨h1, h2⟩, h3, h4⟩ := h
      obtain ⟨hN1, ok1⟩ := O.slot h1
      obtain ⟨hN2, ok2⟩ := O.slot h3
      have nm : ∀ {n : Str} {i : Nat} {p : Pos}, g.X.N[i]? = some n → (match c.kd n with | some .local => true | some .cell => !c.blk | _ => false) = true → PG g.X (.Name n p) (gName i) := fun {n i p} hN h => by
        split at h
        · rename_i e1
          have e1' := (congrArg (fun z : Scope => z.names.lookup _) O.sc).trans e1
          exact pg_name O.hN hN (.inl e1') (.inr e1')
        · rename_i e1
          have e1' := (congrArg (fun z : Scope => z.names.lookup _) O.sc).trans e1
          exact pg_name O.hN hN (.inr e1') (.inl (O.fn (by simpa using h) _))
        · cases h
      exact dg_star O.calm rfl (nm hN1 h2) (nm hN2 h4)
    · cases h
theorem sndGs : ∀ (t : IGs) (c : Cc) (xs : List Expr), chkGs t c xs = true → ∀ g, CtxOk c S k g → DGs g xs (wGs t) (IGs.slots t) ∧ (∀ ds e M Q E, wGs t ds e M Q E → ds.length = xs.length) ∧ xs.all (fun x => !isStar x) = true
  | .nil, c, xs, h, g, O => by
    unfold chkGs at h
    split at h
    · exact ⟨dgs_nil, fun ds e M Q E q => by have q : ds = [] ∧ Q e M := q; rw [q.1]; rfl, rfl⟩
    · cases h
  | .cons t r, c, xs, h, g, O => by
    unfold chkGs at h
    split at h
    · simp only [Bool.and_eq_true, Bool.not_eq_true'] at h
      obtain ⟨h0, h1, h2⟩ := h
      obtain ⟨h3, h4, h5⟩ := sndGs r c _ h2 g O
      refine ⟨dgs_cons (sndG t c _ h1 g O) h3 h0, fun ds e M Q E q => ?_, by rw [List.all_cons, h0, h5]; rfl⟩
      cases ds with
      | nil => exact q.elim
      | cons d ds =>
        have q : wG t d e M (fun e' M' => wGs r ds e' M' Q E) E := q
        obtain ⟨e1, M1, q1⟩ := hitG t d e M _ E q
        rw [List.length_cons, List.length_cons, h4 _ _ _ _ _ q1]
    · cases h
end
def BlkGs (g : Gd) (scope : Scope) (xs : List Expr) (t : DTGs) (ns : List Nat) : Prop := ∃ t' : TGs, (∀ s H C cl fp, PGs (g.X.blk s H scope (compEnvC scope cl C g.X.env) fp) xs t') ∧
  ∀ σ H e M vs ds Q (QV : L2.St → Hp → Prop), SRel g.X.K H e σ → MRel g.X.K M H → IsL g.X.K H ds vs → t ds e M Q EF →
    (∀ σ' H' e' M', SRel g.X.K H' e' σ' → MRel g.X.K M' H' → Fr M H M' H' → (∀ vs, (∀ i ∈ ns, i ∈ vs) → L2.wipe σ' vs = L2.wipe σ vs) → Q e' M' → QV σ' H') → t' vs σ H QV
mutual
theorem sndGB : ∀ (t : IG) (c : Cc) (scope : Scope) (e : Expr), scope.kind = .function → chkG t (c.into scope) e = true → ∀ g, CtxOk c S k g → BlkG g scope e (wG t) (IG.slots t)
  | .nm i, c, scope, e, hk, h, g, O => by
    unfold chkG at h
    split at h
    · simp only [Bool.and_eq_true] at h
      obtain ⟨h1, h2⟩ := h
      refine ⟨gName i, fun s H C cl fp => ?_, fun σ H e M v d Q QV sl mr id q k => k _ H _ M (SRel.set id i sl) mr Fr.refl (fun vs hv => set_wipe σ i _ vs (hv i (List.mem_cons_self))) q⟩
      have O2 := O.into hk s H C cl fp (fun _ => none) H
      obtain ⟨hN, ok⟩ := O2.slot h1
      split at h2
      · rename_i e1
        have e1' := (congrArg (fun z : Scope => z.names.lookup _) O2.sc).trans e1
        exact pg_name O2.hN hN (.inl e1') (.inr e1')
      · cases h2
      · cases h2
    · cases h
  | .tp gs, c, scope, e, hk, h, g, O => by
    unfold chkG at h
    split at h
    · rename_i xs kk pos
      obtain ⟨⟨t', h1, k2⟩, h2, h3⟩ := sndGsB gs c scope xs hk h g O
      refine ⟨gTupQ g.X.K xs.length t', fun s H C cl fp => pg_tupQ (X := g.X.blk s H scope (compEnvC scope cl C g.X.env) fp) (n := xs.length) O.calm (h1 s H C cl fp) dgs_len (dgs_nostar h3), fun σ H e M v d Q QV sl mr i q kk => ?_⟩
      cases d with
      | tup ds =>
        rw [is_tup] at i
        obtain ⟨a, vs, rfl, h1, l⟩ := i
        exact ⟨a, vs, rfl, .inl (SqT.of h1), by rw [l.length]; exact h2 _ _ _ _ _ q, k2 σ H e M vs ds Q QV sl mr l q kk⟩
      | tx ds =>
        rw [is_tx] at i
        obtain ⟨a, vs, rfl, h1, l⟩ := i
        exact ⟨a, vs, rfl, .inl h1.sq, by rw [l.length]; exact h2 _ _ _ _ _ q, k2 σ H e M vs ds Q QV sl mr l q kk⟩
      | rl ds =>
        rw [is_rl] at i
        obtain ⟨a, vs, rfl, h1, l⟩ := i
        exact ⟨a, vs, rfl, .inr h1.sq, by rw [l.length]; exact h2 _ _ _ _ _ q, k2 σ H e M vs ds Q QV sl mr l q kk⟩
      | ref a =>
        rw [is_ref] at i
        subst i
        obtain ⟨ds, h1, q⟩ := q
        obtain ⟨vs, h3, l⟩ := mr a _ h1
        exact ⟨a, vs, rfl, .inr (.inl (.inl h3)), by rw [l.length]; exact h2 _ _ _ _ _ q, k2 σ H e M vs ds Q QV sl mr l q kk⟩
      | _ => exact False.elim q
    · cases h
  | .st i j, c, scope, e, hk, h, g, O => by
    unfold chkG at h
    split at h
    · simp only [Bool.and_eq_true] at h
      obtain ⟨⟨h1, h2⟩, h3, h4⟩ := h
      refine ⟨gStar g.X.K (gName i) (gName j), fun s H C cl fp => ?_, fun σ H e M v d Q QV sl mr id q kk => star_low (E := EF) sl mr id q kk⟩
      have O2 := O.into hk s H C cl fp (fun _ => none) H
      obtain ⟨hN1, ok1⟩ := O2.slot h1
      obtain ⟨hN2, ok2⟩ := O2.slot h3
      have nm : ∀ {n : Str} {i : Nat} {p : Pos}, (blkG g scope s H C cl fp (fun _ => none) H).X.N[i]? = some n → (match (c.into scope).kd n with | some .local => true | some .cell => !(c.into scope).blk | _ => false) = true → PG (blkG g scope s H C cl fp (fun _ => none) H).X (.Name n p) (gName i) := fun {n i p} hN h => by
        split at h
        · rename_i e1
          have e1' := (congrArg (fun z : Scope => z.names.lookup _) O2.sc).trans e1
          exact pg_name O2.hN hN (.inl e1') (.inr e1')
        · cases h
        · cases h
      exact pg_star (X := (blkG g scope s H C cl fp (fun _ => none) H).X) O2.calm rfl (nm hN1 h2) (nm hN2 h4)
    · cases h
theorem sndGsB : ∀ (t : IGs) (c : Cc) (scope : Scope) (xs : List Expr), scope.kind = .function → chkGs t (c.into scope) xs = true → ∀ g, CtxOk c S k g → BlkGs g scope xs (wGs t) (IGs.slots t) ∧ (∀ ds e M Q E, wGs t ds e M Q E → ds.length = xs.length) ∧ xs.all (fun x => !isStar x) = true
  | .nil, c, scope, xs, hk, h, g, O => by
    unfold chkGs at h
    split at h
    · refine ⟨⟨_, fun s H C cl fp => pgs_nil, fun σ H e M vs ds Q QV sl mr il q k => ?_⟩, fun ds e M Q E q => by have q : ds = [] ∧ Q e M := q; rw [q.1]; rfl, rfl⟩
      obtain ⟨h, q⟩ := q
      subst h
      rw [isL_nil] at il
      exact ⟨il, k σ H e M sl mr Fr.refl (fun _ _ => rfl) q⟩
    · cases h
  | .cons t r, c, scope, xs, hk, h, g, O => by
    unfold chkGs at h
    split at h
    · simp only [Bool.and_eq_true, Bool.not_eq_true'] at h
      obtain ⟨h0, h1, h2⟩ := h
      obtain ⟨⟨u', h3, k3⟩, h4, h5⟩ := sndGsB r c scope _ hk h2 g O
      obtain ⟨t', ht, kt⟩ := sndGB t c scope _ hk h1 g O
      refine ⟨⟨_, fun s H C cl fp => pgs_cons (ht s H C cl fp) (h3 s H C cl fp) (assign_cons h0), fun σ H e M vs ds Q QV sl mr il q kk => ?_⟩, fun ds e M Q E q => ?_, by rw [List.all_cons, h0, h5]; rfl⟩
      · cases ds with
        | nil => exact False.elim q
        | cons d r =>
          rw [isL_cons] at il
          obtain ⟨v, rv, rfl, i, l⟩ := il
          refine ⟨v, rv, rfl, kt σ H e M v d _ _ sl mr i q fun σ1 H1 e1 M1 sl1 m1 f1 w1 q => ?_⟩
          refine k3 σ1 H1 e1 M1 rv r _ _ sl1 m1 (IsL.ext (f1.ext mr) _ _ l) q fun σ2 H2 e2 M2 sl2 m2 f2 w2 q => ?_
          exact kk σ2 H2 e2 M2 sl2 m2 (f1.trans f2) (fun vs hv => (w2 vs fun i hi => hv i (List.mem_append_right _ hi)).trans (w1 vs fun i hi => hv i (List.mem_append_left _ hi))) q
      · cases ds with
        | nil => exact False.elim q
        | cons d ds =>
          have q : wG t d e M (fun e' M' => wGs r ds e' M' Q E) E := q
          obtain ⟨e1, M1, q1⟩ := hitG t d e M _ E q
          rw [List.length_cons, List.length_cons, h4 _ _ _ _ _ q1]
    · cases h
end
theorem blkI_any {scope : Scope} {tg x : Expr} {t : DTE} (h : BlkE g scope x t) : BlkI g scope tg x (diAny t) := by
  refine ⟨wAny g.X.K (lowAny g.X.K t), fun s H C cl fp => pi_any (h.pe s H C cl fp), fun σ H e M R RV sl mr q k => ?_⟩
  refine lowAny_start sl mr q fun v d M1 H1 i m f q => ?_
  cases d with
  | str z => rw [is_str] at i; exact .inl ⟨z, i, k _ _ M1 H1 jrel_str m f q⟩
  | tup ds =>
    rw [is_tup] at i
    obtain ⟨a, vs, rfl, h1, l⟩ := i
    refine .inr (.inl ⟨a, vs, rfl, SqT.of h1, k _ _ M1 H1 (jrel_tup fun M' H' m' f' => ⟨vs, ?_, IsL.ext f' _ _ l⟩) m f q⟩)
    exact SqT.of (f'.1 _ _ h1)
  | rl ds =>
    rw [is_rl] at i
    obtain ⟨a, vs, rfl, h1, l⟩ := i
    refine .inr (.inr (.inl ⟨a, vs, rfl, h1.sq, k _ _ M1 H1 (jrel_list fun M' H' m' f' _ => ⟨vs, ?_, IsL.ext f' _ _ l⟩) m f q⟩))
    exact (f'.2.1 _ _ h1).sq
  | tx ds =>
    rw [is_tx] at i
    obtain ⟨a, vs, rfl, h1, l⟩ := i
    refine .inr (.inl ⟨a, vs, rfl, h1.sq, k _ _ M1 H1 (jrel_tup fun M' H' m' f' => ⟨vs, ?_, IsL.ext f' _ _ l⟩) m f q⟩)
    exact (f'.2.2.1 _ _ h1).sq
  | ref a =>
    rw [is_ref] at i
    subst i
    obtain ⟨ds, h1, q⟩ := q
    obtain ⟨ws, e1, l1⟩ := m a _ h1
    refine .inr (.inr (.inl ⟨a, ws, rfl, SqL.of e1, k _ _ M1 H1 (jrel_list fun M' H' m' f' p => ?_) m f q⟩))
    obtain ⟨ws', e2, l2⟩ := m' a _ p
    exact ⟨ws', SqL.of e2, l2⟩
  | rk ks ds =>
    rw [is_rk] at i
    obtain ⟨a, ws, rfl, ⟨o, h1⟩, rfl, l⟩ := i
    refine .inr (.inr (.inr ⟨a, o, ws, rfl, h1, k _ _ M1 H1 ?_ m f q⟩))
    have := jrel_keys (K := g.X.K) (H1 := H1) (a := a) (o := o) (kvs := ws) (P := fun _ => True) fun M' H' m' f' _ => f'.2.2.2 _ _ _ h1
    rw [List.map_map]
    exact this
  | _ => exact False.elim q
end
end DL

namespace DL
open PySem PySem.Spec PyProof.Rows L2
section
variable {S : Tb} {k : Nat} {c : Cc} {g : Gd}
theorem blk_kind {N : List Str} {sc scope : Scope} {own : List (Str × Nat)} (h : blkC N sc scope own = true) : scope.kind = .function := (blkOk_by h).kind
def CsOk (S : Tb) (k : Nat) (cs : IO) (c : Cc) (xs : List Expr) : Prop := (cs = .no ∧ xs = []) ∨ ∃ a x, cs = .yes a ∧ xs = [x] ∧ ∀ g, CtxOk c S k g → DT g x (wT S a)
theorem CsOk.blk {cs : IO} {scope : Scope} {xs : List Expr} (h : CsOk S k cs (c.into scope) xs) (hk : scope.kind = .function) (O : CtxOk c S k g) : BlkT g scope xs (wC S cs) := by
  rcases h with ⟨rfl, rfl⟩ | ⟨a, x, rfl, rfl, h⟩
  · exact blkT_nil
  · exact blkT_one fun s H C cl fp M1 H1 => h _ (O.into hk s H C cl fp M1 H1)
end
section
variable {S : Tb} {k : Nat}
theorem few_of {g : Gd} {x : Expr} {xs : List Expr} {t : DTE} {r : DTA} {pos : Pos} (hx : DE g x t) (ha : DA g xs r) (ns : isStar x = false) (hn : xs.length < 28) :
    ((backTo pos (starEach (x :: xs) g.X.env)).all (fun z => !z.1) && (backToKw pos (keywordEach [] g.X.env)).all (fun z => z.1.isSome)
      && decide ((x :: xs).length + ([] : List Keyword).length + (if ([] : List Keyword).isEmpty then 0 else 1) < 30)) = true := by
  have h := bt_any (pos := pos) (da_cons hx ha ns)
  have h1 : (backTo pos (starEach (x :: xs) g.X.env)).all (fun z => !z.1) = true := by
    rw [List.all_eq_true]
    intro z hz
    rw [List.any_eq_false] at h
    simpa using h z hz
  rw [h1]
  have h2 : (x :: xs).length + ([] : List Keyword).length + (if ([] : List Keyword).isEmpty then 0 else 1) < 30 := by
    show xs.length + 1 + 0 + 0 < 30
    omega
  rw [decide_eq_true h2]
  rfl
theorem lenEs : ∀ (es : IEs) (c : Cc) (xs : List Expr), chkEs es c xs = true → es.len = xs.length
  | .nil, c, xs, h => by
    unfold chkEs at h
    split at h
    · rfl
    · cases h
  | .cons a r, c, xs, h => by
    unfold chkEs at h
    split at h
    · simp only [Bool.and_eq_true] at h
      rw [List.length_cons, ← lenEs r c _ h.2.2]; rfl
    · cases h
theorem lenKs : ∀ (es : IEs) (c : Cc) (xs : List Keyword), chkKs es c xs = true → es.len = (xs.filterMap (·.arg)).length
  | .nil, c, xs, h => by
    unfold chkKs at h
    split at h
    · rfl
    · cases h
  | .cons a r, c, xs, h => by
    unfold chkKs at h
    split at h
    · rename_i n x p ys
      simp only [Bool.and_eq_true] at h
      have := lenKs r c _ h.2
      show r.len + 1 = ((⟨some n, x, p⟩ :: ys : List Keyword).filterMap (·.arg)).length
      rw [this]; rfl
    · cases h
mutual
theorem sndE : ∀ (ir : IE) (c : Cc) (m : Bool) (e : Expr), chkE ir c m e = true → ∀ g, CtxOk c S k g → Snd S g ir m e
  | .sl i, c, m, e, h, g, O => by
    unfold chkE at h
    split at h
    · simp only [Bool.and_eq_true] at h
      obtain ⟨h1, h2⟩ := O.slot h.1
      exact Snd.leaf (de_slot h1 (O.vis h.2) (okName.dbg h2) (okName.cd h2)) rfl rfl rfl
    · cases h
  | .lit d, c, m, e, h, g, O => by
    unfold chkE at h
    split at h
    · rename_i kk j pos
      have : DE g (.Constant kk j pos) (dC d.d) := by
        cases d <;> cases kk <;> first | (cases h; done) | skip
        · exact de_non
        · cases eq_of_beq h; exact de_bl
        · cases of_decide_eq_true h; exact de_int
        · cases of_decide_eq_true h; exact de_str
      exact Snd.leaf this rfl rfl rfl
    · cases h
  | .gc d, c, m, e, h, g, O => by
    unfold chkE at h
    split at h
    · simp only [Bool.and_eq_true, decide_eq_true_eq] at h
      obtain ⟨ok, u, hm, r⟩ := O.cs _ _ h.2
      exact Snd.leaf (de_glob (O.gl h.1) hm r (fun H => d.is _ H) (okName.dbg ok)) rfl rfl rfl
    · cases h
  | .gty T, c, m, e, h, g, O => by
    unfold chkE at h
    split at h
    · simp only [Bool.and_eq_true, decide_eq_true_eq] at h
      obtain ⟨h1, h2, rfl⟩ := h
      obtain ⟨ok, fr, bb⟩ := T.ok
      exact Snd.val h1 (de_bltn (O.gl h2) (O.free _ fr) bb (v := .ty T.nm) rfl (fun H => ii_ty) (okName.nm ok) (okName.dbg ok)) rfl
    · cases h
  | .tup es, c, m, e, h, g, O => by
    unfold chkE at h
    split at h
    · simp only [Bool.and_eq_true] at h
      exact Snd.val h.1 (de_tup (sndEs es c _ h.2 g O)) rfl
    · cases h
  | .lst es, c, m, e, h, g, O => by
    unfold chkE at h
    split at h
    · simp only [Bool.and_eq_true] at h
      exact Snd.val h.1 (de_lst (sndEs es c _ h.2 g O)) rfl
    · cases h
  | .bin o a b, c, m, e, h, g, O => by
    unfold chkE at h
    split at h
    · simp only [Bool.and_eq_true, decide_eq_true_eq] at h
      obtain ⟨h0, rfl, h1, h2⟩ := h
      exact Snd.val h0 (de_bin (boR_ok _) ((sndE a c _ _ h1 g O).de rfl) ((sndE b c _ _ h2 g O).de rfl)) rfl
    · cases h
  | .neg a, c, m, e, h, g, O => by
    unfold chkE at h
    split at h
    · simp only [Bool.and_eq_true] at h
      exact Snd.val h.1 (de_neg ((sndE a c _ _ h.2 g O).de rfl)) rfl
    · cases h
  | .cmp o a b, c, m, e, h, g, O => by
    unfold chkE at h
    split at h
    · simp only [Bool.and_eq_true, decide_eq_true_eq, Bool.not_eq_true'] at h
      obtain ⟨rfl, h0, h1, h2⟩ := h
      have ha := (sndE a c _ _ h1 g O).de rfl
      have hb := (sndE b c _ _ h2 g O).de rfl
      exact Snd.both (fun _ => de_cmp (coR_ok _ O.hu) ha hb (behind_of h0)) (fun _ => dt_cmp (coR_ok _ O.hu) ha hb (behind_of h0)) rfl rfl
    · cases h
  | .chain o o' a b d, c, m, e, h, g, O => by
    unfold chkE at h
    split at h
    · simp only [Bool.and_eq_true, decide_eq_true_eq, Bool.not_eq_true'] at h
      obtain ⟨rfl, rfl, h0, h1, h2, h3⟩ := h
      have ha := (sndE a c _ _ h1 g O).de rfl
      have hb := (sndE b c _ _ h2 g O).de rfl
      have hd := (sndE d c _ _ h3 g O).de rfl
      exact Snd.both (fun _ => de_chain (coR_ok _ O.hu) (coR_ok _ O.hu) ha hb hd (behind_of h0)) (fun _ => dt_chain (coR_ok _ O.hu) (coR_ok _ O.hu) ha hb hd (behind_of h0)) rfl rfl
    · cases h
  | .andE a b, c, m, e, h, g, O => by
    unfold chkE at h
    split at h
    · simp only [Bool.and_eq_true] at h
      have ha := sndE a c _ _ h.1 g O
      have hb := sndE b c _ _ h.2 g O
      exact Snd.bool (fun z => de_and (ha.de z) (hb.de z)) (fun z => dw_and (ha.dt z) (hb.dw z rfl)) rfl
    · cases h
  | .orE a b, c, m, e, h, g, O => by
    unfold chkE at h
    split at h
    · simp only [Bool.and_eq_true] at h
      have ha := sndE a c _ _ h.1 g O
      have hb := sndE b c _ _ h.2 g O
      exact Snd.bool (fun z => de_or (ha.de z) (hb.de z)) (fun z => dw_or (ha.dt z) (hb.dw z rfl)) rfl
    · cases h
  | .one a, c, m, e, h, g, O => by
    unfold chkE at h
    split at h
    · rename_i op x pos
      have ha := sndE a c _ _ h g O
      exact Snd.bool (fun z => de_one (ha.de z)) (fun z => by cases op with
        | And => exact dw_and1 (ha.dt z)
        | Or => exact dw_or1 (ha.dt z)) rfl
    · cases h
  | .nt a, c, m, e, h, g, O => by
    unfold chkE at h
    split at h
    · have ha := sndE a c _ _ h g O
      exact Snd.both (fun z => de_not (ha.de z)) (fun z => dt_not (ha.dt z)) rfl rfl
    · cases h
  | .ife t a b, c, m, e, h, g, O => by
    unfold chkE at h
    split at h
    · simp only [Bool.and_eq_true] at h
      obtain ⟨h0, h1, h2, h3⟩ := h
      exact Snd.val h0 (de_if ((sndE t c _ _ h1 g O).dt rfl) ((sndE a c _ _ h2 g O).de rfl) ((sndE b c _ _ h3 g O).de rfl)) rfl
    · cases h
  | .ix a i, c, m, e, h, g, O => by
    unfold chkE at h
    split at h
    · simp only [Bool.and_eq_true, Bool.not_eq_true'] at h
      obtain ⟨h0, h1, h2⟩ := h
      exact Snd.leaf (de_ix (ixd (by have := O.hu; omega)) ((sndE a c _ _ h1 g O).de rfl) ((sndE i c _ _ h2 g O).de rfl) (plainIx_of h0)) rfl rfl rfl
    · cases h
  | .sli a lo hi, c, m, e, h, g, O => by
    unfold chkE at h
    split at h
    · simp only [Bool.and_eq_true] at h
      obtain ⟨h0, h1, h2⟩ := h
      exact Snd.leaf (de_slice ((sndE a c _ _ h0 g O).de rfl) (sndO lo c _ h1 g O) (sndO hi c _ h2 g O)) rfl rfl rfl
    · cases h
  | .cb f a es, c, m, e, h, g, O => by
    unfold chkE at h
    split at h
    · simp only [Bool.and_eq_true, decide_eq_true_eq, Bool.not_eq_true'] at h
      obtain ⟨h0, rfl, h1, h2, h3⟩ := h
      obtain ⟨ok, fr, bb⟩ := f.ok
      exact Snd.leaf (de_callB (f.cd O.calm O.gok.gu O.hu) (O.gl h0) (O.free _ fr) bb ((sndE a c _ _ h2 g O).de rfl) (sndEs es c _ h3 g O) h1 (okName.nm ok) (okName.dbg ok)) rfl rfl rfl
    · cases h
  | .ct f a es, c, m, e, h, g, O => by
    unfold chkE at h
    split at h
    · simp only [Bool.and_eq_true, decide_eq_true_eq, Bool.not_eq_true'] at h
      obtain ⟨h0, rfl, h1, h2, h3⟩ := h
      obtain ⟨ok, fr, bb⟩ := f.ok
      exact Snd.leaf (de_callT (f.cd O.calm) (O.gl h0) (O.free _ fr) bb ((sndE a c _ _ h2 g O).de rfl) (sndEs es c _ h3 g O) h1 (okName.nm ok) (okName.dbg ok)) rfl rfl rfl
    · cases h
  | .tb f l, c, m, e, h, g, O => by
    unfold chkE at h
    split at h
    · simp only [Bool.and_eq_true, decide_eq_true_eq, Bool.not_eq_true'] at h
      obtain ⟨h0, rfl, h1, h2, h3⟩ := h
      obtain ⟨ok, fr, bb⟩ := f.ok
      exact Snd.leaf (de_tmpB (f.cd O.calm O.gok.gu O.hu) f.tmp (O.gl h0) (O.free _ fr) bb ((sndE l c _ _ h2 g O).dle rfl h3) h1 (okName.nm ok) (okName.dbg ok)) rfl rfl rfl
    · cases h
  | .tt f l, c, m, e, h, g, O => by
    unfold chkE at h
    split at h
    · simp only [Bool.and_eq_true, decide_eq_true_eq, Bool.not_eq_true'] at h
      obtain ⟨h0, rfl, h1, h2, h3⟩ := h
      obtain ⟨ok, fr, bb⟩ := f.ok
      exact Snd.leaf (de_tmpT (f.cd O.calm) f.tmp (O.gl h0) (O.free _ fr) bb ((sndE l c _ _ h2 g O).dle rfl h3) h1 (okName.nm ok) (okName.dbg ok)) rfl rfl rfl
    · cases h
  | .cal f es ks, c, m, e, h, g, O => by
    unfold chkE at h
    split at h
    · rename_i n p xs kws pos
      simp only [Bool.and_eq_true, decide_eq_true_eq] at h
      obtain ⟨h0, h1, h2, h3, h4⟩ := h
      obtain ⟨ok, fv, hm, hk, hc⟩ := O.cals _ _ _ _ h1
      have HA := sndEs es c _ h3 g O
      have HK := sndKs ks c kws h4 g O
      cases xs with
      | nil =>
        have e0 : wEs S es = dNil := by
          cases es with
          | nil => rfl
          | cons => unfold chkEs at h3; cases h3
        have z := de_cal0 (pos := pos) (p := p) O.gok (O.gl h0) hm hk hc HK (okName.dbg ok)
        refine Snd.leaf ?_ ?_ rfl rfl
        · show DE g _ (dFnN _ _ _ _ _)
          rw [lenEs es c _ h3, lenKs ks c _ h4, e0]
          exact z
        · rfl
      | cons x xs =>
        refine Snd.leaf ?_ rfl rfl rfl
        show DE g _ (dFnN _ _ _ _ _)
        rw [lenEs es c _ h3, lenKs ks c _ h4]
        exact de_cal O.gok (O.gl h0) hm hk hc HA HK (by simpa using h2) (okName.dbg ok)
    · cases h
  | .mth f ci mm o es ks, c, m, e, h, g, O => by
    unfold chkE at h
    split at h
    · rename_i x n q xs kws pos
      simp only [Bool.and_eq_true, decide_eq_true_eq] at h
      obtain ⟨rfl, h0, h1, h2, h3, h4, h5, h6, h7⟩ := h
      obtain ⟨fa, hcl, hme, hc⟩ := O.mths _ _ _ _ _ h3
      have HO := (sndE o c _ _ h5 g O).de rfl
      have HA := sndEs es c _ h6 g O
      have HK := sndKs ks c kws h7 g O
      cases xs with
      | nil =>
        have e0 : wEs S es = dNil := by
          cases es with
          | nil => rfl
          | cons => unfold chkEs at h6; cases h6
        refine Snd.leaf ?_ rfl rfl rfl
        show DE g _ (dMth _ _ _ _ _ _ _ _)
        rw [lenEs es c _ h6, lenKs ks c _ h7, e0]
        exact de_mth0 O.gok HO hcl hme hc HK (base_of h0) (by simpa using h2) h1
      | cons y ys =>
        refine Snd.leaf ?_ rfl rfl rfl
        show DE g _ (dMth _ _ _ _ _ _ _ _)
        rw [lenEs es c _ h6, lenKs ks c _ h7]
        exact de_mth O.gok HO hcl hme hc HA HK (by simpa using h4) (base_of h0) h2 h1
    · cases h
  | .fld ci f o, c, m, e, h, g, O => by
    unfold chkE at h
    split at h
    · simp only [Bool.and_eq_true, decide_eq_true_eq, List.contains_iff_mem] at h
      obtain ⟨rfl, h0, h1, h2⟩ := h
      obtain ⟨hc, hn⟩ := O.flds _ _ h1
      exact Snd.leaf (de_fld ((sndE o c _ _ h2 g O).de rfl) hc hn (base_of h0)) rfl rfl rfl
    · cases h
  | .fz a, c, m, e, h, g, O => by
    unfold chkE at h
    simp only [Bool.and_eq_true] at h
    exact Snd.val h.1 (de_fz ((sndE a c _ _ h.2.2 g O).de rfl)) rfl
  | .fzK a, c, m, e, h, g, O => by
    unfold chkE at h
    simp only [Bool.and_eq_true] at h
    exact Snd.val h.1 (de_fzK ((sndE a c _ _ h.2.2 g O).de rfl)) rfl
  | .dct d, c, m, e, h, g, O => by
    unfold chkE at h
    split at h
    · rename_i keys values pos
      simp only [Bool.and_eq_true, decide_eq_true_eq, Bool.not_eq_true'] at h
      obtain ⟨h0, h1, h2, h3⟩ := h
      exact Snd.val (by rw [h0]; rfl) (de_disp (sndDs d c _ _ h3 g O) (fun z => by rw [z] at h1; cases h1) h2) rfl
    · cases h
  | .lcF l, c, m, e, h, g, O => by
    unfold chkE at h
    simp only [Bool.and_eq_true] at h
    have hm : m = false := by simpa using h.1
    subst hm
    have H := sndE l c false e h.2.2 g O
    exact { de := fun _ => de_lcF (H.dle rfl h.2.1), dt := fun z => (nomatch z), dw := fun z => (nomatch z), dle := fun _ z => (nomatch z), slc := fun _ z => (nomatch z), slcF := fun _ z => (nomatch z) }
  | .bad, c, m, e, h, g, O => by
    unfold chkE at h
    exact Snd.val h de_bad rfl
  | .slst a lo hi st, c, m, e, h, g, O => by
    unfold chkE at h
    split at h
    · simp only [Bool.and_eq_true] at h
      obtain ⟨h0, h1, h2, h3, h4⟩ := h
      exact Snd.val h0 (de_sliceS ((sndE a c _ _ h1 g O).de rfl) (sndO lo c _ h2 g O) (sndO hi c _ h3 g O) (sndO st c _ h4 g O)) rfl
    · cases h
  | .revX a lo hi st, c, m, e, h, g, O => by
    unfold chkE at h
    split at h
    · simp only [Bool.and_eq_true] at h
      obtain ⟨h0, h1, h2, h3, h4⟩ := h
      exact Snd.val h0 (de_revX ((sndE a c _ _ h1 g O).de rfl) (sndO lo c _ h2 g O) (sndO hi c _ h3 g O) (sndO st c _ h4 g O)) rfl
    · cases h
  | .lenK a, c, m, e, h, g, O => by
    unfold chkE at h
    split at h
    · simp only [Bool.and_eq_true, decide_eq_true_eq, Bool.not_eq_true'] at h
      obtain ⟨h0, h1, rfl, rfl, h2, h3⟩ := h
      exact Snd.leaf (de_lenK O.calm (O.gl h0) (O.free _ (by decide +kernel)) (O.gl h1) (O.free _ (by decide +kernel)) ((sndE a c _ _ h3 g O).de rfl) h2) rfl rfl rfl
    · cases h
  | .srS a, c, m, e, h, g, O => by
    unfold chkE at h
    split at h
    · simp only [Bool.and_eq_true, decide_eq_true_eq, Bool.not_eq_true'] at h
      obtain ⟨h0, h1, h2, rfl, rfl, h3, h4⟩ := h
      exact Snd.val (by rw [h0]; rfl) (de_srtS O.calm (O.gl h1) (O.free _ (by decide +kernel)) (O.gl h2) (O.free _ (by decide +kernel)) ((sndE a c _ _ h4 g O).de rfl) h3) rfl
    · cases h
  | .rgE tp a, c, m, e, h, g, O => by
    unfold chkE at h
    split at h
    · simp only [Bool.and_eq_true, decide_eq_true_eq, Bool.not_eq_true'] at h
      obtain ⟨h0, h1, h2, rfl, rfl, h3, h4⟩ := h
      cases tp with
      | false => exact Snd.val (by rw [h0]; rfl) (de_lsR O.calm (O.gl h1) (O.free _ (by decide +kernel)) (O.gl h2) (O.free _ (by decide +kernel)) ((sndE a c _ _ h4 g O).de rfl) h3) rfl
      | true => exact Snd.val (by rw [h0]; rfl) (de_tpR O.calm (O.gl h1) (O.free _ (by decide +kernel)) (O.gl h2) (O.free _ (by decide +kernel)) ((sndE a c _ _ h4 g O).de rfl) h3) rfl
    · cases h
  | .eqO neg i ci cn a b, c, m, e, h, g, O => by
    unfold chkE at h
    split at h
    · simp only [Bool.and_eq_true, decide_eq_true_eq, Bool.not_eq_true'] at h
      obtain ⟨rfl, h0, h1, h2, h3, h4⟩ := h
      obtain ⟨fa, hcl, hme, hc⟩ := O.mths _ _ _ _ _ h1
      obtain ⟨_, _, it, ox⟩ := O.cls ci cn (List.contains_iff_mem.mp h2)
      have HA := (sndE a c _ _ h3 g O).de rfl
      have HB := (sndE b c _ _ h4 g O).de rfl
      exact Snd.both (fun _ => de_eqO O.gok O.sl hme ox.ne hc HA HB (behind_of h0)) (fun _ => dt_eqO O.gok O.sl hme ox.ne hc HA HB (behind_of h0)) rfl rfl
    · cases h
  | .lnO i ci a, c, m, e, h, g, O => by
    unfold chkE at h
    split at h
    · simp only [Bool.and_eq_true, decide_eq_true_eq, Bool.not_eq_true'] at h
      obtain ⟨h0, rfl, h1, h2, h3⟩ := h
      obtain ⟨fa, hcl, hme, hc⟩ := O.mths _ _ _ _ _ h1
      exact Snd.leaf (de_lnO O.gok O.sl (O.gl h0) (O.free _ (by decide +kernel)) hme hc ((sndE a c _ _ h3 g O).de rfl) h2) rfl rfl rfl
    · cases h
  | .isC ci a, c, m, e, h, g, O => by
    unfold chkE at h
    split at h
    · simp only [Bool.and_eq_true, decide_eq_true_eq, Bool.not_eq_true'] at h
      obtain ⟨h0, h1, rfl, h2, h3, h4⟩ := h
      obtain ⟨ok, hmg, it, ox⟩ := O.cls ci _ (List.contains_iff_mem.mp h2)
      obtain ⟨okb, fr, bb⟩ := BF.ok .isi
      exact Snd.leaf (de_callB (cd_isO it ox) (O.gl h0) (O.free _ fr) bb ((sndE a c _ _ h4 g O).de rfl) (da_cons (de_glob (v := .ref (S.c ci)) (O.gl h1) hmg rfl (fun _ => ii_ref) (okName.dbg ok)) da_nil rfl) h3 (okName.nm okb) (okName.dbg okb)) rfl rfl rfl
    · cases h
  | .lkE a, c, m, e, h, g, O => by
    unfold chkE at h
    simp only [Bool.and_eq_true, Bool.not_eq_true'] at h
    obtain ⟨h0, h2, h1⟩ := h
    exact Snd.val (by rw [h0]; rfl) (de_lkE ((sndE a c _ _ h1 g O).de rfl)) rfl
  | .dc own t it cs ke a, c, m, e, h, g, O => by
    unfold chkE at h
    split at h
    · simp only [Bool.and_eq_true, decide_eq_true_eq, Bool.not_eq_true'] at h
      rename_i kx vx tg iter ifs as scope pos
      obtain ⟨h0, rfl, hb, hs, hf, hi, hg, hc, hk1, he⟩ := h
      have hk := blk_kind hb
      have ok := blkOk_by hb
      rw [← O.N, ← O.sc] at ok
      have HI := sndI it c _ _ hi g O
      have HG := sndGB t c _ _ hk hg g O
      have HC := (sndC cs _ _ hc).blk hk O
      have HK : BlkE g scope kx (wE S ke) := fun s H C cl fp M1 H1 => (sndE ke _ _ _ hk1 _ (O.into hk s H C cl fp M1 H1)).de rfl
      have HE : BlkE g scope vx (wE S a) := fun s H C cl fp M1 H1 => (sndE a _ _ _ he _ (O.into hk s H C cl fp M1 H1)).de rfl
      exact Snd.val (by rw [h0]; rfl) (de_dc O.calm O.hN HI ok HG HC HK HE hs fun x => folded_of hf _ x) rfl
    · cases h
  | .dcT own t it cs ke a, c, m, e, h, g, O => by
    unfold chkE at h
    split at h
    · simp only [Bool.and_eq_true, decide_eq_true_eq, Bool.not_eq_true'] at h
      rename_i kx vx tg iter ifs as scope pos
      obtain ⟨h0, rfl, hb, hs, hf, hi, hg, hc, hk1, he⟩ := h
      have hk := blk_kind hb
      have ok := blkOk_by hb
      rw [← O.N, ← O.sc] at ok
      have HI := sndI it c _ _ hi g O
      have HG := sndGB t c _ _ hk hg g O
      have HC := (sndC cs _ _ hc).blk hk O
      have HK : BlkE g scope kx (wE S ke) := fun s H C cl fp M1 H1 => (sndE ke _ _ _ hk1 _ (O.into hk s H C cl fp M1 H1)).de rfl
      have HE : BlkE g scope vx (wE S a) := fun s H C cl fp M1 H1 => (sndE a _ _ _ he _ (O.into hk s H C cl fp M1 H1)).de rfl
      exact Snd.val (by rw [h0]; rfl) (de_dcT O.calm (by have := O.hu; omega) O.hN HI ok HG HC HK HE hs fun x => folded_of hf _ x) rfl
    · cases h
  | .srT a, c, m, e, h, g, O => by
    unfold chkE at h
    split at h
    · simp only [Bool.and_eq_true, decide_eq_true_eq, Bool.not_eq_true'] at h
      obtain ⟨hm, h0, rfl, h1, h2⟩ := h
      exact Snd.val (by rw [hm]; rfl) (de_callB (cd_sortedT O.calm (by have := O.hu; omega)) (O.gl h0) (O.free _ (by decide +kernel)) (by rfl) ((sndE a c _ _ h2 g O).de rfl) da_nil h1 (by decide +kernel) (by decide +kernel)) rfl
    · cases h
  | .newK, c, m, e, h, g, O => by
    unfold chkE at h
    split at h
    · exact Snd.val h de_newK rfl
    · cases h
  | .newT, c, m, e, h, g, O => by
    unfold chkE at h
    split at h
    · exact Snd.val h de_newT rfl
    · cases h
  | .ttX l, c, m, e, h, g, O => by
    unfold chkE at h
    split at h
    · simp only [Bool.and_eq_true, decide_eq_true_eq, Bool.not_eq_true'] at h
      obtain ⟨hm, h0, rfl, h1, h2, h3⟩ := h
      exact Snd.val (by rw [hm]; rfl) (de_tmpT cd_tupleX ok_tTupleX (O.gl h0) (O.free _ (by decide +kernel)) (by rfl) ((sndE l c _ _ h2 g O).dle rfl h3) h1 (by decide +kernel) (by decide +kernel)) rfl
    · cases h
  | .ctX a, c, m, e, h, g, O => by
    unfold chkE at h
    split at h
    · simp only [Bool.and_eq_true, decide_eq_true_eq, Bool.not_eq_true'] at h
      obtain ⟨hm, h0, rfl, h1, h2⟩ := h
      exact Snd.val (by rw [hm]; rfl) (de_callT cd_tupleX (O.gl h0) (O.free _ (by decide +kernel)) (by rfl) ((sndE a c _ _ h2 g O).de rfl) da_nil h1 (by decide +kernel) (by decide +kernel)) rfl
    · cases h
  | .ctK a, c, m, e, h, g, O => by
    unfold chkE at h
    split at h
    · simp only [Bool.and_eq_true, decide_eq_true_eq, Bool.not_eq_true'] at h
      obtain ⟨hm, h0, rfl, h1, h2⟩ := h
      exact Snd.val (by rw [hm]; rfl) (de_callT (cd_tupleK O.calm) (O.gl h0) (O.free _ (by decide +kernel)) (by rfl) ((sndE a c _ _ h2 g O).de rfl) da_nil h1 (by decide +kernel) (by decide +kernel)) rfl
    · cases h
  | .tupX es, c, m, e, h, g, O => by
    unfold chkE at h
    split at h
    · simp only [Bool.and_eq_true] at h
      exact Snd.val h.1 (de_tupX (sndEs es c _ h.2 g O)) rfl
    · cases h
  | .catX a b, c, m, e, h, g, O => by
    unfold chkE at h
    split at h
    · simp only [Bool.and_eq_true] at h
      obtain ⟨h0, h1, h2⟩ := h
      exact Snd.val h0 (de_bin opd_addX ((sndE a c _ _ h1 g O).de rfl) ((sndE b c _ _ h2 g O).de rfl)) rfl
    · cases h
  | .itX o, c, m, e, h, g, O => by
    unfold chkE at h
    split at h
    · simp only [Bool.and_eq_true, decide_eq_true_eq] at h
      obtain ⟨h0, h1, rfl, rfl, h2, h3, h4⟩ := h
      exact Snd.val h0 (de_itX O.calm ((sndE o c _ _ h4 g O).de rfl) (O.gl h1) (O.free _ (by decide +kernel)) (base_of h2) h3) rfl
    · cases h
  | .lz a b, c, m, e, h, g, O => by
    unfold chkE at h
    split at h
    · simp only [Bool.and_eq_true, decide_eq_true_eq, Bool.not_eq_true'] at h
      obtain ⟨h0, h1, rfl, h2, rfl, h3, h4, h5, h6⟩ := h
      exact Snd.val (by rw [h0]; rfl) (de_listZip O.calm (O.gl h2) (O.free _ (by decide +kernel)) (O.gl h1) (O.free _ (by decide +kernel)) (da_cons ((sndE a c _ _ h5 g O).de rfl) (da_cons ((sndE b c _ _ h6 g O).de rfl) da_nil h4) h3) h3 h4) rfl
    · cases h
  | .dz a b, c, m, e, h, g, O => by
    unfold chkE at h
    split at h
    · simp only [Bool.and_eq_true, decide_eq_true_eq, Bool.not_eq_true'] at h
      obtain ⟨h0, h1, rfl, h2, rfl, h3, h4, h5, h6⟩ := h
      exact Snd.val (by rw [h0]; rfl) (de_dictZip O.calm (O.gl h2) (O.free _ (by decide +kernel)) (O.gl h1) (O.free _ (by decide +kernel)) (da_cons ((sndE a c _ _ h5 g O).de rfl) (da_cons ((sndE b c _ _ h6 g O).de rfl) da_nil h4) h3) h3 h4) rfl
    · cases h
  | .dc2 own vs t it cs t1 it1 cs1 ke a, c, m, e, h, g, O => by
    unfold chkE at h
    split at h
    · simp only [Bool.and_eq_true, decide_eq_true_eq, Bool.not_eq_true'] at h
      rename_i kx vx tg iter ifs as tg1 iter1 ifs1 as1 scope pos
      obtain ⟨h0, rfl, rfl, hb, hs, hs1, hv, hf, hf1, hany, hi, hg, hc, hi1, hg1, hc1, hk1, he⟩ := h
      have hk := blk_kind hb
      have ok := blkOk_by hb
      rw [← O.N, ← O.sc] at ok
      have HI := sndI it c _ _ hi g O
      have HG := sndGB t c _ _ hk hg g O
      have HC := (sndC cs _ _ hc).blk hk O
      have HI1 : BlkI g scope tg1 iter1 (wI S it1) := by
        cases it1 with
        | any b => exact blkI_any fun s H C cl fp M1 H1 => (sndE b _ _ _ hi1 _ (O.into hk s H C cl fp M1 H1)).de rfl
        | _ => cases hany
      have HG1 := sndGB t1 c _ _ hk hg1 g O
      have HC1 := (sndC cs1 _ _ hc1).blk hk O
      have HK : BlkE g scope kx (wE S ke) := fun s H C cl fp M1 H1 => (sndE ke _ _ _ hk1 _ (O.into hk s H C cl fp M1 H1)).de rfl
      have HE : BlkE g scope vx (wE S a) := fun s H C cl fp M1 H1 => (sndE a _ _ _ he _ (O.into hk s H C cl fp M1 H1)).de rfl
      exact Snd.val (by rw [h0]; rfl) (de_dc2 O.calm O.hN HI ok hv HG HC HI1 HG1 HC1 HK HE hs hs1 (fun x => folded_of hf _ x) fun env x => folded_of hf1 env x) rfl
    · cases h
  | .lenS own t it cs a, c, m, e, h, g, O => by
    unfold chkE at h
    split at h
    · simp only [Bool.and_eq_true, decide_eq_true_eq, Bool.not_eq_true'] at h
      rename_i n p el tg iter ifs as scope pos pos2
      obtain ⟨h0, h1, rfl, rfl, hb, hs, hf, hi, hg, hc, he⟩ := h
      have hk := blk_kind hb
      have ok := blkOk_by hb
      rw [← O.N, ← O.sc] at ok
      have HI := sndI it c _ _ hi g O
      have HG := sndGB t c _ _ hk hg g O
      have HC := (sndC cs _ _ hc).blk hk O
      have HE : BlkE g scope el (wE S a) := fun s H C cl fp M1 H1 => (sndE a _ _ _ he _ (O.into hk s H C cl fp M1 H1)).de rfl
      exact Snd.val (by rw [h0]; rfl) (de_lenS O.calm O.hN (O.gl h1) (O.free _ (by decide +kernel)) HI ok HG HC HE hs fun x => folded_of hf _ x) rfl
    · cases h
  | .srI own t it cs a, c, m, e, h, g, O => by
    unfold chkE at h
    split at h
    · simp only [Bool.and_eq_true, decide_eq_true_eq, Bool.not_eq_true'] at h
      rename_i n p el tg iter ifs as scope pos pos2
      obtain ⟨h0, h1, rfl, rfl, hb, hs, hf, hi, hg, hc, he⟩ := h
      have hk := blk_kind hb
      have ok := blkOk_by hb
      rw [← O.N, ← O.sc] at ok
      have HI := sndI it c _ _ hi g O
      have HG := sndGB t c _ _ hk hg g O
      have HC := (sndC cs _ _ hc).blk hk O
      have HE : BlkE g scope el (wE S a) := fun s H C cl fp M1 H1 => (sndE a _ _ _ he _ (O.into hk s H C cl fp M1 H1)).de rfl
      exact Snd.val (by rw [h0]; rfl) (de_srI O.calm O.hN (O.gl h1) (O.free _ (by decide +kernel)) HI ok HG HC HE hs fun x => folded_of hf _ x) rfl
    · cases h
  | .mt t o a es, c, m, e, h, g, O => by
    unfold chkE at h
    split at h
    · simp only [Bool.and_eq_true, decide_eq_true_eq, Bool.not_eq_true'] at h
      obtain ⟨rfl, h0, h1, h2, h3, h4, h5, h6⟩ := h
      have hx := (sndE a c _ _ h5 g O).de rfl
      have ha := sndEs es c _ h6 g O
      exact Snd.leaf (de_mt (t.md O.hu) ((sndE o c _ _ h4 g O).de rfl) hx ha h3 (base_of h0) (few_of hx ha h3 h2) h1) rfl rfl rfl
    · cases h
  | .mt0 t o, c, m, e, h, g, O => by
    unfold chkE at h
    split at h
    · simp only [Bool.and_eq_true, decide_eq_true_eq] at h
      obtain ⟨rfl, h0, h1, h2⟩ := h
      exact Snd.leaf (de_mt0 (t.md O.hu) ((sndE o c _ _ h2 g O).de rfl) (base_of h0) h1) rfl rfl rfl
    · cases h
  | .lc own t it cs a, c, m, e, h, g, O => by
    unfold chkE at h
    split at h
    · simp only [Bool.and_eq_true, decide_eq_true_eq, Bool.not_eq_true'] at h
      rename_i el tg iter ifs as scope pos
      obtain ⟨h0, rfl, hb, hs, hf, hi, hg, hc, he⟩ := h
      have hk := blk_kind hb
      have ok := blkOk_by hb
      rw [← O.N, ← O.sc] at ok
      have HI := sndI it c _ _ hi g O
      have HG := sndGB t c _ _ hk hg g O
      have HC := (sndC cs _ _ hc).blk hk O
      have HE : BlkE g scope el (wE S a) := fun s H C cl fp M1 H1 => (sndE a _ _ _ he _ (O.into hk s H C cl fp M1 H1)).de rfl
      exact Snd.comp (by rw [h0]; rfl) (dle_lc O.calm O.hN HI ok HG HC HE hs fun x => folded_of hf _ x) rfl (fun i y py spos hy hyl hsw => ds_lc O.calm O.hN hy hyl hsw HI ok HG HC HE hs fun x => folded_of hf _ x) (fun i y py spos hy hyl hsw => ds_lcF O.calm O.hN hy hyl hsw HI ok HG HC HE hs fun x => folded_of hf _ x)
    · cases h
  | .lc2 own vs t it cs t1 it1 cs1 a, c, m, e, h, g, O => by
    unfold chkE at h
    split at h
    · simp only [Bool.and_eq_true, decide_eq_true_eq, Bool.not_eq_true'] at h
      rename_i el tg iter ifs as tg1 iter1 ifs1 as1 scope pos
      obtain ⟨h0, rfl, rfl, hb, hs, hs1, hv, hf, hf1, hany, hi, hg, hc, hi1, hg1, hc1, he⟩ := h
      have hk := blk_kind hb
      have ok := blkOk_by hb
      rw [← O.N, ← O.sc] at ok
      have HI := sndI it c _ _ hi g O
      have HG := sndGB t c _ _ hk hg g O
      have HC := (sndC cs _ _ hc).blk hk O
      have HI1 : BlkI g scope tg1 iter1 (wI S it1) := by
        cases it1 with
        | any b => exact blkI_any fun s H C cl fp M1 H1 => (sndE b _ _ _ hi1 _ (O.into hk s H C cl fp M1 H1)).de rfl
        | _ => cases hany
      have HG1 := sndGB t1 c _ _ hk hg1 g O
      have HC1 := (sndC cs1 _ _ hc1).blk hk O
      have HE : BlkE g scope el (wE S a) := fun s H C cl fp M1 H1 => (sndE a _ _ _ he _ (O.into hk s H C cl fp M1 H1)).de rfl
      exact Snd.comp (by rw [h0]; rfl) (dle_lc2 O.calm O.hN HI ok hv HG HC HI1 HG1 HC1 HE hs hs1 (fun x => folded_of hf _ x) fun env x => folded_of hf1 env x) rfl (fun i y py spos hy hyl hsw => ds_lc2 O.calm O.hN hy hyl hsw HI ok hv HG HC HI1 HG1 HC1 HE hs hs1 (fun x => folded_of hf _ x) fun env x => folded_of hf1 env x) (fun i y py spos hy hyl hsw => ds_lc2F O.calm O.hN hy hyl hsw HI ok hv HG HC HI1 HG1 HC1 HE hs hs1 (fun x => folded_of hf _ x) fun env x => folded_of hf1 env x)
    · cases h
theorem sndEs : ∀ (es : IEs) (c : Cc) (xs : List Expr), chkEs es c xs = true → ∀ g, CtxOk c S k g → DA g xs (wEs S es)
  | .nil, c, xs, h, g, O => by
    unfold chkEs at h
    split at h
    · exact da_nil
    · cases h
  | .cons a r, c, xs, h, g, O => by
    unfold chkEs at h
    split at h
    · simp only [Bool.and_eq_true, Bool.not_eq_true'] at h
      obtain ⟨h0, h1, h2⟩ := h
      exact da_cons ((sndE a c _ _ h1 g O).de rfl) (sndEs r c _ h2 g O) h0
    · cases h
theorem sndKs : ∀ (es : IEs) (c : Cc) (xs : List Keyword), chkKs es c xs = true → ∀ g, CtxOk c S k g → DKs g xs (wEs S es) (xs.filterMap (·.arg))
  | .nil, c, xs, h, g, O => by
    unfold chkKs at h
    split at h
    · exact dks_nil
    · cases h
  | .cons a r, c, xs, h, g, O => by
    unfold chkKs at h
    split at h
    · simp only [Bool.and_eq_true] at h
      exact dks_cons ((sndE a c _ _ h.1 g O).de rfl) (sndKs r c _ h.2 g O)
    · cases h
theorem sndDs : ∀ (d : IDs) (c : Cc) (ks : List (Option Expr)) (vs : List Expr), chkDs d c ks vs = true → ∀ g, CtxOk c S k g → DPs g ks vs (wDs S d)
  | .nil, c, ks, vs, h, g, O => by
    unfold chkDs at h
    split at h
    · exact .nil
    · cases h
  | .cons a b r, c, ks, vs, h, g, O => by
    unfold chkDs at h
    split at h
    · simp only [Bool.and_eq_true] at h
      exact .cons ((sndE a c _ _ h.1 g O).de rfl) ((sndE b c _ _ h.2.1 g O).de rfl) (sndDs r c _ _ h.2.2 g O)
    · cases h
theorem sndO : ∀ (o : IO) (c : Cc) (x : Option Expr), chkO o c x = true → ∀ g, CtxOk c S k g → DO g x (wO S o)
  | .no, c, x, h, g, O => by
    unfold chkO at h
    split at h
    · exact do_none
    · cases h
  | .yes a, c, x, h, g, O => by
    unfold chkO at h
    split at h
    · exact do_some ((sndE a c _ _ h g O).de rfl)
    · cases h
theorem sndC : ∀ (o : IO) (c : Cc) (xs : List Expr), chkC o c xs = true → CsOk S k o c xs
  | .no, c, x, h => by
    unfold chkC at h
    split at h
    · exact .inl ⟨rfl, rfl⟩
    · cases h
  | .yes a, c, x, h => by
    unfold chkC at h
    split at h
    · exact .inr ⟨a, _, rfl, rfl, fun g O => (sndE a c _ _ h g O).dt rfl⟩
    · cases h
theorem sndI : ∀ (it : II) (c : Cc) (t x : Expr), chkI it c t x = true → ∀ g, CtxOk c S k g → DI g t x (wI S it)
  | .any a, c, t, x, h, g, O => by
    unfold chkI at h
    exact di_any ((sndE a c _ _ h g O).de rfl)
  | .rg1 a, c, t, x, h, g, O => by
    unfold chkI at h
    split at h
    · simp only [Bool.and_eq_true, decide_eq_true_eq, Bool.not_eq_true'] at h
      obtain ⟨h0, rfl, h1, h2⟩ := h
      exact di_range1 (O.gl h0) (O.free _ (by decide +kernel)) (da_cons ((sndE a c _ _ h2 g O).de rfl) da_nil h1) h1
    · cases h
  | .rg2 a b, c, t, x, h, g, O => by
    unfold chkI at h
    split at h
    · simp only [Bool.and_eq_true, decide_eq_true_eq, Bool.not_eq_true'] at h
      obtain ⟨h0, rfl, h1, h2, h3, h4⟩ := h
      exact di_range2 (O.gl h0) (O.free _ (by decide +kernel)) (da_cons ((sndE a c _ _ h3 g O).de rfl) (da_cons ((sndE b c _ _ h4 g O).de rfl) da_nil h2) h1) h1 h2
    · cases h
  | .en a, c, t, x, h, g, O => by
    unfold chkI at h
    split at h
    · simp only [Bool.and_eq_true, decide_eq_true_eq, Bool.not_eq_true'] at h
      obtain ⟨h0, rfl, h1, h2⟩ := h
      exact di_enum (O.gl h0) (O.free _ (by decide +kernel)) (da_cons ((sndE a c _ _ h2 g O).de rfl) da_nil h1) h1
    · cases h
  | .zp a b, c, t, x, h, g, O => by
    unfold chkI at h
    split at h
    · simp only [Bool.and_eq_true, decide_eq_true_eq, Bool.not_eq_true'] at h
      obtain ⟨h0, rfl, h1, h2, h3, h4⟩ := h
      exact di_zip (O.gl h0) (O.free _ (by decide +kernel)) (da_cons ((sndE a c _ _ h3 g O).de rfl) (da_cons ((sndE b c _ _ h4 g O).de rfl) da_nil h2) h1) h1 h2
    · cases h
  | .zpR a b, c, t, x, h, g, O => by
    unfold chkI at h
    split at h
    · simp only [Bool.and_eq_true, decide_eq_true_eq, Bool.not_eq_true'] at h
      obtain ⟨h0, rfl, h1, h2, h3, h4⟩ := h
      exact di_zipR (O.gl h0) (O.free _ (by decide +kernel)) (da_cons ((sndE a c _ _ h3 g O).de rfl) (da_cons ((sndE b c _ _ h4 g O).de rfl) da_nil h2) h1) h1 h2
    · cases h
  | .ky a, c, t, x, h, g, O => by
    unfold chkI at h
    exact di_ky ((sndE a c _ _ h g O).de rfl)
  | .itm a, c, t, x, h, g, O => by
    unfold chkI at h
    split at h
    · simp only [Bool.and_eq_true, decide_eq_true_eq] at h
      obtain ⟨rfl, h0, h1, h2⟩ := h
      exact di_itm ((sndE a c _ _ h2 g O).de rfl) (base_of h0) h1
    · cases h
end
end
end DL

namespace DL
open PySem PySem.Spec PyProof.Rows L2
section
variable {S : Tb} {k : Nat}
theorem noSwap_ok {c : Cc} {g : Gd} (O : CtxOk c S k g) {t x : Expr} (h : noSwap c t x = true) : swappedStores [t] x g.X.env = pure none := by
  unfold noSwap at h
  split at h
  · rename_i a _ b _ _ _
    rw [Bool.or_eq_true] at h
    rcases h with h | h
    · refine nopair_of ?_
      have e : ∀ n, g.X.env.kindOf n = c.kd n := fun n => by show g.X.env.scope.names.lookup n = _; rw [O.sc]; rfl
      rw [e, e]
      have l : ∀ z : Option NameKind, decide (z = some .local) = locB z := fun z => by
        cases z with
        | none => rfl
        | some z => cases z <;> rfl
      rw [l, l]
      cases h1 : locB (c.kd a) <;> cases h2 : locB (c.kd b) <;> first | rfl | (rw [h1, h2] at h; cases h)
    · exact stores_of (by cases x <;> first | rfl | cases h)
  · exact stores_long
  · exact stores_mixed
  · exact stores_of h
theorem triB_ok {tg : IG} {a : IE} {c : Cc} {st : Stmt} {g : Gd} (h : triB tg a c st = true) (O : CtxOk c S k g) : DS g st (wS S (.asg tg a)) := by
  unfold triB at h
  split at h
  · rename_i i j l a b d x p y q z r _ _ u v w _ _ _
    simp only [Bool.and_eq_true, Bool.not_eq_true', decide_eq_true_eq] at h
    obtain ⟨⟨i1, i2, i3⟩, ⟨s1, s2, s3⟩, ⟨k1, k2, k3⟩, ⟨l1, l2⟩, ⟨n1, n2, n3⟩, ⟨t1, t2, t3⟩, ⟨f1, f2⟩, c1, c2, c3⟩ := h
    have e : ∀ n, locB (c.kd n) = true → g.X.env.scope.names.lookup n = some .local := fun n hn => by
      rw [O.sc]
      unfold locB at hn
      split at hn
      · assumption
      · cases hn
    exact ds_par3 O.calm O.hN (O.slot s1).1 (O.slot s2).1 (O.slot s3).1 i1 i2 i3 (e _ k1) (e _ k2) (e _ k3) ((sndE a c _ _ c1 g O).de rfl) ((sndE b c _ _ c2 g O).de rfl) ((sndE d c _ _ c3 g O).de rfl) t1 t2 t3 (three_of (by rw [O.sc]; exact O.kind) (e _ k1) (e _ k2) (e _ k3) l1 l2 n1 n2 n3 t1 t2 t3 f1 f2)
  · cases h
theorem sw_cell {elt : Expr} {gs : List Comprehension} {scope : Scope} {pos py : Pos} {y : Str} {l : Nat} {env : PySem.Env} (h : locB (env.kindOf y) = false) : swapsWith (.ListComp elt gs scope pos) (some (.Name y py)) l env = pure false := by
  have e : (env.kindOf y == some .local) = false := by
    cases h2 : env.kindOf y with
    | none => rfl
    | some z => cases z <;> first | rfl | (rw [h2] at h; cases h)
  unfold swapsWith
  simp only [e, Bool.and_false, Bool.false_and]
mutual
theorem sndS : ∀ (s : IS) (c : Cc) (st : Stmt), chkS s c st = true → ∀ g, CtxOk c S k g → PassesOwn (model g.X.prog g.X.w) g.X.A g.X.env g.X.xe → DS g st (wS S s)
  | .ex a, c, st, h, g, O, hp => by
    unfold chkS at h
    split at h
    · simp only [Bool.and_eq_true] at h
      exact ds_expr ((sndE a c _ _ h.2 g O).de rfl) (swaps_of h.1)
    · cases h
  | .asg t a, c, st, h, g, O, hp => by
    unfold chkS at h
    rw [Bool.or_eq_true] at h
    rcases h with h | h
    · exact triB_ok h O
    split at h
    · rename_i tg x pos
      simp only [Bool.and_eq_true, Bool.not_eq_true'] at h
      obtain ⟨h0, h1, h2, h3, h4⟩ := h
      have HG := sndG t c tg h2 g O
      have HE := sndE a c false x h3 g O
      cases hn : notComp x with
      | true => exact ds_asg (HE.de rfl) HG h0 (sole_of hn) (noSwap_ok O h1)
      | false =>
        rw [hn, Bool.false_or] at h4
        split at h4
        · rename_i y p elt gs sc q
          cases hl : p.line == q.line with
          | false => exact ds_asg (HE.de rfl) HG h0 (sw_false (l := pos.line) hl) (noSwap_ok O h1)
          | true =>
           cases hk : locB (c.kd y) with
           | false => exact ds_asg (HE.de rfl) HG h0 (sw_cell (l := pos.line) (by rw [show g.X.env.kindOf y = c.kd y from by show g.X.env.scope.names.lookup y = _; rw [O.sc]; rfl]; exact hk)) (noSwap_ok O h1)
           | true =>
            rw [hl, hk, Bool.not_true, Bool.or_false, Bool.false_or, Bool.and_eq_true] at h4
            obtain ⟨h5, h6⟩ := h4
            have e1 : c.kd y = some .local := by
              split at h5
              · assumption
              · cases h5
            have e2 : g.X.env.scope.names.lookup y = some .local := by rw [O.sc]; exact e1
            cases t with
            | tp => cases h2
            | st => cases h2
            | nm i =>
              have h2' : slotB c i y = true := by
                unfold chkG at h2
                simp only [Bool.and_eq_true] at h2
                exact h2.1
              have hsw := sw_true (env := g.X.env) (l := pos.line) (py := p) (elt := elt) (gs := gs) (scope := sc) (pos := q) (by rw [O.sc]; exact O.kind) e2 hl (by simpa using h6)
              have hlc : isLc a = true ∨ (∃ l, a = .lcF l) ∨ a = .bad ∨ ∃ l, a = .fz l := by
                cases a <;> first | exact .inl rfl | exact .inr (.inl ⟨_, rfl⟩) | exact .inr (.inr (.inl rfl)) | exact .inr (.inr (.inr ⟨_, rfl⟩)) | (unfold chkE at h3; cases h3)
              rcases hlc with hlc | ⟨l, rfl⟩ | rfl | ⟨l, rfl⟩
              · exact HE.slc rfl hlc i y p pos (O.slot h2').1 e2 hsw
              · unfold chkE at h3
                simp only [Bool.and_eq_true] at h3
                exact (sndE l c false _ h3.2.2 g O).slcF rfl h3.2.1 i y p pos (O.slot h2').1 e2 hsw
              · exact ds_bad
              · unfold chkE at h3
                simp only [Bool.and_eq_true] at h3
                rw [hn] at h3
                cases h3.2.1
        · exact ds_asg (HE.de rfl) HG h0 rfl (noSwap_ok O h1)
        · cases h4
    · cases h
  | .sto o i a, c, st, h, g, O, hp => by
    unfold chkS at h
    split at h
    · simp only [Bool.and_eq_true, Bool.not_eq_true'] at h
      obtain ⟨h0, h1, h2, h3, h4⟩ := h
      exact ds_asg ((sndE a c _ _ h4 g O).de rfl) (dg_sub (by have := O.hu; omega) ((sndE o c _ _ h2 g O).de rfl) ((sndE i c _ _ h3 g O).de rfl) (sub_of h0)) rfl (sole_of h1) (stores_of rfl)
    · cases h
  | .sto2 o i o2 i2 a, c, st, h, g, O, hp => by
    unfold chkS at h
    split at h
    · simp only [Bool.and_eq_true, Bool.not_eq_true'] at h
      obtain ⟨h0, h1, h2, h3, h4, h5, h6, h7⟩ := h
      have hu : g.X.A.units + 1 < cLine := by have := O.hu; omega
      exact ds_asg ((sndE a c _ _ h7 g O).de rfl) (dg_tup2 O.calm (dgs_cons (dg_sub hu ((sndE o c _ _ h3 g O).de rfl) ((sndE i c _ _ h4 g O).de rfl) (sub_of h0)) (dgs_cons (dg_sub hu ((sndE o2 c _ _ h5 g O).de rfl) ((sndE i2 c _ _ h6 g O).de rfl) (sub_of h1)) dgs_nil rfl) rfl) rfl rfl) rfl (sole_of h2) stores_sub
    · cases h
  | .hed o d a, c, st, h, g, O, hp => by
    unfold chkS at h
    split at h
    · simp only [Bool.and_eq_true] at h
      obtain ⟨h1, h2, h3, h4⟩ := h
      exact ds_asg ((sndE a c _ _ h4 g O).de rfl) (dg_head ((sndE o c _ _ h2 g O).de rfl) (do_some ((sndE d c _ _ h3 g O).de rfl))) rfl (sole_of h1) (stores_of rfl)
    · cases h
  | .aug add i a, c, st, h, g, O, hp => by
    unfold chkS at h
    split at h
    · simp only [Bool.and_eq_true, decide_eq_true_eq] at h
      obtain ⟨ho, h1, h2, h3⟩ := h
      obtain ⟨hN, ok⟩ := O.slot h1
      have HE := (sndE a c false _ h3 g O).de rfl
      split at h2
      · rename_i e1
        have e1' := (congrArg (fun z : Scope => z.names.lookup _) O.sc).trans e1
        exact ds_aug add ho O.hN hN (.inl e1') (.inr e1') HE
      · rename_i e1
        have e1' := (congrArg (fun z : Scope => z.names.lookup _) O.sc).trans e1
        exact ds_aug add ho O.hN hN (.inr e1') (.inl (O.fn (by simpa using h2) _)) HE
      · cases h2
    · cases h
  | .sfl ci f o a, c, st, h, g, O, hp => by
    unfold chkS at h
    split at h
    · simp only [Bool.and_eq_true, decide_eq_true_eq, List.contains_iff_mem] at h
      obtain ⟨rfl, h1, h3, h4⟩ := h
      obtain ⟨hc, hn⟩ := O.flds _ _ h1
      exact ds_sfl ((sndE o c _ _ h3 g O).de rfl) ((sndE a c _ _ h4 g O).de rfl) hc hn (swaps_att _)
    · cases h
  | .bad, c, st, h, g, O, hp => ds_bad
  | .lkS a, c, st, h, g, O, hp => by
    unfold chkS at h
    exact ds_lkS (sndS a c st h g O hp)
  | .par i j a b, c, st, h, g, O, hp => by
    unfold chkS at h
    split at h
    · rename_i x p y q kt pt u v k2 pt2 pos
      simp only [Bool.and_eq_true, Bool.not_eq_true', decide_eq_true_eq] at h
      obtain ⟨hij, h1, h2, h3, h4, h5, h6, h7, h8, h9, h10, h11⟩ := h
      have e : c.kd x = some .local ∧ c.kd y = some .local := by
        split at h3
        · exact ⟨by assumption, by assumption⟩
        · cases h3
      have ex : g.X.env.scope.names.lookup x = some .local := by rw [O.sc]; exact e.1
      have ey : g.X.env.scope.names.lookup y = some .local := by rw [O.sc]; exact e.2
      exact ds_par O.calm O.hN (O.slot h1).1 (O.slot h2).1 hij ex ey ((sndE a c _ _ h10 g O).de rfl) ((sndE b c _ _ h11 g O).de rfl) h6 h7 (pair_of (by rw [O.sc]; exact O.kind) ex ey h4 h5 h6 h7 h8 h9)
    · cases h
  | .ret a, c, st, h, g, O, hp => by
    unfold chkS at h
    split at h
    · exact ds_ret ((sndE a c _ _ h g O).de rfl)
    · cases h
  | .retN, c, st, h, g, O, hp => by
    unfold chkS at h
    split at h
    · exact ds_retN
    · cases h
  | .iff t a b, c, st, h, g, O, hp => by
    unfold chkS at h
    split at h
    · simp only [Bool.and_eq_true] at h
      exact ds_if ((sndE t c _ _ h.1 g O).dt rfl) (sndSs a c _ h.2.1 g O hp) (sndSs b c _ h.2.2 g O hp)
    · cases h
  | .fo t it b, c, st, h, g, O, hp => by
    unfold chkS at h
    split at h
    · simp only [Bool.and_eq_true, Bool.not_eq_true'] at h
      obtain ⟨h0, h1, h2, h3⟩ := h
      exact ds_for hp O.calm (sndI it c _ _ h1 g O) (sndG t c _ h2 g O) (sndSs b c _ h3 g O hp) fun x => folded_of h0 _ x
    · cases h
  | .wh t b, c, st, h, g, O, hp => by
    unfold chkS at h
    split at h
    · simp only [Bool.and_eq_true] at h
      exact ds_while hp ((sndE t c _ _ h.1 g O).dt rfl) (sndSs b c _ h.2 g O hp)
    · cases h
  | .pas, c, st, h, g, O, hp => by
    unfold chkS at h
    split at h
    · exact ds_pass
    · cases h
  | .brk, c, st, h, g, O, hp => by
    unfold chkS at h
    split at h
    · exact ds_break
    · cases h
  | .cnt, c, st, h, g, O, hp => by
    unfold chkS at h
    split at h
    · exact ds_continue
    · cases h
theorem sndSs : ∀ (s : ISs) (c : Cc) (st : List Stmt), chkSs s c st = true → ∀ g, CtxOk c S k g → PassesOwn (model g.X.prog g.X.w) g.X.A g.X.env g.X.xe → DSs g st (wSs S s)
  | .nil, c, st, h, g, O, hp => by
    unfold chkSs at h
    split at h
    · exact ds_nil
    · cases h
  | .cons a r, c, st, h, g, O, hp => by
    unfold chkSs at h
    split at h
    · simp only [Bool.and_eq_true] at h
      exact ds_cons (sndS a c _ h.1 g O hp) (sndSs r c _ h.2 g O hp)
    · cases h
  | .frz i r, c, st, h, g, O, hp => by
    unfold chkSs at h
    exact ds_frz i (sndSs r c st h g O hp)
  | .frzK i r, c, st, h, g, O, hp => by
    unfold chkSs at h
    exact ds_frzK i (sndSs r c st h g O hp)
  | .fgt r, c, st, h, g, O, hp => by
    unfold chkSs at h
    exact ds_forget (sndSs r c st h g O hp)
end
end
structure TabOk (P : Program) (w : World) (K : PySem.W.Frag) (mg : Str → Option Value) (base : Heap) (c : Cc) (S : Tb) (k : Nat) : Prop where
  free : ∀ n ∈ freeNames, mg n = none
  cs : ∀ n d, c.cs.lookup n = some d → okName n = true ∧ ∃ u, mg n = some u ∧ RelV d.v u
  cals : ∀ i n np ks, c.cals[i]? = some (n, np, ks) → okName n = true ∧ GlobOk P w K mg base k n np ks (S.g i)
  mths : ∀ i ci m np ks, c.mths[i]? = some (ci, m, np, ks) → MethOk P w K mg base k (S.c ci) m np ks (S.m i)
  flds : ∀ ci f, (ci, f) ∈ c.flds → Cls K (S.c ci) ∧ NoAttr K (S.c ci) f
  cls : ∀ ci n, (ci, n) ∈ c.cls → okName n = true ∧ mg n = some (.ref (S.c ci)) ∧ InsT K (S.c ci) ∧ OwnX K (S.c ci)
def scB (c : Cc) (ps : List Str) : Bool :=
  (match c.sc.kind with | .function => true | _ => false) && (!c.sc.isCoroutine && (!c.sc.isGenerator && (decide c.N.Nodup && (c.N.all okName && (decide (c.N.take ps.length = ps) &&
    ((ps.all fun x => match c.sc.names.lookup x with | some .local => true | some .cell => true | _ => false) && (c.sc.names.all fun y => match y.2 with | .free => false | _ => true)))))))
theorem scB_ok {c : Cc} {ps : List Str} (h : scB c ps = true) : FnScope c.N ps c.sc ∧ ∀ n ∈ c.N, okName n = true := by
  unfold scB at h
  simp only [Bool.and_eq_true, Bool.not_eq_true', decide_eq_true_eq, List.all_eq_true] at h
  obtain ⟨h1, h2, h3, h4, h5, h6, h7, h8⟩ := h
  refine ⟨⟨?_, h2, h3, h4, h6, fun x hx => ?_, fun y hy z => ?_⟩, h5⟩
  · split at h1
    · assumption
    · cases h1
  · have q := h7 x hx
    split at q
    · exact .inl (by assumption)
    · exact .inr (by assumption)
    · cases q
  · have q := h8 y hy
    rw [z] at q
    cases q
theorem fnG_chk {P : Program} {w : World} {K : PySem.W.Frag} {mg : Str → Option Value} {base : Heap} {k : Nat} {f : Addr} {name qual : Str} {params : Arguments} {body : List Stmt} {dV kV doc pm cdv ct oc : Value} {an od : Option Addr} {osl : Array (Option Value)} {ps : List Str} {sp : DSp} {c : Cc} {S : Tb} (ir : ISs)
    (lk : K.lookup f = some ⟨oc, od, .func (PySem.W.fnOf name qual params body c.sc dV kV doc pm an cdv ct), osl⟩) (hcd : PySem.W.codeIn K cdv qual = true) (hsc : scB c ps = true) (hb : c.blk = false) (hk : chkSs ir c body = true) (len : ∀ ds M Q E, sp ds M Q E → ds.length = ps.length)
    (T : TabOk P w K mg base c S k) (law : ∀ ds M Q E, sp ds M Q E → wSs S ir { nx := fun _ M' => ∃ M2, Sub M2 M' ∧ Q .non M2, rt := fun d M' => ∃ M2, Sub M2 M' ∧ Q d M2 } E (startD c.N.length ds) M) :
    FnG P w K mg base (k + 1) f (PySem.W.fnOf name qual params body c.sc dV kV doc pm an cdv ct) ps sp := by
  obtain ⟨FS, nn⟩ := scB_ok hsc
  refine fnG_of lk hcd FS len fun A outer s H ds M Q E XV hr sl hg hX hsp => ⟨_, sndSs (k := k) ir c body hk _ ?_ ?_, law ds M Q E hsp⟩
  · exact ⟨rfl, rfl, FS.nd, nn, FS.kind, rfl, ⟨hr, hg, (takes_of rfl rfl rfl rfl).imp fun cc d σ H' z => hX cc d H' z⟩, fun _ _ => rfl, T.free, T.cs, T.cals, T.mths, T.flds, sl, T.cls⟩
  · exact passes_of rfl
end DL

namespace DL
open PySem PySem.Spec PyProof.Rows L2
mutual
/-- numbers, texts, None, tuples and read-only lists of such, at most n deep -/
def good : D → Nat → Bool
  | .non, _ => true
  | .int _, _ => true
  | .str _, _ => true
  | .tup xs, n => match n with | 0 => false | m + 1 => goodL xs m
  | .rl xs, n => match n with | 0 => false | m + 1 => goodL xs m
  | .bl _, _ => false
  | .tx _, _ => false
  | .rk _ _, _ => false
  | .ref _, _ => false
  | .ty _, _ => false
def goodL : List D → Nat → Bool
  | [], _ => true
  | x :: xs, n => good x n && goodL xs n
end
mutual
theorem good_flat : ∀ (d : D) (n : Nat), good d n = true → flatD d = true ∧ (toPy d).plain = true ∧ (toPy d).depth ≤ n
  | .non, n, _ => ⟨rfl, rfl, Nat.zero_le _⟩
  | .int _, n, _ => ⟨rfl, rfl, Nat.zero_le _⟩
  | .str _, n, _ => ⟨rfl, rfl, Nat.zero_le _⟩
  | .tup xs, 0, h => by unfold good at h; cases h
  | .tup xs, m + 1, h => by
    unfold good at h
    obtain ⟨h1, h2, h3⟩ := goodL_flat xs m h
    refine ⟨by unfold flatD; exact h1, by unfold toPy; rw [PyData.plain]; exact h2, by unfold toPy; rw [PyData.depth]; omega⟩
  | .rl xs, 0, h => by unfold good at h; cases h
  | .rl xs, m + 1, h => by
    unfold good at h
    obtain ⟨h1, h2, h3⟩ := goodL_flat xs m h
    refine ⟨by unfold flatD; exact h1, by unfold toPy; rw [PyData.plain]; exact h2, by unfold toPy; rw [PyData.depth]; omega⟩
  | .bl _, _, h => by unfold good at h; cases h
  | .tx _, _, h => by unfold good at h; cases h
  | .rk _ _, _, h => by unfold good at h; cases h
  | .ref _, _, h => by unfold good at h; cases h
  | .ty _, _, h => by unfold good at h; cases h
theorem goodL_flat : ∀ (ds : List D) (n : Nat), goodL ds n = true → flatDL ds = true ∧ PyData.plainAll (toPyL ds) = true ∧ PyData.depthAll (toPyL ds) ≤ n
  | [], n, _ => ⟨rfl, by unfold toPyL; rw [PyData.plainAll], by unfold toPyL; rw [PyData.depthAll]; omega⟩
  | x :: xs, n, h => by
    unfold goodL at h
    rw [Bool.and_eq_true] at h
    obtain ⟨h1, h2, h3⟩ := good_flat x n h.1
    obtain ⟨g1, g2, g3⟩ := goodL_flat xs n h.2
    refine ⟨by unfold flatDL; rw [h1, g1]; rfl, by unfold toPyL; rw [PyData.plainAll, h2, g2]; rfl, by unfold toPyL; rw [PyData.depthAll]; exact Nat.max_le.mpr ⟨h3, g3⟩⟩
end
mutual
theorem good_eqv : ∀ (x y : D) (n m : Nat), good x n = true → good y m = true → (PyData.eqv (toPy x) (toPy y) = true ↔ x = y)
  | .non, y, n, m, _, h => by
    cases y <;> first | (unfold good at h; cases h; done) | simp [toPy, PyData.eqv]
  | .int i, y, n, m, _, h => by
    cases y <;> first | (unfold good at h; cases h; done) | simp [toPy, PyData.eqv]
  | .str i, y, n, m, _, h => by
    cases y <;> first | (unfold good at h; cases h; done) | simp [toPy, PyData.eqv]
  | .tup xs, y, n, m, g, h => by
    cases n with
    | zero => unfold good at g; cases g
    | succ n =>
      cases y with
      | tup ys =>
        cases m with
        | zero => unfold good at h; cases h
        | succ m =>
          unfold good at g h
          simp only [toPy, PyData.eqv, D.tup.injEq]
          exact goodL_eqv xs ys n m g h
      | _ => first | (unfold good at h; cases h; done) | simp [toPy, PyData.eqv]
  | .rl xs, y, n, m, g, h => by
    cases n with
    | zero => unfold good at g; cases g
    | succ n =>
      cases y with
      | rl ys =>
        cases m with
        | zero => unfold good at h; cases h
        | succ m =>
          unfold good at g h
          simp only [toPy, PyData.eqv, D.rl.injEq]
          exact goodL_eqv xs ys n m g h
      | _ => first | (unfold good at h; cases h; done) | simp [toPy, PyData.eqv]
  | .bl _, _, _, _, h, _ => by unfold good at h; cases h
  | .tx _, _, _, _, h, _ => by unfold good at h; cases h
  | .rk _ _, _, _, _, h, _ => by unfold good at h; cases h
  | .ref _, _, _, _, h, _ => by unfold good at h; cases h
  | .ty _, _, _, _, h, _ => by unfold good at h; cases h
theorem goodL_eqv : ∀ (xs ys : List D) (n m : Nat), goodL xs n = true → goodL ys m = true → (PyData.eqvAll (toPyL xs) (toPyL ys) = true ↔ xs = ys)
  | [], ys, n, m, _, h => by cases ys <;> simp [toPyL, PyData.eqvAll]
  | x :: xs, ys, n, m, g, h => by
    cases ys with
    | nil => simp [toPyL, PyData.eqvAll]
    | cons y ys =>
      unfold goodL at g h
      rw [Bool.and_eq_true] at g h
      simp only [toPyL, PyData.eqvAll, Bool.and_eq_true, List.cons.injEq, good_eqv x y n m g.1 h.1, goodL_eqv xs ys n m g.2 h.2]
end
theorem good_ok {d : D} {n : Nat} (h : good d n = true) (hn : n ≤ 64) : okP (toPy d) = true := by
  obtain ⟨_, h2, h3⟩ := good_flat d n h
  unfold okP
  rw [h2, decide_eq_true (Nat.le_trans h3 hn)]
  rfl
theorem goodL_all {xs : List D} {n : Nat} : goodL xs n = true ↔ ∀ x ∈ xs, good x n = true := by
  induction xs with
  | nil => simp [goodL]
  | cons x xs ih => simp [goodL, ih]
theorem toPyL_map (xs : List D) : toPyL xs = xs.map toPy := by
  induction xs with
  | nil => rfl
  | cons x xs ih => rw [toPyL, ih]; rfl
section
variable {x y : D} {xs : List D} {M : Mem} {Q : QE} {n : Nat}
theorem dEqB_good {Qb : Bool → Prop} (hx : good x 64 = true) (hy : good y 64 = true) (h : ∀ b : Bool, (b = true ↔ x = y) → Qb b) : dEqB x y M Qb := by
  unfold dEqB
  cases e : scalD x y with
  | some b =>
    refine h b ?_
    cases x <;> cases y <;> simp only [scalD, Option.some.injEq, reduceCtorEq] at e <;> first | (subst e; simp; done) | (cases e; done) | (unfold good at hx; cases hx; done) | (unfold good at hy; cases hy; done)
  | none =>
    exact .inl ⟨_, _, PD.of x (good_flat x _ hx).1, PD.of y (good_flat y _ hy).1, good_ok hx (Nat.le_refl _), good_ok hy (Nat.le_refl _), h _ (good_eqv x y _ _ hx hy)⟩
theorem dEq_good (hx : good x 64 = true) (hy : good y 64 = true) (h : ∀ b : Bool, (b = true ↔ x = y) → Q (.bl b) M) : dEq x y M Q := dEqB_good hx hy h
theorem inSeq_good {Qb : Bool → Prop} (hx : good x 64 = true) (hy : goodL xs 63 = true) (h : ∀ b : Bool, (b = true ↔ x ∈ xs) → Qb b) : inSeq x xs M Qb := by
  refine .inr ⟨toPy x, toPyL xs, PD.of x (good_flat x _ hx).1, PDL.of xs (goodL_flat xs _ hy).1, good_ok hx (Nat.le_refl _), ?_, h _ ?_⟩
  · have : good (.tup xs) 64 = true := by unfold good; exact hy
    have := good_ok this (Nat.le_refl _)
    simpa [okP, PyData.plain, PyData.depth, toPy] using this
  · rw [toPyL_map, List.any_map, List.any_eq_true]
    constructor
    · rintro ⟨z, hz, e⟩
      have e' : PyData.eqv (toPy z) (toPy x) = true := e
      rw [good_eqv z x _ _ (goodL_all.mp hy z hz) hx] at e'
      exact e' ▸ hz
    · intro hz
      exact ⟨x, hz, (good_eqv x x _ _ hx hx).mpr rfl⟩
theorem dIn_tup {neg : Bool} (hx : good x 64 = true) (hy : goodL xs 63 = true) (h : ∀ b : Bool, (b = true ↔ x ∈ xs) → Q (.bl (if neg then !b else b)) M) : dIn neg x (.tup xs) M Q := inSeq_good hx hy h
end
end DL

namespace DL
open PySem PySem.Spec PyProof.Rows L2
section
variable {M : Mem} {Q : QE} {a : Addr} {xs ys : List D} {k i j : Int} {v x y : D}
theorem dIx_ref (h : M a = some (.lst xs)) : dIx (.ref a) (.int k) M Q ↔ ∃ d, L2.atI xs k = some d ∧ Q d M := by
  constructor
  · rintro (⟨xs', i, d, h1, h2, h3, q⟩ | ⟨_, _, _, h1, _⟩ | ⟨_, _, _, _, h1, _⟩)
    · rw [h] at h1; cases h1; cases h2; exact ⟨d, h3, q⟩
    · rw [h] at h1; cases h1
    · rw [h] at h1; cases h1
  · rintro ⟨d, h1, q⟩
    exact .inl ⟨xs, k, d, h, rfl, h1, q⟩
theorem dIx_tup : dIx (.tup xs) (.int k) M Q ↔ ∃ d, L2.atI xs k = some d ∧ Q d M := Iff.rfl
theorem dIx_rl : dIx (.rl xs) (.int k) M Q ↔ ∃ d, L2.atI xs k = some d ∧ Q d M := Iff.rfl
theorem dIx_str {z : Str} : dIx (.str z) (.int k) M Q ↔ z.length ≤ sizeLine ∧ ∃ c, L2.atI z.cps.toList k = some c ∧ Q (.str ⟨#[c]⟩) M := Iff.rfl
theorem atI_0 {α : Type} {x : α} {r : List α} : L2.atI (x :: r) 0 = some x := by
  unfold L2.atI L2.ixN
  rw [if_pos (Int.le_refl 0), if_pos (by rw [List.length_cons]; omega)]
  rfl
theorem ixN_nat {n k : Nat} (h : k < n) : L2.ixN n (k : Int) = some k := by
  unfold L2.ixN
  rw [if_pos (by omega), if_pos (by omega)]
  rfl
theorem atI_nat {α : Type} {r : List α} {k : Nat} (h : k < r.length) : L2.atI r (k : Int) = some r[k] := by
  unfold L2.atI
  rw [ixN_nat h]
  exact List.getElem?_eq_getElem h
theorem atI_1 {α : Type} {x y : α} {r : List α} : L2.atI (x :: y :: r) 1 = some y := atI_nat (k := 1) (by simp)
theorem atI_2 {α : Type} {x y z : α} {r : List α} : L2.atI (x :: y :: z :: r) 2 = some z := atI_nat (k := 2) (by simp)
theorem dSet_ref (h : M a = some (.lst xs)) {R : Mem → Prop} : dSet (.ref a) (.int k) v M R ↔ ∃ j, L2.ixN xs.length k = some j ∧ R (wr M a (.lst (xs.set j v))) := by
  constructor
  · rintro (⟨xs', i, j, h1, h2, h3, q⟩ | ⟨_, _, h1, _⟩ | ⟨_, _, _, h1, _⟩)
    · rw [h] at h1; cases h1; cases h2; exact ⟨j, h3, q⟩
    · rw [h] at h1; cases h1
    · rw [h] at h1; cases h1
  · rintro ⟨j, h1, q⟩
    exact .inl ⟨xs, k, j, h, rfl, h1, q⟩
theorem lenD_ref (h : M a = some (.lst xs)) : rLenD [.ref a] M Q ↔ Q (.int xs.length) M := by
  constructor
  · rintro (⟨xs', h1, q⟩ | ⟨_, h1, _⟩)
    · rw [h] at h1; cases h1; exact q
    · rw [h] at h1; cases h1
  · intro q
    exact .inl ⟨xs, h, q⟩
theorem lenD_tup : rLenD [.tup xs] M Q ↔ Q (.int xs.length) M := Iff.rfl
theorem lenD_rl : rLenD [.rl xs] M Q ↔ Q (.int xs.length) M := Iff.rfl
theorem lenD_str {z : Str} : rLenD [.str z] M Q ↔ z.length ≤ sizeLine ∧ Q (.int z.length) M := Iff.rfl
theorem dI_int {C : Int → Int → Prop} {f : Int → Int → D} : dI C f (.int i) (.int j) M Q ↔ C i j ∧ Q (f i j) M := Iff.rfl
theorem ixN3_0 : L2.ixN 3 0 = some 0 := ixN_nat (n := 3) (k := 0) (by omega)
theorem ixN3_1 : L2.ixN 3 1 = some 1 := ixN_nat (n := 3) (k := 1) (by omega)
theorem ixN3_2 : L2.ixN 3 2 = some 2 := ixN_nat (n := 3) (k := 2) (by omega)
theorem dSl_str {z : Str} {lo hi : Option Int} : dSl (.str z) lo hi M Q ↔ z.length ≤ sizeLine ∧ Q (.str (cutS z lo hi)) M := Iff.rfl
theorem dTru_non {R : Bool → Prop} : dTru .non M R ↔ R false := Iff.rfl
theorem dTru_bl {b : Bool} {R : Bool → Prop} : dTru (.bl b) M R ↔ R b := Iff.rfl
theorem dTru_int {R : Bool → Prop} : dTru (.int i) M R ↔ R (i != 0) := Iff.rfl
theorem dTru_str {s : Str} {R : Bool → Prop} : dTru (.str s) M R ↔ s.length ≤ sizeLine ∧ R (!decide (s.length = 0)) := Iff.rfl
theorem dTru_tup {R : Bool → Prop} : dTru (.tup xs) M R ↔ R (!xs.isEmpty) := Iff.rfl
theorem dTru_rl {R : Bool → Prop} : dTru (.rl xs) M R ↔ R (!xs.isEmpty) := Iff.rfl
theorem rAbs_int : rAbs [.int i] M Q ↔ Q (.int (if i < 0 then -i else i)) M := Iff.rfl
theorem rMin_int : rMin2 [.int i, .int j] M Q ↔ Q (.int (if j < i then j else i)) M := Iff.rfl
theorem rMax_int : rMax2 [.int i, .int j] M Q ↔ Q (.int (if j > i then j else i)) M := Iff.rfl
theorem rMin_str {s t : Str} : rMin2 [.str s, .str t] M Q ↔ Q (.str (if ltS t s = true then t else s)) M := Iff.rfl
theorem rMax_str {s t : Str} : rMax2 [.str s, .str t] M Q ↔ Q (.str (if ltS s t = true then t else s)) M := Iff.rfl
theorem dMulA_int : dMulA (.int i) (.int j) M Q ↔ CM i j ∧ Q (.int (i * j)) M := Iff.rfl
theorem dIx_wr : dIx (.ref a) (.int k) (wr M a (.lst xs)) Q ↔ ∃ d, L2.atI xs k = some d ∧ Q d (wr M a (.lst xs)) := dIx_ref wr_same
theorem lenD_wr : rLenD [.ref a] (wr M a (.lst xs)) Q ↔ Q (.int xs.length) (wr M a (.lst xs)) := lenD_ref wr_same
theorem dAdd_int : dAdd (.int i) (.int j) M Q ↔ Q (.int (i + j)) M := Iff.rfl
theorem dAdd_str {s t : Str} : dAdd (.str s) (.str t) M Q ↔ s.length + t.length ≤ sizeLine ∧ Q (.str (s ++ t)) M := Iff.rfl
theorem dAdd_tup : dAdd (.tup xs) (.tup ys) M Q ↔ xs.length + ys.length ≤ sizeLine ∧ Q (.tup (xs ++ ys)) M := Iff.rfl
theorem dIB_int {f : Int → Int → Bool} : dIB f (.int i) (.int j) M Q ↔ Q (.bl (f i j)) M := Iff.rfl
theorem dLt_int : dLt (.int i) (.int j) M Q ↔ Q (.bl (decide (i < j))) M := Iff.rfl
theorem dLt_str {s t : Str} : dLt (.str s) (.str t) M Q ↔ Q (.bl (ltS s t)) M := Iff.rfl
theorem dEq_int : dEq (.int i) (.int j) M Q ↔ Q (.bl (decide (i = j))) M := Iff.rfl
theorem dEq_str {s t : Str} : dEq (.str s) (.str t) M Q ↔ Q (.bl (decide (s = t))) M := Iff.rfl
theorem dNe_int : dNe (.int i) (.int j) M Q ↔ Q (.bl (!decide (i = j))) M := Iff.rfl
theorem dNe_str {s t : Str} : dNe (.str s) (.str t) M Q ↔ Q (.bl (!decide (s = t))) M := Iff.rfl
theorem cm_left (h : -(2 ^ 64) < i ∧ i < 2 ^ 64) : CM i j := .inl (.inl h)
theorem cm_right (h : -(2 ^ 64) < j ∧ j < 2 ^ 64) : CM i j := .inl (.inr h)
end
mutual
theorem good_mono' : ∀ (d : D) (n m : Nat), good d n = true → n ≤ m → good d m = true
  | .non, n, m, _, _ => rfl
  | .int _, n, m, _, _ => rfl
  | .str _, n, m, _, _ => rfl
  | .tup xs, 0, m, h, _ => by unfold good at h; cases h
  | .tup xs, n + 1, m, h, l => by
    cases m with
    | zero => omega
    | succ m =>
      unfold good at h ⊢
      exact goodL_mono' xs n m h (by omega)
  | .rl xs, 0, m, h, _ => by unfold good at h; cases h
  | .rl xs, n + 1, m, h, l => by
    cases m with
    | zero => omega
    | succ m =>
      unfold good at h ⊢
      exact goodL_mono' xs n m h (by omega)
  | .bl _, n, m, h, _ => by unfold good at h; cases h
  | .ref _, n, m, h, _ => by unfold good at h; cases h
  | .ty _, n, m, h, _ => by unfold good at h; cases h
theorem goodL_mono' : ∀ (ds : List D) (n m : Nat), goodL ds n = true → n ≤ m → goodL ds m = true
  | [], n, m, _, _ => rfl
  | d :: ds, n, m, h, l => by
    unfold goodL at h ⊢
    rw [Bool.and_eq_true] at h ⊢
    exact ⟨good_mono' d n m h.1 l, goodL_mono' ds n m h.2 l⟩
end
theorem good_mono {d : D} {n m : Nat} (h : good d n = true) (l : n ≤ m) : good d m = true := good_mono' d n m h l
theorem signs_len {w : Str} : (signs w).length = w.length := by unfold signs; rw [List.length_map]; rfl
abbrev sg (c : Nat) : D := .str ⟨#[c]⟩
def Hand (M : Mem) (h : Addr) (T : Int) : Prop := ∃ a b t : Int, M h = some (.lst [.int a, .int b, .int t]) ∧ 0 ≤ a ∧ (0 ≤ b ∧ b < 2 ^ 61) ∧ (0 ≤ t ∧ t ≤ T)
def Ex (h : Addr) (M M' : Mem) : Prop := ∀ a o, a ≠ h → M a = some o → M' a = some o
theorem Ex.refl {h : Addr} {M : Mem} : Ex h M M := fun _ _ _ e => e
theorem Ex.trans {h : Addr} {M M1 M2 : Mem} (p : Ex h M M1) (q : Ex h M1 M2) : Ex h M M2 := fun a o n e => q a o n (p a o n e)
theorem Ex.wr {h : Addr} {M : Mem} {o : MO} : Ex h M (wr M h o) := fun a u n e => by rw [wr_ne n]; exact e
theorem Ex.new {h p : Addr} {M : Mem} {o : MO} (hp : M p = none) : Ex h M (DL.wr M p o) := fun a u _ e => by
  have : a ≠ p := fun z => by subst z; rw [hp] at e; cases e
  rw [wr_ne this]; exact e
theorem Ex.none {h p : Addr} {M M' : Mem} (q : Ex h M M') (hp : M' p = none) (hh : p ≠ h) : M p = none := by
  cases e : M p with
  | none => rfl
  | some o => rw [q p o hh e] at hp; cases hp
theorem Ex.sub {h : Addr} {M M' : Mem} (s : Sub M M') : Ex h M M' := fun a o _ e => s a o e
theorem Hand.mono {M : Mem} {h : Addr} {T T' : Int} (p : Hand M h T) (q : T ≤ T') : Hand M h T' := by
  obtain ⟨a, b, t, h1, h2, h3, h4⟩ := p
  exact ⟨a, b, t, h1, h2, h3, h4.1, Int.le_trans h4.2 q⟩
theorem Hand.new {M : Mem} {h p : Addr} {T : Int} {o : MO} (q : Hand M h T) (hp : M p = none) : Hand (wr M p o) h T := by
  obtain ⟨a, b, t, h1, z⟩ := q
  have : h ≠ p := fun e => by subst e; rw [hp] at h1; cases h1
  exact ⟨a, b, t, by rw [wr_ne this]; exact h1, z⟩
theorem Hand.wr {M : Mem} {h p : Addr} {T : Int} {o : MO} (q : Hand M h T) (hp : p ≠ h) : Hand (wr M p o) h T := by
  obtain ⟨a, b, t, h1, z⟩ := q
  exact ⟨a, b, t, by rw [wr_ne (fun e => hp e.symm)]; exact h1, z⟩
theorem Hand.sub {M M' : Mem} {h : Addr} {T : Int} (q : Hand M h T) (s : Sub M M') : Hand M' h T := by
  obtain ⟨a, b, t, h1, z⟩ := q
  exact ⟨a, b, t, s _ _ h1, z⟩
theorem Hand.ne {M : Mem} {h p : Addr} {T : Int} (q : Hand M h T) (hp : M p = none) : p ≠ h := by
  obtain ⟨a, b, t, h1, z⟩ := q
  exact fun e => by subst e; rw [hp] at h1; cases h1
theorem Hand.at {M : Mem} {h : Addr} {T : Int} (q : Hand M h T) : ∃ xs, M h = some (.lst xs) := by
  obtain ⟨a, b, t, h1, z⟩ := q
  exact ⟨_, h1⟩
end DL

namespace DL
open PySem PySem.Spec PyProof.Rows L2
def Shw (d : D) (n : Nat) : Prop := (toPy d).showable = true ∧ (toPy d).shown.length ≤ n
theorem Shw.le {d : D} {n m : Nat} (h : Shw d n) (l : n ≤ m) : Shw d m := ⟨h.1, Nat.le_trans h.2 l⟩
def shD (d : D) : Str := (toPy d).shown
end DL

namespace DL
open PySem PySem.Spec PyProof.Rows L2
section
variable {P : Program} {w : World} {K : PySem.W.Frag} {mg : Str → Option Value} {base : Heap} {k k' : Nat}
theorem FnG.mono {f : Addr} {fd : FuncData} {ps : List Str} {sp : DSp} (F : FnG P w K mg base k f fd ps sp) (h : k ≤ k') : FnG P w K mg base k' f fd ps sp :=
  ⟨F.len, fun A outer s H args us vs ds M Q E QV XV hr => F.run A outer s H args us vs ds M Q E QV XV (hr.mono h)⟩
theorem GlobOk.mono {n : Str} {np : Nat} {ks : List Str} {sp : DSp} (h : GlobOk P w K mg base k n np ks sp) (l : k ≤ k') : GlobOk P w K mg base k' n np ks sp := by
  obtain ⟨fv, h1, h2, h3⟩ := h
  exact ⟨fv, h1, h2, h3.mono l⟩
theorem MethOk.mono {C : Addr} {m : Str} {np : Nat} {ks : List Str} {sp : DSp} (h : MethOk P w K mg base k C m np ks sp) (l : k ≤ k') : MethOk P w K mg base k' C m np ks sp := by
  obtain ⟨f, h1, h2, h3⟩ := h
  exact ⟨f, h1, h2, h3.mono l⟩
abbrev HasD (K : PySem.W.Frag) (d : He.DefD) (fd : FuncData) : Prop := FunD K d.name d.qual d.params d.body d.scope (d.dvs K) (d.kws K) (He.fAd K d.at_) fd
abbrev endB (Q : QE) : DEnds := { nx := fun _ M' => ∃ M2, Sub M2 M' ∧ Q .non M2, rt := fun d M' => ∃ M2, Sub M2 M' ∧ Q d M2 }
theorem mkG {d : He.DefD} {c : Cc} {ir : ISs} {ps : List Str} {S : Tb} {sp : DSp} {fd : FuncData} (h : HasD K d fd) (hs : d.scope = c.sc) (hsc : scB c ps = true) (hb : c.blk = false) (hk : chkSs ir c d.body = true) (len : ∀ ds M Q E, sp ds M Q E → ds.length = ps.length)
    (T : TabOk P w K mg base c S k) (law : ∀ ds M Q E, sp ds M Q E → wSs S ir (endB Q) E (startD c.N.length ds) M) : FnG P w K mg base (k + 1) (He.fAd K d.at_) fd ps sp := by
  obtain ⟨⟨oc, od, dV, kV, doc, pm, an, cdv, ct, osl, rfl, lk, hcd, _, _⟩, kp⟩ := h
  rw [hs] at lk ⊢
  exact fnG_chk ir lk hcd hsc hb hk len T law
def gI {α : Type} (idx : List Nat) (xs : List α) : List α := idx.filterMap (xs[·]?)
theorem kbd_plain {x qual : Str} {params : Arguments} {body : List Stmt} {scope : Scope} {kws : List (Str × V)} {f : Addr} {fd : FuncData} {ps : List Str} (F : FunD K x qual params body scope [] kws f fd) (n : Nat) (ks : List Str) (idx : List Nat)
    (h : ∀ (kV doc pm : Value) (an : Option Addr) (cdv ct : Value) (us ws : List Value), us.length = n → ws.length = ks.length → bindArgs (PySem.W.fnOf x qual params body scope .none kV doc pm an cdv ct) ⟨us, ks.zip ws⟩ = pure (ps.zip (gI idx (us ++ ws)))) :
    KBd K fd ps n ks (fun ds cs => gI idx (ds ++ cs)) := by
  obtain ⟨oc, od, dV, kV, doc, pm, an, cdv, ct, osl, rfl, lk, hcd, hD, hK⟩ := F.ex
  rcases hD with ⟨_, rfl⟩ | ⟨e, _⟩
  · exact ⟨fun us ws => gI idx (us ++ ws), fun vs zs => gI idx (vs ++ zs), ⟨fun s us ws X l1 l2 => .of_eq (h kV doc pm an cdv ct us ws l1 l2), fun r1 r2 => vals_pick (r1.append r2) idx⟩, fun H ds vs cs zs l1 l2 _ _ => isL_pick (l1.append l2) idx⟩
  · exact absurd rfl e
def noSp : DSp := fun _ _ _ _ => False
def tb (gs ms : List DSp) (cs : List Addr) : Tb := ⟨fun i => gs.getD i noSp, fun i => ms.getD i noSp, fun i => cs.getD i 0⟩
def AllG (P : Program) (w : World) (K : PySem.W.Frag) (mg : Str → Option Value) (base : Heap) (k : Nat) : List (Str × Nat × List Str) → List DSp → Prop
  | [], [] => True
  | p :: l, s :: fs => okName p.1 = true ∧ GlobOk P w K mg base k p.1 p.2.1 p.2.2 s ∧ AllG P w K mg base k l fs
  | _, _ => False
theorem AllG.get : ∀ {l : List (Str × Nat × List Str)} {fs : List DSp}, AllG P w K mg base k l fs → ∀ i n np ks, l[i]? = some (n, np, ks) → okName n = true ∧ GlobOk P w K mg base k n np ks (fs.getD i noSp)
  | [], _, _, i, n, np, ks, h => by simp at h
  | p :: l, [], H, i, n, np, ks, h => H.elim
  | p :: l, s :: fs, H, 0, n, np, ks, h => by
    cases h
    exact ⟨H.1, H.2.1⟩
  | p :: l, s :: fs, H, i + 1, n, np, ks, h => AllG.get H.2.2 i n np ks h
def AllM (P : Program) (w : World) (K : PySem.W.Frag) (mg : Str → Option Value) (base : Heap) (k : Nat) (cs : List Addr) : List (Nat × Str × Nat × List Str) → List DSp → Prop
  | [], [] => True
  | p :: l, s :: fs => MethOk P w K mg base k (cs.getD p.1 0) p.2.1 p.2.2.1 p.2.2.2 s ∧ AllM P w K mg base k cs l fs
  | _, _ => False
theorem AllM.get {cs : List Addr} : ∀ {l : List (Nat × Str × Nat × List Str)} {fs : List DSp}, AllM P w K mg base k cs l fs → ∀ i ci m np ks, l[i]? = some (ci, m, np, ks) → MethOk P w K mg base k (cs.getD ci 0) m np ks (fs.getD i noSp)
  | [], _, _, i, ci, m, np, ks, h => by simp at h
  | p :: l, [], H, i, ci, m, np, ks, h => H.elim
  | p :: l, s :: fs, H, 0, ci, m, np, ks, h => by
    cases h
    exact H.1
  | p :: l, s :: fs, H, i + 1, ci, m, np, ks, h => AllM.get H.2 i ci m np ks h
def CsOk2 (mg : Str → Option Value) : List (Str × CD) → Prop
  | [] => True
  | p :: l => okName p.1 = true ∧ (∃ u, mg p.1 = some u ∧ RelV p.2.v u) ∧ CsOk2 mg l
theorem CsOk2.get : ∀ {l : List (Str × CD)}, CsOk2 mg l → ∀ n d, l.lookup n = some d → okName n = true ∧ ∃ u, mg n = some u ∧ RelV d.v u
  | [], _, n, d, h => by cases h
  | (m, c) :: l, H, n, d, h => by
    rw [List.lookup_cons] at h
    by_cases e : n = m
    · subst e
      simp at h
      subst h
      exact ⟨H.1, H.2.1⟩
    · have : (n == m) = false := by simpa using e
      rw [this] at h
      exact CsOk2.get H.2.2 n d h
def FldOk (K : PySem.W.Frag) (cs : List Addr) : List (Nat × Str) → Prop
  | [] => True
  | p :: l => (Cls K (cs.getD p.1 0) ∧ NoAttr K (cs.getD p.1 0) p.2) ∧ FldOk K cs l
theorem FldOk.get {cs : List Addr} : ∀ {l : List (Nat × Str)}, FldOk K cs l → ∀ ci f, (ci, f) ∈ l → Cls K (cs.getD ci 0) ∧ NoAttr K (cs.getD ci 0) f
  | [], _, ci, f, h => by cases h
  | p :: l, H, ci, f, h => by
    rcases List.mem_cons.mp h with e | h
    · rw [← e] at H; exact H.1
    · exact FldOk.get H.2 ci f h
def ClsOk (K : PySem.W.Frag) (mg : Str → Option Value) (cs : List Addr) : List (Nat × Str) → Prop
  | [] => True
  | p :: l => (okName p.2 = true ∧ mg p.2 = some (.ref (cs.getD p.1 0)) ∧ InsT K (cs.getD p.1 0) ∧ OwnX K (cs.getD p.1 0)) ∧ ClsOk K mg cs l
theorem ClsOk.get {cs : List Addr} : ∀ {l : List (Nat × Str)}, ClsOk K mg cs l → ∀ ci n, (ci, n) ∈ l → okName n = true ∧ mg n = some (.ref (cs.getD ci 0)) ∧ InsT K (cs.getD ci 0) ∧ OwnX K (cs.getD ci 0)
  | [], _, ci, n, h => by cases h
  | p :: l, H, ci, n, h => by
    rcases List.mem_cons.mp h with e | h
    · rw [← e] at H; exact H.1
    · exact ClsOk.get H.2 ci n h
theorem tab_of {c : Cc} {gs ms : List DSp} {cs : List Addr} (free : ∀ n ∈ freeNames, mg n = none) (hcs : CsOk2 mg c.cs) (hg : AllG P w K mg base k c.cals gs) (hm : AllM P w K mg base k cs c.mths ms) (hf : FldOk K cs c.flds) (hcl : ClsOk K mg cs c.cls) : TabOk P w K mg base c (tb gs ms cs) k :=
  ⟨free, hcs.get, hg.get, hm.get, hf.get, hcl.get⟩
theorem glob_of {d : He.DefD} {fd : FuncData} {ps : List Str} {sp sp' : DSp} {n : Nat} {ks : List Str} {gD : List D → List D → List D} (h : HasD K d fd) (hm : mg d.name = some (.ref (He.fAd K d.at_))) (F : FnG P w K mg base k (He.fAd K d.at_) fd ps sp) (B : KBd K fd ps n ks gD)
    (imp : ∀ ds cs M Q E, ds.length = n → cs.length = ks.length → sp' (ds ++ cs) M Q E → sp (gD ds cs) M Q E) : GlobOk P w K mg base k d.name n ks sp' := ⟨_, hm, h.kp, callOk_fn F B imp⟩
theorem glob_plain {d : He.DefD} {fd : FuncData} {ps : List Str} {sp : DSp} (h : HasD K d fd) (hd : d.dfl = []) (hm : mg d.name = some (.ref (He.fAd K d.at_))) (F : FnG P w K mg base k (He.fAd K d.at_) fd ps sp)
    (hb : ∀ (kV doc pm : Value) (an : Option Addr) (cdv ct : Value) (us ws : List Value), us.length = ps.length → ws.length = 0 → bindArgs (PySem.W.fnOf d.name d.qual d.params d.body d.scope .none kV doc pm an cdv ct) ⟨us, [].zip ws⟩ = pure (ps.zip us)) : GlobOk P w K mg base k d.name ps.length [] sp := by
  have h' : FunD K d.name d.qual d.params d.body d.scope [] (d.kws K) (He.fAd K d.at_) fd := by
    have e : d.dvs K = [] := by unfold He.DefD.dvs; rw [hd]; rfl
    rw [← e]; exact h
  refine glob_of h hm F (B := kbd_plain h' ps.length [] (List.range ps.length) fun kV doc pm an cdv ct us ws l1 l2 => ?_) fun ds cs M Q E l1 l2 q => ?_
  · have : ws = [] := List.length_eq_zero_iff.mp l2
    subst this
    rw [hb kV doc pm an cdv ct us [] l1 rfl, List.append_nil]
    unfold gI
    rw [← l1, range_all]
  · have : cs = [] := List.length_eq_zero_iff.mp l2
    subst this
    unfold gI
    rw [List.append_nil] at q ⊢
    rw [← l1, range_all]
    exact q
theorem has_of {h : Heap} {fa : List He.Fa} {fn : List He.DefD} {d : He.DefD} (c : He.SaysD fa fn K) (hd : d ∈ fn) : ∃ fd, HasD K d fd := c.defs hd
theorem free_of {h : Heap} {fa : List He.Fa} {fn : List He.DefD} (X : K.In h) (G : h.Ns mainGlobals mg) (c : He.SaysD fa fn K) (hf : ∀ n ∈ freeNames, He.Fa.free n ∈ fa) : ∀ n ∈ freeNames, mg n = none := fun n hn => He.free_ok X G (c.facts (hf n hn))
end
end DL

namespace KM
open PySem PySem.Spec PyProof.Rows L2 DL
def lp__law_pot_0 : IS :=
  .fo (.tp (.cons (.nm 2) (.cons (.nm 3) .nil))) (.en (.fz (.sli (.sl 0) .no (.yes (.lit (.int 63)))))) (.cons (.asg (.nm 1) (.bin .Mod (.bin .Add (.bin .Add (.bin .Add (.bin .Mult (.sl 1) (.lit (.int 1000003))) (.bin .Mod (.sl 3) (.lit (.int 2305843009213693951)))) (.bin .Mult (.lit (.int 37)) (.sl 2))) (.lit (.int 11))) (.lit (.int 2305843009213693951))))
  .nil)
def ir__law_pot : ISs :=
  (.cons (.asg (.nm 1) (.lit (.int 6841)))
  (.cons lp__law_pot_0
  (.cons (.ret (.lst (.cons (.lc [("_law_cell", 3)] (.nm 3) (.any (.fz (.sli (.sl 0) .no (.yes (.lit (.int 63)))))) (.yes (.cmp .GtE (.cb .abs (.sl 3) .nil) (.bin .Pow (.lit (.int 10)) (.lit (.int 18))))) (.bin .Mod (.cb .abs (.sl 3) .nil) (.bin .Pow (.bin .Pow (.lit (.int 10)) (.lit (.int 60))) (.lit (.int 12))))) (.cons (.sl 1) (.cons (.lit (.int 0)) .nil)))))
  .nil)))
-- slots: 0 _law_script 1 _law_seed 2 _law_k 3 _law_cell
-- calls: [] ; methods: [] ; fields: [] ; constants: []
def lp__law_take_0 : IS :=
  .wh (.andE (.cmp .NotEq (.ix (.sl 0) (.lit (.int 0))) (.fz (.lst .nil))) (.one (.cmp .Eq (.ix (.ix (.sl 0) (.lit (.int 0))) (.lit (.int 0))) (.lit (.int 0))))) (.cons (.ex (.mt .pop (.ix (.sl 0) (.lit (.int 0))) (.lit (.int 0)) .nil))
  .nil)
def ir__law_take : ISs :=
  (.cons lp__law_take_0
  (.cons (.iff (.cmp .NotEq (.ix (.sl 0) (.lit (.int 0))) (.fz (.lst .nil))) (.cons (.asg (.nm 4) (.bin .Mod (.ix (.ix (.sl 0) (.lit (.int 0))) (.lit (.int 0))) (.sl 1)))
  (.cons (.sto (.ix (.sl 0) (.lit (.int 0))) (.lit (.int 0)) (.bin .FloorDiv (.ix (.ix (.sl 0) (.lit (.int 0))) (.lit (.int 0))) (.sl 1)))
  (.cons (.ret (.sl 4))
  .nil))) .nil)
  (.cons (.asg (.nm 2) (.bin .Add (.ix (.sl 0) (.lit (.int 2))) (.lit (.int 1))))
  (.cons (.sto (.sl 0) (.lit (.int 2)) (.sl 2))
  (.cons (.asg (.nm 3) (.bin .Mult (.bin .Add (.bin .Add (.ix (.sl 0) (.lit (.int 1))) (.bin .Mult (.bin .Mult (.lit (.int 65537)) (.sl 2)) (.sl 2))) (.bin .Mult (.lit (.int 15485863)) (.sl 2))) (.lit (.int 48271))))
  (.cons (.asg (.nm 3) (.bin .Mod (.sl 3) (.lit (.int 2305843009213693921))))
  (.cons (.asg (.nm 3) (.bin .Mult (.sl 3) (.bin .Add (.bin .Add (.bin .Mod (.sl 3) (.lit (.int 1000003))) (.bin .Mult (.lit (.int 99991)) (.sl 2))) (.lit (.int 7)))))
  (.cons (.asg (.nm 3) (.bin .Mod (.sl 3) (.lit (.int 2305843009213693907))))
  (.cons (.ret (.bin .Mod (.bin .Add (.bin .FloorDiv (.sl 3) (.lit (.int 97))) (.bin .FloorDiv (.sl 3) (.lit (.int 1000033)))) (.sl 1)))
  .nil)))))))))
-- slots: 0 _law_pot_here 1 _law_many 2 _law_turn 3 _law_mixed 4 _law_digit
-- calls: [] ; methods: [] ; fields: [] ; constants: []
def ir__law_of : ISs :=
  (.cons (.ret (.ix (.sl 1) (.cal 0 (.cons (.sl 0) (.cons (.cb .len (.sl 1) .nil) .nil)) .nil)))
  .nil)
-- slots: 0 _law_pot_here 1 _law_some
-- calls: [('_law_take', 2, ())] ; methods: [] ; fields: [] ; constants: []
def ir__law_part : ISs :=
  (.cons (.asg (.nm 1) (.fz (.lst (.cons (.tup (.cons (.lit (.int 2)) (.cons (.lit (.int 1)) .nil))) (.cons (.tup (.cons (.lit (.int 0)) (.cons (.lit (.int 1)) .nil))) (.cons (.tup .nil) (.cons (.tup (.cons (.tup (.cons (.lit (.int 0)) (.cons (.lit (.int 1)) .nil))) (.cons (.tup (.cons (.lit (.int 1)) .nil)) .nil))) (.cons (.tup (.cons (.tup (.cons (.lit (.int 0)) (.cons (.lit (.int 1)) .nil))) (.cons (.tup (.cons (.lit (.int 0)) .nil)) .nil))) (.cons (.tup (.cons (.lit (.int 1)) .nil)) (.cons (.tup (.cons (.lit (.int 2)) .nil)) (.cons (.lit .non) (.cons (.lit (.str "a")) (.cons (.fz (.lst (.cons (.lit (.int 1)) .nil))) (.cons (.tup (.cons (.bin .Pow (.lit (.int 10)) (.lit (.int 8))) .nil)) .nil))))))))))))))
  (.cons (.ret (.cal 0 (.cons (.sl 0) (.cons (.sl 1) .nil)) .nil))
  .nil))
-- slots: 0 _law_pot_here 1 _law_some
-- calls: [('_law_of', 2, ())] ; methods: [] ; fields: [] ; constants: []
def ir_Tables___init__ : ISs :=
  (.cons (.sfl 0 "sizes" (.sl 0) (.sl 1))
  (.cons (.sfl 0 "tables" (.sl 0) (.sl 2))
  (.cons (.sfl 0 "held" (.sl 0) (.sl 3))
  .nil)))
-- slots: 0 self 1 sizes 2 tables 3 held
-- calls: [] ; methods: [] ; fields: [(0, 'held'), (0, 'tables'), (0, 'sizes')] ; constants: []
def ir_Tables___eq__ : ISs :=
  (.cons (.iff (.nt (.isC 0 (.sl 1))) (.cons (.ret (.lit (.bl false)))
  .nil) .nil)
  (.cons (.ret (.cmp .Eq (.tup (.cons (.fld 0 "sizes" (.sl 0)) (.cons (.fld 0 "tables" (.sl 0)) (.cons (.fld 0 "held" (.sl 0)) .nil)))) (.tup (.cons (.fld 0 "sizes" (.sl 1)) (.cons (.fld 0 "tables" (.sl 1)) (.cons (.fld 0 "held" (.sl 1)) .nil))))))
  .nil))
-- slots: 0 self 1 other
-- calls: [] ; methods: [] ; fields: [(0, 'held'), (0, 'tables'), (0, 'sizes')] ; constants: []
def lp_law_0 : IS :=
  .fo (.nm 6) (.any (.tup (.cons (.ct .tuple (.sl 3) .nil) (.cons (.sl 3) (.cons (.lit .non) (.cons (.lit (.int 0)) (.cons (.lit (.str "")) (.cons (.ix (.sl 3) (.lit (.int 0))) .nil)))))))) (.cons (.iff (.orE (.eqO false 0 0 "Tables" (.sl 9) (.sl 6)) (.one (.nt (.eqO true 0 0 "Tables" (.sl 9) (.sl 6))))) (.cons (.ret (.lit (.bl false)))
  .nil) .nil)
  .nil)
def lp_law_1 : IS :=
  .fo (.nm 2) (.rg1 (.lit (.int 12))) (.cons (.asg (.nm 3) (.lcF (.lc [("_law_k", 11)] (.nm 11) (.rg1 (.lit (.int 3))) .no (.cal 2 (.cons (.sl 1) .nil) .nil))))
  (.cons (.asg (.nm 4) (.ct .list (.sl 3) .nil))
  (.cons (.par 7 8 (.cal 3 (.cons (.sl 1) (.cons (.lit (.int 3)) .nil)) .nil) (.cal 3 (.cons (.sl 1) (.cons (.lit (.int 3)) .nil)) .nil))
  (.cons (.iff (.cmp .Gt (.sl 8) (.lit (.int 0))) (.cons (.sto (.sl 4) (.sl 7) (.cal 2 (.cons (.sl 1) .nil) .nil))
  .nil) .nil)
  (.frz 4 (.cons (.par 9 10 (.cal 0 (.cons (.ix (.sl 3) (.lit (.int 0))) (.cons (.ix (.sl 3) (.lit (.int 1))) (.cons (.ix (.sl 3) (.lit (.int 2))) .nil))) .nil) (.cal 1 .nil (.cons (.ix (.sl 4) (.lit (.int 2))) (.cons (.ix (.sl 4) (.lit (.int 0))) (.cons (.ix (.sl 4) (.lit (.int 1))) .nil)))))
  (.cons (.iff (.cmp .NotEq (.cb .repr (.fz (.lst (.cons (.fld 0 "sizes" (.sl 9)) (.cons (.fld 0 "tables" (.sl 9)) (.cons (.fld 0 "held" (.sl 9)) .nil))))) .nil) (.cb .repr (.sl 3) .nil)) (.cons (.ret (.lit (.bl false)))
  .nil) .nil)
  (.cons (.iff (.cmp .NotEq (.cb .repr (.fz (.lst (.cons (.fld 0 "sizes" (.sl 10)) (.cons (.fld 0 "tables" (.sl 10)) (.cons (.fld 0 "held" (.sl 10)) .nil))))) .nil) (.cb .repr (.sl 4) .nil)) (.cons (.ret (.lit (.bl false)))
  .nil) .nil)
  (.cons (.asg (.nm 5) (.cmp .Eq (.sl 3) (.sl 4)))
  (.cons (.iff (.orE (.cmp .NotEq (.eqO false 0 0 "Tables" (.sl 9) (.sl 10)) (.sl 5)) (.orE (.cmp .Eq (.eqO true 0 0 "Tables" (.sl 9) (.sl 10)) (.sl 5)) (.one (.nt (.eqO false 0 0 "Tables" (.sl 9) (.sl 9)))))) (.cons (.ret (.lit (.bl false)))
  .nil) .nil)
  (.cons lp_law_0
  .nil)))))))))))
def ir_law : ISs :=
  (.cons (.asg (.nm 1) (.cal 4 (.cons (.sl 0) .nil) .nil))
  (.cons lp_law_1
  (.cons (.ret (.lit (.bl true)))
  .nil)))
-- slots: 0 _law_script 1 _law_pot_here 2 _law_turn 3 _law_three 4 _law_others 5 _law_due 6 _law_odd 7 _law_at 8 _law_way 9 _law_one 10 _law_other 11 _law_k
-- calls: [('Tables', 3, ()), ('Tables', 0, ('held', 'sizes', 'tables')), ('_law_part', 1, ()), ('_law_take', 2, ()), ('_law_pot', 1, ())] ; methods: [(0, '__eq__', 1, ())] ; fields: [(0, 'held'), (0, 'tables'), (0, 'sizes')] ; constants: []
end KM

namespace PR
open PySem PySem.Spec PyProof.Rows L2 DL
def ir_Theory_making : ISs :=
  (.cons (.iff (.nt (.cb .isi (.sl 1) (.cons (.gty .str) .nil))) (.cons (.ret (.lit .non))
  .nil) .nil)
  (.cons (.iff (.cmp .In (.sl 1) (.fld 0 "called" (.sl 0))) (.cons (.ret (.tup (.cons (.ix (.fld 0 "called" (.sl 0)) (.sl 1)) (.cons (.tup .nil) .nil))))
  .nil) .nil)
  (.cons (.ret (.mt .get (.fld 0 "made" (.sl 0)) (.sl 1) .nil))
  .nil)))
-- slots: 0 self 1 word
-- calls: [] ; methods: [] ; fields: [(0, 'made'), (0, 'called')] ; constants: []
def lp_kind_of_0 : IS :=
  .fo (.nm 4) (.any (.sl 1)) (.cons (.asg (.nm 5) (.mth 0 0 "making" (.sl 0) (.cons (.sl 4) .nil) .nil))
  (.cons (.iff (.orE (.cmp .Is (.sl 5) (.lit .non)) (.one (.cmp .Eq (.sl 2) (.fz (.lst .nil))))) (.cons (.ret (.lit .non))
  .nil) .nil)
  (.cons (.asg (.tp (.cons (.nm 6) (.cons (.nm 7) .nil))) (.sl 5))
  (.cons (.iff (.cmp .NotIn (.mt0 .pop (.sl 2)) (.tup (.cons (.lit .non) (.cons (.sl 6) .nil)))) (.cons (.ret (.lit .non))
  .nil) .nil)
  (.cons (.asg (.nm 3) (.orE (.sl 3) (.one (.sl 6))))
  (.cons (.ex (.mt .extend (.sl 2) (.slst (.sl 7) .no .no (.yes (.neg (.lit (.int 1))))) .nil))
  .nil))))))
def ir_kind_of : ISs :=
  (.cons (.iff (.orE (.nt (.cb .isi (.sl 1) (.cons (.gty .tuple) .nil))) (.one (.cmp .Eq (.sl 1) (.tup .nil)))) (.cons (.ret (.lit .non))
  .nil) .nil)
  (.cons (.asg (.nm 2) (.lst (.cons (.lit .non) .nil)))
  (.cons (.asg (.nm 3) (.lit .non))
  (.cons lp_kind_of_0
  (.cons (.ret (.ife (.cmp .Eq (.sl 2) (.fz (.lst .nil))) (.sl 3) (.lit .non)))
  .nil)))))
-- slots: 0 theory 1 thing 2 wanted 3 found 4 word 5 made 6 kind 7 parts
-- calls: [] ; methods: [(0, 'making', 1, ())] ; fields: [] ; constants: []
end PR

namespace DL
open PySem PySem.Spec PyProof.Rows L2
section
variable {α : Type} {w : DTI} {gt : DTG} {tt : DTT} {te tk tv : DTE} {tb : DTS} {vs vs1 : List Nat} {e : Sl} {M : Mem} {E : EX}
theorem drop_cons {xs : List α} {i : Nat} {a : α} (h : xs[i]? = some a) : xs.drop i = a :: xs.drop (i + 1) := by
  obtain ⟨h1, h2⟩ := List.getElem?_eq_some_iff.mp h
  rw [List.drop_eq_getElem_cons h1, h2]
theorem lcI {Q : List D → Mem → Prop} (xs : List α) (toD : α → D) (I : List α → List D → Mem → Prop) (hw : ∀ R, (∀ live, (∀ r acc M', I r acc M' → live M') → R ⟨xs.map toD, live⟩ M) → w e M R E) (h0 : I xs [] M)
    (hb : ∀ a r acc M', (∃ pre, xs = pre ++ a :: r) → I (a :: r) acc M' → gt (toD a) (wipeS e vs) M' (fun e2 M2 => tt e2 M2 (fun b M3 => if b = true then te e2 M3 (fun y M4 => acc.length < sizeLine ∧ I r (acc ++ [y]) M4) EF else I r acc M3) EF) EF)
    (q : ∀ acc M', I [] acc M' → Q acc M') : dLc w gt tt te vs e M Q E := by
  refine hw _ fun live hl => ⟨fun i acc M' => I (xs.drop i) acc M', h0, fun i d acc M' hd hI => ⟨hl _ _ _ hI, ?_⟩, fun acc M' hI => ⟨hl _ _ _ hI, q acc M' ?_⟩⟩
  · obtain ⟨a, ha, rfl⟩ : ∃ a, xs[i]? = some a ∧ d = toD a := by
      have hd : (xs.map toD)[i]? = some d := hd
      rw [List.getElem?_map] at hd
      cases h : xs[i]? with
      | none => rw [h] at hd; cases hd
      | some a => rw [h] at hd; exact ⟨a, rfl, (Option.some.inj hd).symm⟩
    have e1 := drop_cons ha
    have hI : I (xs.drop i) acc M' := hI
    rw [e1] at hI
    exact hb a _ acc M' ⟨xs.take i, by rw [← e1, List.take_append_drop]⟩ hI
  · have hI : I (xs.drop (xs.map toD).length) acc M' := hI
    rw [List.length_map, List.drop_length] at hI
    exact hI
theorem lcT {Q : List D → Mem → Prop} (xs : List α) (toD : α → D) (c : α → Bool) (f : α → D) (hw : ∀ R, (∀ live, (live M) → R ⟨xs.map toD, live⟩ M) → w e M R E) (hz : xs.length ≤ sizeLine)
    (hb : ∀ a ∈ xs, ∀ (K : D → Mem → Prop) (N : Mem → Prop), (c a = true → K (f a) M) → (c a = false → N M) → gt (toD a) (wipeS e vs) M (fun e2 M2 => tt e2 M2 (fun b M3 => if b = true then te e2 M3 K EF else N M3) EF) EF)
    (q : Q ((xs.filter c).map f) M) : dLc w gt tt te vs e M Q E := by
  refine lcI xs toD (fun r acc M' => M' = M ∧ ∃ pre, xs = pre ++ r ∧ acc = (pre.filter c).map f) (fun R h => hw R fun live hl => h live fun r acc M' ⟨e, _⟩ => by rw [e]; exact hl) ⟨rfl, [], rfl, rfl⟩ ?_ ?_
  · rintro a r acc M' hp ⟨rfl, pre, e1, rfl⟩
    have ha : a ∈ xs := by rw [e1]; simp
    refine hb a ha _ _ (fun hc => ⟨?_, rfl, pre ++ [a], by rw [e1]; simp, by rw [List.filter_append, List.filter_cons_of_pos hc]; simp⟩) fun hc => ⟨rfl, pre ++ [a], by rw [e1]; simp, by rw [List.filter_append, List.filter_cons_of_neg (by rw [hc]; decide)]; simp⟩
    have h1 : ((pre.filter c).map f).length ≤ pre.length := by rw [List.length_map]; exact List.length_filter_le _ _
    have h2 : xs.length = pre.length + (r.length + 1) := by rw [e1]; simp
    omega
  · rintro acc M' ⟨rfl, pre, e1, rfl⟩
    rw [List.append_nil] at e1
    rw [← e1]; exact q
theorem forI {Dn : DEnds} (xs : List α) (toD : α → D) (W : List α → Sl → Mem → Prop) (hw : ∀ R, (∀ live, (∀ r e' M', W r e' M' → live M') → R ⟨xs.map toD, live⟩ M) → w e M R E) (h0 : W xs e M)
    (hb : ∀ a r e' M', (∃ pre, xs = pre ++ a :: r) → W (a :: r) e' M' → gt (toD a) e' M' (fun e2 M2 => tb ⟨W r, Dn.rt, Dn.nx, W r⟩ E e2 M2) E)
    (q : ∀ e' M', W [] e' M' → Dn.nx e' M') : dFor w gt tb Dn E e M := by
  refine hw _ fun live hl => ⟨fun i e' M' => W (xs.drop i) e' M', h0, fun i d e' M' hd hI => ⟨hl _ _ _ hI, ?_⟩, fun e' M' hI => ⟨hl _ _ _ hI, q e' M' ?_⟩⟩
  · obtain ⟨a, ha, rfl⟩ : ∃ a, xs[i]? = some a ∧ d = toD a := by
      have hd : (xs.map toD)[i]? = some d := hd
      rw [List.getElem?_map] at hd
      cases h : xs[i]? with
      | none => rw [h] at hd; cases hd
      | some a => rw [h] at hd; exact ⟨a, rfl, (Option.some.inj hd).symm⟩
    have e1 := drop_cons ha
    have hI : W (xs.drop i) e' M' := hI
    rw [e1] at hI
    exact hb a _ e' M' ⟨xs.take i, by rw [← e1, List.take_append_drop]⟩ hI
  · have hI : W (xs.drop (xs.map toD).length) e' M' := hI
    rw [List.length_map, List.drop_length] at hI
    exact hI
theorem dcT {Q : List (Key × D) → Mem → Prop} (xs : List α) (toD : α → D) (kf : α → Key) (f : α → D) (hw : ∀ R, (∀ live, (live M) → R ⟨xs.map toD, live⟩ M) → w e M R E) (hz : xs.length ≤ sizeLine)
    (hb : ∀ a ∈ xs, ∀ (K : D → D → Mem → Prop), K (keyV (kf a)) (f a) M → gt (toD a) (wipeS e vs) M (fun e2 M2 => tk e2 M2 (fun y M3 => tv e2 M3 (fun z M4 => K y z M4) EF) EF) EF)
    (q : Q (mergeG [] (xs.map fun a => (kf a, f a))) M) : dDc w gt dYes tk tv vs e M Q E := by
  refine hw _ fun live hl => ⟨fun i acc M' => M' = M ∧ acc = mergeG [] ((xs.take i).map fun a => (kf a, f a)), ⟨rfl, rfl⟩, fun i d acc M' hd ⟨e1, e2⟩ => ⟨by rw [e1]; exact hl, ?_⟩, fun acc M' ⟨e1, e2⟩ => ⟨by rw [e1]; exact hl, ?_⟩⟩
  · subst e1
    obtain ⟨a, ha, rfl⟩ : ∃ a, xs[i]? = some a ∧ d = toD a := by
      have hd : (xs.map toD)[i]? = some d := hd
      rw [List.getElem?_map] at hd
      cases h : xs[i]? with
      | none => rw [h] at hd; cases hd
      | some a => rw [h] at hd; exact ⟨a, rfl, (Option.some.inj hd).symm⟩
    refine hb a (List.mem_of_getElem? ha) (fun y z M5 => acc.length < sizeLine ∧ ∃ k, keyD y = some k ∧ _ ∧ _) ⟨?_, kf a, keyD_V _, rfl, ?_⟩
    · have hlt := (List.getElem?_eq_some_iff.mp ha).1
      have : ∀ (more kvs : List (Key × D)), (mergeG kvs more).length ≤ kvs.length + more.length := by
        intro more
        induction more with
        | nil => intro kvs; simp [mergeG]
        | cons p r ih =>
          intro kvs
          have := ih (putG kvs p.1 p.2)
          have h2 : (putG kvs p.1 p.2).length ≤ kvs.length + 1 := by unfold putG; split <;> simp
          show (mergeG (putG kvs p.1 p.2) r).length ≤ _
          rw [List.length_cons]; omega
      have := this ((xs.take i).map fun a => (kf a, f a)) []
      rw [e2]
      rw [List.length_map, List.length_take, List.length_nil] at this
      omega
    · rw [e2, List.take_add_one, ha]
      simp [mergeG]
  · subst e1
    subst e2
    have : ((xs.map toD).length) = xs.length := List.length_map _
    show Q (mergeG [] ((xs.take (xs.map toD).length).map fun a => (kf a, f a))) M'
    rw [this, List.take_length]
    exact q
end
end DL

namespace DL
open PySem PySem.Spec PyProof.Rows L2
section
variable {M : Mem} {Q : QE} {x : D} {xs : List D} {i : Int} {b c : Bool} {s z : Str}
theorem dIs_non {neg : Bool} : dIs neg x .non M Q ↔ Q (.bl (if neg then !isNon x else isNon x)) M := Iff.rfl
theorem dIs_bl {neg : Bool} : dIs neg (.bl b) (.bl c) M Q ↔ Q (.bl (if neg then !decide (b = c) else decide (b = c))) M := Iff.rfl
theorem dIn_str1 {neg : Bool} {k : Nat} : dIn neg (.str ⟨#[k]⟩) (.str z) M Q ↔ Q (.bl (if neg then !decide (k ∈ z.cps.toList) else decide (k ∈ z.cps.toList))) M := by
  constructor
  · rintro ⟨c, e, q⟩
    injection e with e
    injection e with e
    have : k = c := by simpa using e
    subst this
    exact q
  · exact fun q => ⟨k, rfl, q⟩
theorem isi_of {T : BTy} {Tn : String} {r : Bool} (h : hasTy M x Tn) (e : kitD Tn T.nm = some r) : rIsiD [x, .ty T.nm] M Q ↔ Q (.bl r) M := by
  constructor
  · rintro ⟨T', h', b', e', q⟩
    have : T' = Tn := by
      cases x with
      | ref a =>
        rcases h with ⟨rfl, xs, h⟩ | ⟨rfl, kvs, h⟩ | ⟨rfl, kvs, xs, h⟩ <;> rcases h' with ⟨rfl, xs', h'⟩ | ⟨rfl, kvs', h'⟩ | ⟨rfl, kvs', xs', h'⟩ <;> first | rfl | (rw [h] at h'; cases h')
      | _ => exact Option.some.inj (h'.symm.trans h)
    subst this
    rw [e] at e'
    cases e'
    exact q
  · exact fun q => ⟨Tn, h, r, e, q⟩
theorem isi_str {T : BTy} : rIsiD [.str s, .ty T.nm] M Q ↔ Q (.bl (match T with | .str => true | _ => false)) M := by
  cases T <;> exact isi_of (Tn := "str") rfl (by decide +kernel)
theorem isi_tup {T : BTy} : rIsiD [.tup xs, .ty T.nm] M Q ↔ Q (.bl (match T with | .tuple => true | _ => false)) M := by
  cases T <;> exact isi_of (Tn := "tuple") rfl (by decide +kernel)
theorem isi_tx {T : BTy} : rIsiD [.tx xs, .ty T.nm] M Q ↔ Q (.bl (match T with | .tuple => true | _ => false)) M := by
  cases T <;> exact isi_of (Tn := "tuple") rfl (by decide +kernel)
theorem isi_rl {T : BTy} : rIsiD [.rl xs, .ty T.nm] M Q ↔ Q (.bl (match T with | .list => true | _ => false)) M := by
  cases T <;> exact isi_of (Tn := "list") rfl (by decide +kernel)
theorem isi_int {T : BTy} : rIsiD [.int i, .ty T.nm] M Q ↔ Q (.bl (match T with | .int => true | _ => false)) M := by
  cases T <;> exact isi_of (Tn := "int") rfl (by decide +kernel)
theorem isi_bl {T : BTy} : rIsiD [.bl b, .ty T.nm] M Q ↔ Q (.bl (match T with | .int => true | .bool => true | _ => false)) M := by
  cases T <;> exact isi_of (Tn := "bool") rfl (by decide +kernel)
theorem isi_non {T : BTy} : rIsiD [.non, .ty T.nm] M Q ↔ Q (.bl false) M := by
  cases T <;> exact isi_of (Tn := "NoneType") rfl (by decide +kernel)
end
end DL

namespace PR
open PySem PySem.Spec PyProof.Rows L2 DL
local macro_rules | `(tactic| walk_at "dl") => `(tactic| simp only [wSs, wS, DL.wE, DL.wT, DL.wL, wEs, wO, wC, wI, wG, wGs, dSeq, dAsg, dPar, dIf, dDrop, dSlot, dC, CD.d, dBin, boR, coR, dSub, dMod, dFdiv, dTest, dChain, bQ, dNext, dRet, dRetN, dgName, dgSub, dgTup, dgCons, dgNil, dLst, dTup, dTupX, dCons, dNil, dIfE, dAndT, dOrT, dNotT, dAnd, dOr, dNot, dTruth, dTru_non, dTru_bl, dTru_int, dTru_str, dTru_tup, dTru_rl, dNeg, dSlice, dNoPart, dPart, dCall, dMt, dFnN, dMth, dFld, dSfl, dFz, dLcF, dNew, dNewD, dNewK, dLenK, dSliS, dSlS, dRevX, dgHead, dFrz, dForget, isTy, isIns, BF.rd, BT.rd, BM.rd, BM.ty, BF.rt, BT.rt, IEs.len, startD, getS, setS, wipeS, endB, tb, List.getD_cons_zero, List.getD_cons_succ, List.map_cons, List.map_nil, List.replicate, List.length_cons, List.length_nil, List.cons_append, List.nil_append, List.append_nil, dI_int, dAdd_int, dAdd_str, dAdd_tup, dIB_int, dLt_int, dLt_str, dEq_int, dEq_str, dNe_int, dNe_str, lenD_tup, lenD_rl, lenD_str, dMulA_int, dSl_str, ixN3_0, ixN3_1, ixN3_2, List.set_cons_zero, List.set_cons_succ, rAbs_int, rMin_int, rMax_int, rMin_str, rMax_str, dIx_wr, lenD_wr, atI_0, atI_1, atI_2, dIx_tup, dIx_rl, dIx_str, Option.some.injEq, exists_eq_left', decide_true, decide_false, eq_self, ite_true, ite_false, if_true, if_false, true_and, and_true, Bool.false_eq_true, Bool.not_true, Bool.not_false, Nat.reduceAdd, Nat.reduceSub, tTuple, tTupleX, dIs_non, dIs_bl, DL.isNon, dIn_str1, isi_str, isi_tup, isi_tx, isi_int, isi_rl, isi_bl, isi_non])
def signsW : Str := "abcdefghijklmnopqrstuvwxyzABCDEFGHIJKLMNOPQRSTUVWXYZ0123456789+-*=<>&|~^"
def figs : Str := "0123456789"
def wordB (w : Str) : Bool := (decide (1 ≤ (w.length : Int)) && decide ((w.length : Int) ≤ 6) && !decide (w = ("holds" : Str))) && (w.cps.toList.all (fun c => decide (c ∈ signsW.cps.toList)) && !w.cps.toList.all (fun c => decide (c ∈ figs.cps.toList)))
structure Gr where
  kinds : List Str
  shapes : List (Str × Str × List Str)
  names : List (Str × Str)
def sD (w : Str) : D := .str w
def tS (ws : List Str) : D := .tup (ws.map .str)
def shD' (s : Str × Str × List Str) : D := .tup [.str s.1, .str s.2.1, tS s.2.2]
def nmD (n : Str × Str) : D := .tup [.str n.1, .str n.2]
def Gr.kD (g : Gr) : D := tS g.kinds
def Gr.sD (g : Gr) : D := .tup (g.shapes.map shD')
def Gr.nD (g : Gr) : D := .tx (g.names.map nmD)
structure Gr.Ok (g : Gr) : Prop where
  k0 : g.kinds ≠ []
  kw : ∀ w ∈ g.kinds, wordB w = true
  sw : ∀ s ∈ g.shapes, wordB s.1 = true ∧ s.2.1 ∈ g.kinds ∧ s.2.2.length ≤ 3 ∧ ∀ p ∈ s.2.2, p ∈ g.kinds
  nw : ∀ n ∈ g.names, wordB n.1 = true ∧ n.2 ∈ g.kinds
  un : (g.kinds ++ (g.shapes.map (·.1) ++ g.names.map (·.1))).Nodup
  fewK : g.kinds.length ≤ 100
  fewS : g.shapes.length ≤ 100
  fewN : g.names.length ≤ 100
theorem word_len {w : Str} (h : wordB w = true) : w.length ≤ 6 := by
  unfold wordB at h
  simp only [Bool.and_eq_true, decide_eq_true_eq] at h
  omega
theorem word_sz {w : Str} (h : wordB w = true) : w.length ≤ sizeLine := by
  have := word_len h
  have : sizeLine = 2 ^ 24 := rfl
  omega
end PR

namespace DL
open PySem PySem.Spec PyProof.Rows L2
section
variable {M : Mem} {Q : QE} {x y : D} {xs ys : List D} {i : Int} {w : Str} {ws : List Str} {a : Addr} {neg : Bool}
theorem goodL_strs {n : Nat} : goodL (ws.map D.str) n = true := goodL_all.mpr fun x hx => by
  obtain ⟨z, _, rfl⟩ := List.mem_map.mp hx
  rfl
theorem dIn_dict {kvs : List (Key × D)} {k : Key} (h : M a = some (.dK kvs)) (hk : keyD x = some k) : dIn neg x (.ref a) M Q ↔ Q (.bl (if neg then !(valG kvs k).isSome else (valG kvs k).isSome)) M := by
  constructor
  · rintro (⟨xs, h', _⟩ | ⟨kvs', k', h', hk', q⟩ | ⟨kvs', k', ks, h', _⟩)
    · rw [h] at h'; cases h'
    · rw [h] at h'
      cases h'
      rw [hk] at hk'
      cases hk'
      exact q
    · rw [h] at h'; cases h'
  · exact fun q => .inr (.inl ⟨kvs, k, h, hk, q⟩)
theorem dIx_dict {kvs : List (Key × D)} {k : Key} {d : D} (h : M a = some (.dK kvs)) (hk : keyD x = some k) (hv : valG kvs k = some d) : dIx (.ref a) x M Q ↔ Q d M := by
  constructor
  · rintro (⟨xs, i, d', h', _⟩ | ⟨kvs', k', d', h', hk', hv', q⟩ | ⟨kvs', k', ks, d', h', _⟩)
    · rw [h] at h'; cases h'
    · rw [h] at h'
      cases h'
      rw [hk] at hk'
      cases hk'
      rw [hv] at hv'
      cases hv'
      exact q
    · rw [h] at h'; cases h'
  · exact fun q => .inr (.inl ⟨kvs, k, d, h, hk, hv, q⟩)
theorem mGet1 {kvs : List (Key × D)} {k : Key} (h : M a = some (.dK kvs)) (hk : keyD x = some k) : mGet (.ref a) [x] M Q ↔ Q ((valG kvs k).getD .non) M := by
  constructor
  · rintro (⟨kvs', k', h', hk', q⟩ | ⟨kvs', k', ks, h', _⟩)
    · rw [h] at h'
      cases h'
      rw [hk] at hk'
      cases hk'
      exact q
    · rw [h] at h'; cases h'
  · exact fun q => .inl ⟨kvs, k, h, hk, q⟩
theorem dEq_tup0 (g : goodL xs 63 = true) (q : Q (.bl xs.isEmpty) M) : dEq (.tup xs) (.tup []) M Q := by
  refine dEq_good (x := .tup xs) (y := .tup []) (by unfold good; exact g) (by unfold good goodL; rfl) fun b hb => ?_
  have : b = xs.isEmpty := by
    rw [Bool.eq_iff_iff, hb, List.isEmpty_iff]
    constructor
    · intro h; injection h
    · intro h; rw [h]
  rw [this]; exact q
end
end DL

namespace PR
open PySem PySem.Spec PyProof.Rows L2 DL
local macro_rules | `(tactic| walk_at "dl") => `(tactic| simp only [wSs, wS, DL.wE, DL.wT, DL.wL, wEs, wO, wC, wI, wG, wGs, dSeq, dAsg, dPar, dIf, dDrop, dSlot, dC, CD.d, dBin, boR, coR, dSub, dMod, dFdiv, dTest, dChain, bQ, dNext, dRet, dRetN, dgName, dgSub, dgTup, dgCons, dgNil, dLst, dTup, dTupX, dCons, dNil, dIfE, dAndT, dOrT, dNotT, dAnd, dOr, dNot, dTruth, dTru_non, dTru_bl, dTru_int, dTru_str, dTru_tup, dTru_rl, dNeg, dSlice, dNoPart, dPart, dCall, dMt, dFnN, dMth, dFld, dSfl, dFz, dLcF, dNew, dNewD, dNewK, dLenK, dSliS, dSlS, dRevX, dgHead, dFrz, dForget, isTy, isIns, BF.rd, BT.rd, BM.rd, BM.ty, BF.rt, BT.rt, IEs.len, startD, getS, setS, wipeS, endB, tb, List.getD_cons_zero, List.getD_cons_succ, List.map_cons, List.map_nil, List.replicate, List.length_cons, List.length_nil, List.cons_append, List.nil_append, List.append_nil, dI_int, dAdd_int, dAdd_str, dAdd_tup, dIB_int, dLt_int, dLt_str, dEq_int, dEq_str, dNe_int, dNe_str, lenD_tup, lenD_rl, lenD_str, dMulA_int, dSl_str, ixN3_0, ixN3_1, ixN3_2, List.set_cons_zero, List.set_cons_succ, rAbs_int, rMin_int, rMax_int, rMin_str, rMax_str, dIx_wr, lenD_wr, atI_0, atI_1, atI_2, dIx_tup, dIx_rl, dIx_str, Option.some.injEq, exists_eq_left', decide_true, decide_false, eq_self, ite_true, ite_false, if_true, if_false, true_and, and_true, Bool.false_eq_true, Bool.not_true, Bool.not_false, Nat.reduceAdd, Nat.reduceSub, tTuple, tTupleX, dIs_non, dIs_bl, DL.isNon, dIn_str1, isi_str, isi_tup, isi_tx, isi_int, isi_rl, isi_bl, isi_non])
end PR

namespace PR
open PySem PySem.Spec PyProof.Rows L2 DL
local macro_rules | `(tactic| walk_at "dl") => `(tactic| simp only [wSs, wS, DL.wE, DL.wT, DL.wL, wEs, wO, wC, wI, wG, wGs, dSeq, dAsg, dPar, dIf, dDrop, dSlot, dC, CD.d, dBin, boR, coR, dSub, dMod, dFdiv, dTest, dChain, bQ, dNext, dRet, dRetN, dgName, dgSub, dgTup, dgCons, dgNil, dLst, dTup, dTupX, dCons, dNil, dIfE, dAndT, dOrT, dNotT, dAnd, dOr, dNot, dTruth, dTru_non, dTru_bl, dTru_int, dTru_str, dTru_tup, dTru_rl, dNeg, dSlice, dNoPart, dPart, dCall, dMt, dFnN, dMth, dFld, dSfl, dFz, dLcF, dNew, dNewD, dNewK, dLenK, dSliS, dSlS, dRevX, dgHead, dFrz, dForget, isTy, isIns, BF.rd, BT.rd, BM.rd, BM.ty, BF.rt, BT.rt, IEs.len, startD, getS, setS, wipeS, endB, tb, List.getD_cons_zero, List.getD_cons_succ, List.map_cons, List.map_nil, List.replicate, List.length_cons, List.length_nil, List.cons_append, List.nil_append, List.append_nil, dI_int, dAdd_int, dAdd_str, dAdd_tup, dIB_int, dLt_int, dLt_str, dEq_int, dEq_str, dNe_int, dNe_str, lenD_tup, lenD_rl, lenD_str, dMulA_int, dSl_str, ixN3_0, ixN3_1, ixN3_2, List.set_cons_zero, List.set_cons_succ, rAbs_int, rMin_int, rMax_int, rMin_str, rMax_str, dIx_wr, lenD_wr, atI_0, atI_1, atI_2, dIx_tup, dIx_rl, dIx_str, Option.some.injEq, exists_eq_left', decide_true, decide_false, eq_self, ite_true, ite_false, if_true, if_false, true_and, and_true, Bool.false_eq_true, Bool.not_true, Bool.not_false, Nat.reduceAdd, Nat.reduceSub, tTuple, tTupleX, dIs_non, dIs_bl, DL.isNon, dIn_str1, isi_str, isi_tup, isi_tx, isi_int, isi_rl, isi_bl, isi_non])
end PR


namespace PR
open PySem PySem.Spec PyProof.Rows L2 DL
local macro_rules | `(tactic| walk_at "dl") => `(tactic| simp only [wSs, wS, DL.wE, DL.wT, DL.wL, wEs, wO, wC, wI, wG, wGs, dSeq, dAsg, dPar, dIf, dDrop, dSlot, dC, CD.d, dBin, boR, coR, dSub, dMod, dFdiv, dTest, dChain, bQ, dNext, dRet, dRetN, dFzK, dFrzK, dDisp, dPairs, DL.wDs, dgName, dgSub, dgTup, dgCons, dgNil, dLst, dTup, dTupX, dAug, dItX, dLz, dDz, dgTup2, dLenS, dSrI, diZip, diZipR, dCons, dNil, dIfE, dAndT, dOrT, dNotT, dAnd, dOr, dNot, dTruth, dTru_non, dTru_bl, dTru_int, dTru_str, dTru_tup, dTru_rl, dNeg, dSlice, dNoPart, dPart, dCall, dMt, dFnN, dMth, dFld, dSfl, dFz, dLcF, dNew, dNewD, dNewDT, dNewK, dLenK, dSrtS, dLkE, dLkS, dLsR, dTpR, dEqO, dLnO, bolQ, rIsiO, dSliS, dSlS, dRevX, dgHead, dFrz, dForget, isTy, isIns, BF.rd, BT.rd, BM.rd, BM.ty, BF.rt, BT.rt, IEs.len, startD, getS, setS, wipeS, endB, tb, List.getD_cons_zero, List.getD_cons_succ, List.map_cons, List.map_nil, List.replicate, List.length_cons, List.length_nil, List.cons_append, List.nil_append, List.append_nil, dI_int, dAdd_int, dAdd_str, dAdd_tup, dIB_int, dLt_int, dLt_str, dEq_int, dEq_str, dNe_int, dNe_str, lenD_tup, lenD_rl, lenD_str, dMulA_int, dSl_str, ixN3_0, ixN3_1, ixN3_2, List.set_cons_zero, List.set_cons_succ, rAbs_int, rMin_int, rMax_int, rMin_str, rMax_str, dIx_wr, lenD_wr, atI_0, atI_1, atI_2, dIx_tup, dIx_rl, dIx_str, Option.some.injEq, exists_eq_left', decide_true, decide_false, eq_self, ite_true, ite_false, if_true, if_false, true_and, and_true, Bool.false_eq_true, Bool.not_true, Bool.not_false, Nat.reduceAdd, Nat.reduceSub, tTuple, tTupleX, dIs_non, dIs_bl, DL.isNon, dIn_str1, isi_str, isi_tup, isi_tx, isi_int, isi_rl, isi_bl, isi_non])
def Gr.called (g : Gr) : List (Key × D) := g.names.map fun n => (.inr n.1, .str n.2)
def Gr.made (g : Gr) : List (Key × D) := g.shapes.map fun s => (.inr s.1, .tup [.str s.2.1, tS s.2.2])
structure ThAt (C : Addr) (M : Mem) (t : Addr) (g : Gr) (kept : List (Key × D)) : Prop where
  ex : ∃ pc pm pk : Addr, M t = some (.ins C [("kinds", g.kD), ("shapes", g.sD), ("names", g.nD), ("called", .ref pc), ("made", .ref pm), ("kept", .ref pk)]) ∧ M pc = some (.dK g.called) ∧ M pm = some (.dK g.made) ∧ M pk = some (.dK kept)
theorem ThAt.sub {C : Addr} {M M' : Mem} {t : Addr} {g : Gr} {kept : List (Key × D)} (h : ThAt C M t g kept) (s : Sub M M') : ThAt C M' t g kept := by
  obtain ⟨pc, pm, pk, h1, h2, h3, h4⟩ := h
  exact ⟨pc, pm, pk, s _ _ h1, s _ _ h2, s _ _ h3, s _ _ h4⟩
theorem ThAt.wr {C : Addr} {M : Mem} {t h : Addr} {g : Gr} {kept : List (Key × D)} {xs : List D} {o : MO} (q : ThAt C M t g kept) (hh : M h = some (.lst xs)) : ThAt C (wr M h o) t g kept := by
  obtain ⟨pc, pm, pk, h1, h2, h3, h4⟩ := q
  have ne : ∀ {a : Addr} {u : MO}, M a = some u → u ≠ .lst xs → a ≠ h := fun {a u} e k z => by subst z; rw [e] at hh; cases hh; exact k rfl
  refine ⟨pc, pm, pk, ?_, ?_, ?_, ?_⟩
  · rw [wr_ne (ne h1 fun z => by cases z)]; exact h1
  · rw [wr_ne (ne h2 fun z => by cases z)]; exact h2
  · rw [wr_ne (ne h3 fun z => by cases z)]; exact h3
  · rw [wr_ne (ne h4 fun z => by cases z)]; exact h4
theorem wr_fresh {M : Mem} {p q : Addr} {o : MO} (h : wr M p o q = none) : q ≠ p ∧ M q = none := by
  by_cases e : q = p
  · subst e; rw [wr_same] at h; cases h
  · rw [wr_ne e] at h; exact ⟨e, h⟩
end PR

namespace DL
open PySem PySem.Spec PyProof.Rows L2
section
variable {α β : Type} {w w1 : DTI} {gt gt1 : DTG} {tt tt1 : DTT} {te tk tv : DTE} {vs vs1 : List Nat} {e : Sl} {M : Mem} {E : EX}
end
theorem wr_wr {M : Mem} {a : Addr} {o u : MO} : wr (wr M a o) a u = wr M a u := by
  funext b
  by_cases h : b = a
  · subst h; rw [wr_same, wr_same]
  · rw [wr_ne h, wr_ne h, wr_ne h]
theorem dEq_lst0 {M : Mem} {p : Addr} {xs : List D} {Q : QE} (h1 : M p = some (.lst xs)) (g : goodL xs 60 = true) (hq : Q (.bl xs.isEmpty) M) : dEq (.ref p) (.rl []) M Q := by
  show dEqB (.ref p) (.rl []) M fun b => Q (.bl b) M
  obtain ⟨f1, f2, f3⟩ := goodL_flat xs _ g
  refine .inl ⟨.list (toPyL xs), .list [], .lst h1 (PDL.of xs f1), .rl .nil, ?_, by decide +kernel, ?_⟩
  · have g2 : good (.tup xs) 64 = true := by
      unfold good
      exact goodL_all.mpr fun x hx => good_mono (n := 60) (m := 63) (goodL_all.mp g x hx) (by decide)
    simpa [okP, PyData.plain, PyData.depth, toPy] using good_ok g2 (Nat.le_refl _)
  · have : PyData.eqv (.list (toPyL xs)) (.list []) = xs.isEmpty := by
      cases xs with
      | nil => simp [toPyL, PyData.eqv, PyData.eqvAll]
      | cons => simp [toPyL, PyData.eqv, PyData.eqvAll]
    rw [this]
    exact hq
section
variable {α : Type} {w : DTI} {gt : DTG} {tt : DTT} {te : DTE} {tb : DTS} {vs : List Nat} {e : Sl} {M : Mem} {E : EX}
def LcK (gt : DTG) (tt : DTT) (te : DTE) (vs : List Nat) (e : Sl) (Q : List D → Mem → Prop) : Src → Mem → Prop := fun src M1 => ∃ I : Nat → List D → Mem → Prop, I 0 [] M1 ∧
  (∀ i d acc M', src.items[i]? = some d → I i acc M' → src.live M' ∧ gt d (wipeS e vs) M' (fun e2 M2 => tt e2 M2 (fun b M3 =>
    if b = true then te e2 M3 (fun y M4 => acc.length < sizeLine ∧ I (i + 1) (acc ++ [y]) M4) EF else I (i + 1) acc M3) EF) EF) ∧
  ∀ acc M', I src.items.length acc M' → src.live M' ∧ Q acc M'
theorem lcGo {Q : List D → Mem → Prop} (h : w e M (LcK gt tt te vs e Q) E) : dLc w gt tt te vs e M Q E := h
theorem lcK {Q : List D → Mem → Prop} {live : Mem → Prop} (xs : List α) (toD : α → D) (I : List α → List D → Mem → Prop) (hl : ∀ r acc M', I r acc M' → live M') (h0 : I xs [] M)
    (hb : ∀ a r acc M', (∃ pre, xs = pre ++ a :: r) → I (a :: r) acc M' → gt (toD a) (wipeS e vs) M' (fun e2 M2 => tt e2 M2 (fun b M3 => if b = true then te e2 M3 (fun y M4 => acc.length < sizeLine ∧ I r (acc ++ [y]) M4) EF else I r acc M3) EF) EF)
    (q : ∀ acc M', I [] acc M' → Q acc M') : LcK gt tt te vs e Q ⟨xs.map toD, live⟩ M := by
  have := lcI (w := fun e M R E => R ⟨xs.map toD, live⟩ M) (E := EF) (Q := Q) (gt := gt) (tt := tt) (te := te) (vs := vs) (e := e) (M := M) xs toD I (fun R h => h live hl) h0 hb q
  exact this
def ForK (gt : DTG) (tb : DTS) (Dn : DEnds) (E : EX) (e : Sl) : Src → Mem → Prop := fun src M1 => ∃ W : Nat → Sl → Mem → Prop, W 0 e M1 ∧
  (∀ i d e' M', src.items[i]? = some d → W i e' M' → src.live M' ∧ gt d e' M' (fun e2 M2 => tb ⟨W (i + 1), Dn.rt, Dn.nx, W (i + 1)⟩ E e2 M2) E) ∧
  ∀ e' M', W src.items.length e' M' → src.live M' ∧ Dn.nx e' M'
theorem forGo {Dn : DEnds} (h : w e M (ForK gt tb Dn E e) E) : dFor w gt tb Dn E e M := h
theorem forK {Dn : DEnds} {live : Mem → Prop} (xs : List α) (toD : α → D) (W : List α → Sl → Mem → Prop) (hl : ∀ r e' M', W r e' M' → live M') (h0 : W xs e M)
    (hb : ∀ a r e' M', (∃ pre, xs = pre ++ a :: r) → W (a :: r) e' M' → gt (toD a) e' M' (fun e2 M2 => tb ⟨W r, Dn.rt, Dn.nx, W r⟩ E e2 M2) E)
    (q : ∀ e' M', W [] e' M' → Dn.nx e' M') : ForK gt tb Dn E e ⟨xs.map toD, live⟩ M :=
  forI (w := fun e M R E => R ⟨xs.map toD, live⟩ M) (E := E) (Dn := Dn) (gt := gt) (tb := tb) (e := e) (M := M) xs toD W (fun R h => h live hl) h0 hb q
end
theorem rng0 {n : Nat} : rng 0 n = (List.range n).map fun i : Nat => D.int (i : Int) := by
  unfold rng
  simp only [Int.zero_add]
theorem dTru_str' {w : Str} {M : Mem} {Q : Bool → Prop} (h : 1 ≤ w.length) (h2 : w.length ≤ sizeLine) (q : Q true) : dTru (.str w) M Q := by
  have : (!decide (w.length = 0)) = true := by simp; omega
  exact ⟨h2, this ▸ q⟩
end DL


namespace PR
open PySem PySem.Spec PyProof.Rows L2 DL
local macro_rules | `(tactic| walk_at "dl") => `(tactic| simp only [wSs, wS, DL.wE, DL.wT, DL.wL, wEs, wO, wC, wI, wG, wGs, dSeq, dAsg, dPar, dIf, dDrop, dSlot, dC, CD.d, dBin, boR, coR, dSub, dMod, dFdiv, dTest, dChain, bQ, dNext, dRet, dRetN, dFzK, dFrzK, dDisp, dPairs, DL.wDs, dgName, dgSub, dgTup, dgCons, dgNil, dLst, dTup, dTupX, dAug, dItX, dLz, dDz, dgTup2, dLenS, dSrI, diZip, diZipR, dCons, dNil, dIfE, dAndT, dOrT, dNotT, dAnd, dOr, dNot, dTruth, dTru_non, dTru_bl, dTru_int, dTru_str, dTru_tup, dTru_rl, dNeg, dSlice, dNoPart, dPart, dCall, dMt, dFnN, dMth, dFld, dSfl, dFz, dLcF, dNew, dNewD, dNewDT, dNewK, dLenK, dSrtS, dLkE, dLkS, dLsR, dTpR, dEqO, dLnO, bolQ, rIsiO, dSliS, dSlS, dRevX, dgHead, dFrz, dForget, isTy, isIns, BF.rd, BT.rd, BM.rd, BM.ty, BF.rt, BT.rt, IEs.len, startD, getS, setS, wipeS, endB, tb, List.getD_cons_zero, List.getD_cons_succ, List.map_cons, List.map_nil, List.replicate, List.length_cons, List.length_nil, List.cons_append, List.nil_append, List.append_nil, dI_int, dAdd_int, dAdd_str, dAdd_tup, dIB_int, dLt_int, dLt_str, dEq_int, dEq_str, dNe_int, dNe_str, lenD_tup, lenD_rl, lenD_str, dMulA_int, dSl_str, ixN3_0, ixN3_1, ixN3_2, List.set_cons_zero, List.set_cons_succ, rAbs_int, rMin_int, rMax_int, rMin_str, rMax_str, dIx_wr, lenD_wr, atI_0, atI_1, atI_2, dIx_tup, dIx_rl, dIx_str, Option.some.injEq, exists_eq_left', decide_true, decide_false, eq_self, ite_true, ite_false, if_true, if_false, true_and, and_true, Bool.false_eq_true, Bool.not_true, Bool.not_false, Nat.reduceAdd, Nat.reduceSub, tTuple, tTupleX, dIs_non, dIs_bl, DL.isNon, dIn_str1, isi_str, isi_tup, isi_tx, isi_int, isi_rl, isi_bl, isi_non])
def Gr.mak (g : Gr) (w : Str) : Option (Str × List Str) := match g.names.lookup w with
  | some k => some (k, [])
  | none => g.shapes.lookup w
def mkD : Option (Str × List Str) → D
  | some (k, ps) => .tup [.str k, tS ps]
  | none => .non
def oD : Option Str → D
  | some k => .str k
  | none => .non
def Gr.go (g : Gr) : List Str → List (Option Str) → Option Str → Option Str
  | [], st, f => if st = [] then f else none
  | w :: r, st, f => match g.mak w with
    | none => none
    | some (k, ps) => match st with
      | [] => none
      | t :: st => if t = none ∨ t = some k then g.go r (ps.map some ++ st) (f.or (some k)) else none
def Gr.kindOf (g : Gr) (ws : List Str) : Option Str := if ws = [] then none else g.go ws [none] none
theorem valG_map {α β : Type} {xs : List (Str × α)} {w : Str} (f : α → β) : valG (xs.map fun n => ((.inr n.1 : Key), f n.2)) (.inr w) = (xs.lookup w).map f := by
  induction xs with
  | nil => rfl
  | cons p r ih =>
    rw [List.map_cons, valG_cons, ih, List.lookup_cons]
    by_cases h : p.1 = w
    · have : (w == p.1) = true := by rw [h]; exact beq_self_eq_true w
      rw [if_pos (by rw [h]), this]; rfl
    · have : (w == p.1) = false := beq_eq_false_iff_ne.mpr fun e => h e.symm
      rw [if_neg (fun e => h (by injection e)), this]
theorem called_val {g : Gr} {w : Str} : valG g.called (.inr w) = (g.names.lookup w).map D.str := valG_map (α := Str) (β := D) D.str
theorem made_val {g : Gr} {w : Str} : valG g.made (.inr w) = (g.shapes.lookup w).map fun s => .tup [.str s.1, tS s.2] := valG_map (α := Str × List Str) (β := D) fun s => .tup [.str s.1, tS s.2]
def spMaking (C : Addr) : DSp := fun ds M Q E => ∃ (t : Addr) (g : Gr) (kept : List (Key × D)) (w : Str), ds = [.ref t, .str w] ∧ ThAt C M t g kept ∧ Q (mkD (g.mak w)) M
theorem making (C : Addr) (ds : List D) (M : Mem) (Q : QE) (E : EX) (H : spMaking C ds M Q E) : wSs (tb [] [] [C]) ir_Theory_making (endB Q) E (startD 2 ds) M := by
  obtain ⟨t, g, kept, w, rfl, ⟨pc, pm, pk, h1, h2, h3, h4⟩, q⟩ := H
  unfold ir_Theory_making
  walk_at "dl"
  refine ⟨_, _, h1, rfl, ?_⟩
  rw [dIn_dict h2 (k := .inr w) rfl, called_val]
  walk_at "dl"
  unfold Gr.mak at q
  cases e : g.names.lookup w with
  | some k =>
    rw [e] at q
    simp only [Option.map_some, Option.isSome_some]
    walk_at "dl"
    refine ⟨_, _, h1, rfl, ?_⟩
    rw [dIx_dict h2 (k := .inr w) (d := .str k) rfl (by rw [called_val, e]; rfl)]
    exact ⟨by decide, by decide, M, Sub.refl, q⟩
  | none =>
    rw [e] at q
    simp only [Option.map_none, Option.isSome_none]
    walk_at "dl"
    refine ⟨_, _, h1, rfl, ?_⟩
    refine ⟨.inr (.inl ⟨_, h3⟩), ?_⟩
    rw [mGet1 h3 (k := .inr w) rfl, made_val]
    refine ⟨M, Sub.refl, ?_⟩
    cases e2 : g.shapes.lookup w with
    | none => rw [e2] at q; exact q
    | some s => rw [e2] at q; exact q
theorem lookup_in {α : Type} {xs : List (Str × α)} {w : Str} {v : α} (h : xs.lookup w = some v) : (w, v) ∈ xs := by
  induction xs with
  | nil => cases h
  | cons p r ih =>
    obtain ⟨a, b⟩ := p
    rw [List.lookup_cons] at h
    cases e : (w == a) with
    | true => rw [e] at h; cases h; rw [beq_iff_eq.mp e]; exact List.mem_cons_self
    | false => rw [e] at h; exact List.mem_cons_of_mem _ (ih h)
theorem mak_ok {g : Gr} (ok : g.Ok) {w k : Str} {ps : List Str} (h : g.mak w = some (k, ps)) : k ∈ g.kinds ∧ wordB k = true ∧ ps.length ≤ 3 ∧ ∀ p ∈ ps, p ∈ g.kinds := by
  unfold Gr.mak at h
  cases e : g.names.lookup w with
  | some k' =>
    rw [e] at h
    cases h
    have := (ok.nw _ (lookup_in e)).2
    exact ⟨this, ok.kw _ this, by simp, by simp⟩
  | none =>
    rw [e] at h
    obtain ⟨h1, h2, h3, h4⟩ := ok.sw _ (lookup_in h)
    exact ⟨h2, ok.kw _ h2, h3, h4⟩
theorem good_oD (o : Option Str) (n : Nat) : good (oD o) n = true := by cases o <;> rfl
theorem word_pos {w : Str} (h : wordB w = true) : 1 ≤ w.length := by
  unfold wordB at h
  simp only [Bool.and_eq_true, decide_eq_true_eq] at h
  omega
def spKindOf (C : Addr) : DSp := fun ds M Q E => ∃ (t : Addr) (g : Gr) (kept : List (Key × D)) (ws : List Str), ds = [.ref t, tS ws] ∧ g.Ok ∧ ThAt C M t g kept ∧ ws.length ≤ 5000000 ∧ Q (oD (g.kindOf ws)) M
theorem kind_of (C : Addr) (ds : List D) (M : Mem) (Q : QE) (E : EX) (H : spKindOf C ds M Q E) : wSs (tb [] [spMaking C] [C]) ir_kind_of (endB Q) E (startD 8 ds) M := by
  obtain ⟨t, g, kept, ws, rfl, ok, th, hl, q⟩ := H
  have s24 : sizeLine = 2 ^ 24 := rfl
  unfold ir_kind_of tS
  walk_at "dl"
  refine ⟨Nat.zero_le _, dEq_tup0 goodL_strs ?_⟩
  unfold Gr.kindOf at q
  cases hw : ws with
  | nil =>
    subst hw
    walk_at "dl"
    exact ⟨M, Sub.refl, q⟩
  | cons w0 r0 =>
  rw [← hw]
  have e0 : (ws.map D.str).isEmpty = false := by rw [hw]; rfl
  rw [e0]
  rw [if_neg (by rw [hw]; simp)] at q
  walk_at "dl"
  refine ⟨by decide, fun p hp => ?_⟩
  have hpt : p ≠ t := fun z => by
    subst z
    obtain ⟨pc, pm, pk, h1, _⟩ := th
    rw [hp] at h1; cases h1
  unfold lp_kind_of_0
  walk_at "dl"
  generalize hres : g.go ws [none] none = res at q
  refine forI ws D.str (fun r e' M' => ∃ (st : List (Option Str)) (f : Option Str) (x4 x5 x6 x7 : Option D), e' = [some (.ref t), some (.tup (ws.map .str)), some (.ref p), some (oD f), x4, x5, x6, x7] ∧ M' = wr M p (.lst (st.map oD).reverse) ∧ g.go r st f = res ∧ st.length + r.length * 3 ≤ 1 + ws.length * 3 ∧ ∀ k, f = some k → wordB k = true) (fun R h => by
    unfold diAny
    walk_at "dl"
    exact h (fun _ => True) fun _ _ _ _ => trivial) ⟨[none], none, none, none, none, none, rfl, rfl, hres, by simp, fun _ h => by cases h⟩ ?_ ?_
  · rintro w r e' M' _ ⟨st, f, x4, x5, x6, x7, rfl, rfl, hgo, hlen, hf⟩
    have hm : ∀ o, ThAt C (wr M p o) t g kept := fun o => th.sub (sub_wr hp)
    walk_at "dl"
    obtain ⟨pc, pm, pk, h1, h2, h3, h4⟩ := id th
    refine ⟨⟨_, by rw [wr_ne hpt.symm]; exact h1, rfl⟩, t, g, kept, w, rfl, hm _, ?_⟩
    unfold Gr.go at hgo
    cases e : g.mak w with
    | none =>
      rw [e] at hgo
      unfold mkD
      walk_at "dl"
      have : res = none := hgo.symm
      subst this
      exact ⟨M, sub_wr hp, q⟩
    | some kp =>
      obtain ⟨k, ps⟩ := kp
      obtain ⟨k1, k2, k3, k4⟩ := mak_ok ok e
      rw [e] at hgo
      unfold mkD
      walk_at "dl"
      refine ⟨Nat.zero_le _, fun p1 hp1 => ⟨_, wr_same, ?_⟩⟩
      rw [mdel_wr hp1]
      refine dEq_lst0 wr_same (goodL_all.mpr fun x hx => ?_) ?_
      · rw [List.mem_reverse] at hx
        obtain ⟨o, _, rfl⟩ := List.mem_map.mp hx
        exact good_oD o _
      cases st with
      | nil =>
        simp only [List.map_nil, List.reverse_nil, List.isEmpty_nil]
        walk_at "dl"
        have : res = none := hgo.symm
        subst this
        exact ⟨M, sub_wr hp, q⟩
      | cons t0 st =>
        have e1 : (List.map oD (t0 :: st)).reverse.isEmpty = false := by simp
        rw [e1]
        walk_at "dl"
        refine ⟨.inl ⟨_, wr_same⟩, (List.map oD (t0 :: st)).reverse, oD t0, wr_same, by simp, by decide, ?_⟩
        rw [wr_wr]
        have e2 : (List.map oD (t0 :: st)).reverse.dropLast = (st.map oD).reverse := by simp
        rw [e2]
        refine dIn_tup (good_oD t0 _) (goodL_all.mpr fun x hx => ?_) fun b hb => ?_
        · simp at hx
          rcases hx with rfl | rfl <;> rfl
        have hb' : b = true ↔ (t0 = none ∨ t0 = some k) := by
          rw [hb]
          cases t0 with
          | none => simp [oD]
          | some z => simp [oD]
        by_cases ht : t0 = none ∨ t0 = some k
        · have : b = true := hb'.mpr ht
          subst this
          simp only [if_pos ht] at hgo
          walk_at "dl"
          have e3 : (st.map oD).reverse ++ (ps.map D.str).reverse = ((ps.map some ++ st).map oD).reverse := by
            rw [List.map_append, List.reverse_append, List.map_map]
            rfl
          have hl2 : st.length + 1 + (r.length + 1) * 3 ≤ 1 + ws.length * 3 := hlen
          have sz : (st.map oD).reverse.length + (ps.map D.str).reverse.length ≤ sizeLine := by
            simp only [List.length_reverse, List.length_map]
            omega
          have hl3 : (ps.map some ++ st).length + r.length * 3 ≤ 1 + ws.length * 3 := by
            rw [List.length_append, List.length_map]
            omega
          cases f with
          | none =>
            refine ⟨.inl ⟨_, wr_same⟩, by decide, _, wr_same, sz, ps.map some ++ st, some k, _, _, _, _, rfl, by rw [wr_wr, e3], hgo, hl3, fun z hz => by cases hz; exact k2⟩
          | some k0 =>
            refine dTru_str' (word_pos (hf k0 rfl)) (word_sz (hf k0 rfl)) ⟨.inl ⟨_, wr_same⟩, by decide, _, wr_same, sz, ps.map some ++ st, some k0, _, _, _, _, rfl, by rw [wr_wr, e3], hgo, hl3, hf⟩
        · have : b = false := by
            cases b
            · rfl
            · exact absurd (hb'.mp rfl) ht
          subst this
          simp only [if_neg ht] at hgo
          walk_at "dl"
          have : res = none := hgo.symm
          subst this
          exact ⟨M, sub_wr hp, q⟩
  · rintro e' M' ⟨st, f, x4, x5, x6, x7, rfl, rfl, hgo, hlen, hf⟩
    walk_at "dl"
    refine ⟨Nat.zero_le _, fun p1 hp1 => ⟨_, wr_same, ?_⟩⟩
    rw [mdel_wr hp1]
    refine dEq_lst0 wr_same (goodL_all.mpr fun x hx => ?_) ?_
    · rw [List.mem_reverse] at hx
      obtain ⟨o, _, rfl⟩ := List.mem_map.mp hx
      exact good_oD o _
    unfold Gr.go at hgo
    cases st with
    | nil =>
      simp only [List.map_nil, List.reverse_nil, List.isEmpty_nil]
      walk_at "dl"
      subst hgo
      exact ⟨M, sub_wr hp, q⟩
    | cons t0 st =>
      have e1 : (List.map oD (t0 :: st)).reverse.isEmpty = false := by simp
      rw [e1]
      walk_at "dl"
      subst hgo
      exact ⟨M, sub_wr hp, q⟩
end PR


namespace PR
open PySem PySem.Spec PyProof.Rows L2 DL
local macro_rules | `(tactic| walk_at "dl") => `(tactic| simp only [wSs, wS, DL.wE, DL.wT, DL.wL, wEs, wO, wC, wI, wG, wGs, dSeq, dAsg, dPar, dIf, dDrop, dSlot, dC, CD.d, dBin, boR, coR, dSub, dMod, dFdiv, dTest, dChain, bQ, dNext, dRet, dRetN, dFzK, dFrzK, dDisp, dPairs, DL.wDs, dgName, dgSub, dgTup, dgCons, dgNil, dLst, dTup, dTupX, dAug, dItX, dLz, dDz, dgTup2, dLenS, dSrI, diZip, diZipR, dCons, dNil, dIfE, dAndT, dOrT, dNotT, dAnd, dOr, dNot, dTruth, dTru_non, dTru_bl, dTru_int, dTru_str, dTru_tup, dTru_rl, dNeg, dSlice, dNoPart, dPart, dCall, dMt, dFnN, dMth, dFld, dSfl, dFz, dLcF, dNew, dNewD, dNewDT, dNewK, dLenK, dSrtS, dLkE, dLkS, dLsR, dTpR, dEqO, dLnO, bolQ, rIsiO, dSliS, dSlS, dRevX, dgHead, dFrz, dForget, isTy, isIns, BF.rd, BT.rd, BM.rd, BM.ty, BF.rt, BT.rt, IEs.len, startD, getS, setS, wipeS, endB, tb, List.getD_cons_zero, List.getD_cons_succ, List.map_cons, List.map_nil, List.replicate, List.length_cons, List.length_nil, List.cons_append, List.nil_append, List.append_nil, dI_int, dAdd_int, dAdd_str, dAdd_tup, dIB_int, dLt_int, dLt_str, dEq_int, dEq_str, dNe_int, dNe_str, lenD_tup, lenD_rl, lenD_str, dMulA_int, dSl_str, ixN3_0, ixN3_1, ixN3_2, List.set_cons_zero, List.set_cons_succ, rAbs_int, rMin_int, rMax_int, rMin_str, rMax_str, dIx_wr, lenD_wr, atI_0, atI_1, atI_2, dIx_tup, dIx_rl, dIx_str, Option.some.injEq, exists_eq_left', decide_true, decide_false, eq_self, ite_true, ite_false, if_true, if_false, true_and, and_true, Bool.false_eq_true, Bool.not_true, Bool.not_false, Nat.reduceAdd, Nat.reduceSub, tTuple, tTupleX, dIs_non, dIs_bl, DL.isNon, dIn_str1, isi_str, isi_tup, isi_tx, isi_int, isi_rl, isi_bl, isi_non])
def putIn (pairs : List (Str × List Str)) (ws : List Str) : List Str := ws.flatMap fun w => (pairs.lookup w).getD [w]
end PR


namespace PR
open PySem PySem.Spec PyProof.Rows L2 DL
local macro_rules | `(tactic| walk_at "dl") => `(tactic| simp only [wSs, wS, DL.wE, DL.wT, DL.wL, wEs, wO, wC, wI, wG, wGs, dSeq, dAsg, dPar, dIf, dDrop, dSlot, dC, CD.d, dBin, boR, coR, dSub, dMod, dFdiv, dTest, dChain, bQ, dNext, dRet, dRetN, dFzK, dFrzK, dDisp, dPairs, DL.wDs, dgName, dgSub, dgTup, dgCons, dgNil, dLst, dTup, dTupX, dAug, dItX, dLz, dDz, dgTup2, dLenS, dSrI, diZip, diZipR, dCons, dNil, dIfE, dAndT, dOrT, dNotT, dAnd, dOr, dNot, dTruth, dTru_non, dTru_bl, dTru_int, dTru_str, dTru_tup, dTru_rl, dNeg, dSlice, dNoPart, dPart, dCall, dMt, dFnN, dMth, dFld, dSfl, dFz, dLcF, dNew, dNewD, dNewDT, dNewK, dLenK, dSrtS, dLkE, dLkS, dLsR, dTpR, dEqO, dLnO, bolQ, rIsiO, dSliS, dSlS, dRevX, dgHead, dFrz, dForget, isTy, isIns, BF.rd, BT.rd, BM.rd, BM.ty, BF.rt, BT.rt, IEs.len, startD, getS, setS, wipeS, endB, tb, List.getD_cons_zero, List.getD_cons_succ, List.map_cons, List.map_nil, List.replicate, List.length_cons, List.length_nil, List.cons_append, List.nil_append, List.append_nil, dI_int, dAdd_int, dAdd_str, dAdd_tup, dIB_int, dLt_int, dLt_str, dEq_int, dEq_str, dNe_int, dNe_str, lenD_tup, lenD_rl, lenD_str, dMulA_int, dSl_str, ixN3_0, ixN3_1, ixN3_2, List.set_cons_zero, List.set_cons_succ, rAbs_int, rMin_int, rMax_int, rMin_str, rMax_str, dIx_wr, lenD_wr, atI_0, atI_1, atI_2, dIx_tup, dIx_rl, dIx_str, Option.some.injEq, exists_eq_left', decide_true, decide_false, eq_self, ite_true, ite_false, if_true, if_false, true_and, and_true, Bool.false_eq_true, Bool.not_true, Bool.not_false, Nat.reduceAdd, Nat.reduceSub, tTuple, tTupleX, dIs_non, dIs_bl, DL.isNon, dIn_str1, isi_str, isi_tup, isi_tx, isi_int, isi_rl, isi_bl, isi_non])
def Gr.Reads (g : Gr) (ps r : List Str) : Prop := ∀ rest st (f : Str), g.go (r ++ rest) (ps.map some ++ st) (some f) = g.go rest st (some f)
end PR

namespace K10
open PySem PySem.Spec PyProof.Rows L2 DL
def ir__law_take : ISs :=
  (.cons (.iff (.cmp .Gt (.ix (.sl 0) (.lit (.int 0))) (.lit (.int 0))) (.cons (.asg (.nm 4) (.bin .Mod (.ix (.sl 0) (.lit (.int 0))) (.sl 1)))
  (.cons (.sto (.sl 0) (.lit (.int 0)) (.bin .FloorDiv (.ix (.sl 0) (.lit (.int 0))) (.sl 1)))
  (.cons (.ret (.sl 4))
  .nil))) .nil)
  (.cons (.sto (.sl 0) (.lit (.int 2)) (.bin .Add (.ix (.sl 0) (.lit (.int 2))) (.lit (.int 1))))
  (.cons (.asg (.nm 2) (.ix (.fz (.lst (.cons (.lit (.int 2305843009213693951)) (.cons (.lit (.int 2305843009213693921)) (.cons (.lit (.int 2305843009213693907)) .nil))))) (.bin .Mod (.ix (.sl 0) (.lit (.int 2))) (.lit (.int 3)))))
  (.cons (.asg (.nm 3) (.bin .Mod (.bin .Pow (.bin .Add (.ix (.sl 0) (.lit (.int 1))) (.bin .Mult (.lit (.int 7919)) (.ix (.sl 0) (.lit (.int 2))))) (.lit (.int 5))) (.sl 2)))
  (.cons (.ret (.bin .Mod (.bin .Add (.bin .FloorDiv (.sl 3) (.lit (.int 4099))) (.bin .Mult (.bin .FloorDiv (.sl 3) (.lit (.int 1000003))) (.lit (.int 7)))) (.sl 1)))
  .nil)))))
-- slots: 0 _law_hand_here 1 _law_many 2 _law_prime 3 _law_drawn 4 _law_digit
-- calls: [] ; methods: [] ; fields: [] ; constants: []
def ir__law_of : ISs :=
  (.cons (.ret (.ix (.sl 1) (.cal 0 (.cons (.sl 0) (.cons (.cb .len (.sl 1) .nil) .nil)) .nil)))
  .nil)
-- slots: 0 _law_hand_here 1 _law_some
-- calls: [('_law_take', 2, ())] ; methods: [] ; fields: [] ; constants: []
def lp_law_0 : IS :=
  .fo (.nm 7) (.any (.sl 4)) (.cons (.par 10 11 (.cal 3 (.cons (.sl 7) (.cons (.sl 9) .nil)) .nil) (.cal 2 (.cons (.sl 7) (.cons (.sl 9) .nil)) .nil))
  (.cons (.iff (.orE (.cmp .NotEq (.cb .repr (.sl 11) .nil) (.cb .repr (.sl 10) .nil)) (.one (.cmp .NotEq (.cb .repr (.cal 2 (.cons (.sl 7) (.cons (.revX (.sl 9) .no .no (.yes (.neg (.lit (.int 1))))) .nil)) .nil) .nil) (.cb .repr (.sl 10) .nil)))) (.cons (.ret (.lit (.bl false)))
  .nil) .nil)
  (.cons (.iff (.orE (.cmp .NotEq (.cb .repr (.cal 2 (.cons (.sl 7) (.cons (.tupX .nil) .nil)) .nil) .nil) (.cb .repr (.sl 7) .nil)) (.one (.cmp .NotEq (.cal 1 (.cons (.sl 8) (.cons (.sl 11) .nil)) .nil) (.cal 1 (.cons (.sl 8) (.cons (.sl 7) .nil)) .nil)))) (.cons (.ret (.lit (.bl false)))
  .nil) .nil)
  (.cons (.iff (.cmp .NotEq (.cb .repr (.cal 0 .nil (.cons (.sl 9) (.cons (.sl 7) .nil))) .nil) (.cb .repr (.sl 10) .nil)) (.cons (.ret (.lit (.bl false)))
  .nil) .nil)
  .nil))))
def lp_law_1 : IS :=
  .fo (.nm 5) (.any (.ix (.sl 3) (.lit (.int 0)))) (.cons (.asg (.nm 4) (.fz (.bin .Add (.sl 4) (.lcF (.lc [("_law_turn", 13)] (.nm 13) (.rg1 (.lit (.int 3))) .no (.cal 4 (.cons (.sl 2) (.cons (.sl 3) (.cons (.sl 5) (.cons (.lit (.int 20)) .nil)))) .nil))))))
  .nil)
def lp_law_2 : IS :=
  .fo (.nm 1) (.rg1 (.cb .max (.lit (.int 1)) (.cons (.cb .min (.lit (.int 3)) (.cons (.cb .len (.sl 0) .nil) .nil)) .nil))) (.cons (.asg (.nm 2) (.cal 8 (.cons (.sl 0) (.cons (.sl 1) .nil)) .nil))
  (.cons (.asg (.nm 3) (.cal 7 (.cons (.sl 2) .nil) .nil))
  (.cons (.par 8 9 (.cal 5 (.cons (.sl 3) .nil) .nil) (.cal 6 (.cons (.sl 2) (.cons (.sl 3) (.cons (.lit (.int 9)) .nil))) .nil))
  (.cons (.asg (.nm 4) (.lcF (.lc [("_law_name", 12), ("_law_kind", 5)] (.tp (.cons (.nm 12) (.cons (.nm 5) .nil))) (.any (.ix (.sl 3) (.lit (.int 2)))) .no (.tup (.cons (.sl 12) .nil)))))
  (.cons lp_law_1
  (.cons (.asg (.nm 6) (.cb .repr (.tup (.cons (.sl 4) (.cons (.sl 9) .nil))) .nil))
  (.cons lp_law_0
  (.cons (.iff (.cmp .NotEq (.cb .repr (.tup (.cons (.sl 4) (.cons (.sl 9) .nil))) .nil) (.sl 6)) (.cons (.ret (.lit (.bl false)))
  .nil) .nil)
  .nil))))))))
def ir_law : ISs :=
  (.cons lp_law_2
  (.cons (.ret (.lit (.bl true)))
  .nil))
-- slots: 0 _law_script 1 _law_k 2 _law_hand_here 3 _law_ground_here 4 _law_rows 5 _law_kind 6 _law_kept 7 _law_row 8 _law_base 9 _law_pairs 10 _law_due 11 _law_told 12 _law_name 13 _law_turn
-- calls: [('put_in', 0, ('puts', 'body')), ('kind_of', 2, ()), ('put_in', 2, ()), ('_law_put', 2, ()), ('_law_body', 4, ()), ('_law_theory', 1, ()), ('_law_puts', 3, ()), ('_law_ground', 1, ()), ('_law_hand', 2, ())] ; methods: [] ; fields: [] ; constants: []
end K10


namespace K10
open PySem PySem.Spec PyProof.Rows L2 DL
local macro_rules | `(tactic| walk_at "dl") => `(tactic| simp only [wSs, wS, DL.wE, DL.wT, DL.wL, wEs, wO, wC, wI, wG, wGs, dSeq, dAsg, dPar, dIf, dDrop, dSlot, dC, CD.d, dBin, boR, coR, dSub, dMod, dFdiv, dTest, dChain, bQ, dNext, dRet, dRetN, dFzK, dFrzK, dDisp, dPairs, DL.wDs, dgName, dgSub, dgTup, dgCons, dgNil, dLst, dTup, dTupX, dAug, dItX, dLz, dDz, dgTup2, dLenS, dSrI, diZip, diZipR, dCons, dNil, dIfE, dAndT, dOrT, dNotT, dAnd, dOr, dNot, dTruth, dTru_non, dTru_bl, dTru_int, dTru_str, dTru_tup, dTru_rl, dNeg, dSlice, dNoPart, dPart, dCall, dMt, dFnN, dMth, dFld, dSfl, dFz, dLcF, dNew, dNewD, dNewDT, dNewK, dLenK, dSrtS, dLkE, dLkS, dLsR, dTpR, dEqO, dLnO, bolQ, rIsiO, dSliS, dSlS, dRevX, dgHead, dFrz, dForget, isTy, isIns, BF.rd, BT.rd, BM.rd, BM.ty, BF.rt, BT.rt, IEs.len, startD, getS, setS, wipeS, endB, tb, List.getD_cons_zero, List.getD_cons_succ, List.map_cons, List.map_nil, List.replicate, List.length_cons, List.length_nil, List.cons_append, List.nil_append, List.append_nil, dI_int, dAdd_int, dAdd_str, dAdd_tup, dIB_int, dLt_int, dLt_str, dEq_int, dEq_str, dNe_int, dNe_str, lenD_tup, lenD_rl, lenD_str, dMulA_int, dSl_str, ixN3_0, ixN3_1, ixN3_2, List.set_cons_zero, List.set_cons_succ, rAbs_int, rMin_int, rMax_int, rMin_str, rMax_str, dIx_wr, lenD_wr, atI_0, atI_1, atI_2, dIx_tup, dIx_rl, dIx_str, Option.some.injEq, exists_eq_left', decide_true, decide_false, eq_self, ite_true, ite_false, if_true, if_false, true_and, and_true, Bool.false_eq_true, Bool.not_true, Bool.not_false, Nat.reduceAdd, Nat.reduceSub, tTuple, tTupleX, dIs_non, dIs_bl, DL.isNon, dIn_str1, isi_str, isi_tup, isi_tx, isi_int, isi_rl, isi_bl, isi_non])
def Hob (o : MO) (n : Int) : Prop := ∃ a b c : Int, o = .lst [.int a, .int b, .int c] ∧ 0 ≤ a ∧ 0 ≤ b ∧ b < 2305843009213693951 ∧ 0 ≤ c ∧ c ≤ n
theorem Hob.le {o : MO} {n m : Int} (h : Hob o n) (l : n ≤ m) : Hob o m := by
  obtain ⟨a, b, c, e, h1, h2, h3, h4, h5⟩ := h
  exact ⟨a, b, c, e, h1, h2, h3, h4, by omega⟩
theorem pow5 {i : Int} (h0 : 0 ≤ i) (h1 : i < 2 ^ 63) : CPowG i 5 := by
  refine ⟨by decide, ?_⟩
  have : i.natAbs < 2 ^ 63 := by omega
  have l : i.natAbs.log2 < 63 ∨ i.natAbs = 0 := by
    by_cases z : i.natAbs = 0
    · exact .inr z
    · exact .inl ((Nat.log2_lt z).mpr this)
  rcases l with l | l
  · have : ((i.natAbs.log2 + 1 : Nat) : Int) ≤ 63 := by omega
    omega
  · rw [l]; decide
def spTake : DSp := fun ds M Q E => ∃ (h : Addr) (o : MO) (n m : Int), ds = [.ref h, .int m] ∧ 0 < m ∧ m < 2 ^ 40 ∧ M h = some o ∧ Hob o n ∧ n < 2 ^ 40 ∧ ∀ (r : Int) o', 0 ≤ r → r < m → Hob o' (n + 1) → Q (.int r) (wr M h o')
theorem law_take (S : Tb) (ds : List D) (M : Mem) (Q : QE) (E : EX) (H : spTake ds M Q E) : wSs S ir__law_take (endB Q) E (startD 5 ds) M := by
  obtain ⟨h, o, n, m, rfl, hm, hm2, hM, ⟨a, b, c, rfl, ha, hb, hb2, hc, hc2⟩, hn, q⟩ := H
  unfold ir__law_take
  walk_at "dl"
  simp only [dIx_ref hM, atI_0, Option.some.injEq, exists_eq_left', dI_int]
  by_cases h0 : 0 < a
  · repeat first | walk_at "dl" | simp only [dIx_ref hM, dSet_ref hM, h0]
    refine ⟨hm, ⟨hm, by omega⟩, _, Sub.refl, q _ _ (Int.emod_nonneg _ (by omega)) (Int.emod_lt_of_pos _ hm) ⟨_, b, c, rfl, Int.ediv_nonneg ha (by omega), hb, hb2, hc, by omega⟩⟩
  · repeat first | walk_at "dl" | simp only [dIx_ref hM, dSet_ref hM, h0]
    refine ⟨by decide, fun p hp => ⟨_, wr_same, ?_⟩⟩
    rw [mdel_wr hp]
    repeat first | walk_at "dl" | simp only [dIx_wr, atI_0, atI_1, atI_2, dI_int]
    have c3 : (c + 1) % 3 = 0 ∨ (c + 1) % 3 = 1 ∨ (c + 1) % 3 = 2 := by omega
    obtain ⟨P, hP, p0, p1⟩ : ∃ P : Int, L2.atI [D.int 2305843009213693951, D.int 2305843009213693921, D.int 2305843009213693907] ((c + 1) % 3) = some (.int P) ∧ 2305843009213693907 ≤ P ∧ P ≤ 2305843009213693951 := by
      rcases c3 with e | e | e <;> rw [e]
      · exact ⟨_, rfl, by omega, by omega⟩
      · exact ⟨_, rfl, by omega, by omega⟩
      · exact ⟨_, rfl, by omega, by omega⟩
    refine ⟨by omega, _, hP, ?_⟩
    repeat first | walk_at "dl" | simp only [dIx_wr, atI_0, atI_1, atI_2, dI_int]
    have d0 : 0 ≤ (b + 7919 * (c + 1)) ^ Int.toNat 5 % P := Int.emod_nonneg _ (by omega)
    have d1 : (b + 7919 * (c + 1)) ^ Int.toNat 5 % P < P := Int.emod_lt_of_pos _ (by omega)
    have pw : CPowG (b + 7919 * (c + 1)) 5 := pow5 (by omega) (by omega)
    generalize (b + 7919 * (c + 1)) ^ Int.toNat 5 % P = d at d0 d1 ⊢
    refine ⟨cm_left (by omega), pw, by omega, ⟨by omega, by omega⟩, ⟨by omega, by omega⟩, cm_right (by omega), hm, _, Sub.refl, ?_⟩
    exact q _ _ (Int.emod_nonneg _ (by omega)) (Int.emod_lt_of_pos _ hm) ⟨a, b, c + 1, rfl, ha, hb, hb2, by omega, by omega⟩
def seqIn (d : D) (xs : List D) : Prop := d = .rl xs ∨ ∃ z : Str, d = .str z ∧ xs = DL.signs z
def spOf : DSp := fun ds M Q E => ∃ (h : Addr) (o : MO) (n : Int) (s : D) (xs : List D), ds = [.ref h, s] ∧ seqIn s xs ∧ xs ≠ [] ∧ xs.length ≤ 100000 ∧ M h = some o ∧ Hob o n ∧ n < 2 ^ 40 ∧ ∀ d ∈ xs, ∀ o', Hob o' (n + 1) → Q d (wr M h o')
theorem law_of (ds : List D) (M : Mem) (Q : QE) (E : EX) (H : spOf ds M Q E) : wSs (tb [spTake] [] []) ir__law_of (endB Q) E (startD 2 ds) M := by
  obtain ⟨h, o, n, s, xs, rfl, hs, hne, hl, hM, ho, hn, q⟩ := H
  have s24 : sizeLine = 2 ^ 24 := rfl
  have hp : 0 < xs.length := List.length_pos_iff.mpr hne
  unfold ir__law_of
  rcases hs with rfl | ⟨z, rfl, rfl⟩
  · walk_at "dl"
    refine ⟨h, o, n, _, rfl, by omega, by omega, hM, ho, hn, fun r o' h0 h1 ho' => ?_⟩
    obtain ⟨j, rfl⟩ : ∃ j : Nat, r = (j : Int) := ⟨r.toNat, by omega⟩
    have hj : j < xs.length := by omega
    walk_at "dl"
    exact ⟨_, atI_nat hj, _, Sub.refl, q _ (List.getElem_mem hj) _ ho'⟩
  · rw [signs_len] at hp hl
    walk_at "dl"
    refine ⟨by omega, h, o, n, _, rfl, by omega, by omega, hM, ho, hn, fun r o' h0 h1 ho' => ?_⟩
    obtain ⟨j, rfl⟩ : ∃ j : Nat, r = (j : Int) := ⟨r.toNat, by omega⟩
    have hj : j < z.cps.toList.length := by
      have : z.length = z.cps.toList.length := rfl
      omega
    walk_at "dl"
    refine ⟨by omega, _, atI_nat hj, _, Sub.refl, q _ ?_ _ ho'⟩
    unfold DL.signs
    exact List.mem_map_of_mem (List.getElem_mem hj)
end K10


namespace KM
open PySem PySem.Spec PyProof.Rows L2 DL
local macro_rules | `(tactic| walk_at "dl") => `(tactic| simp only [wSs, wS, DL.wE, DL.wT, DL.wL, wEs, wO, wC, wI, wG, wGs, dSeq, dAsg, dPar, dIf, dDrop, dSlot, dC, CD.d, dBin, boR, coR, dSub, dMod, dFdiv, dTest, dChain, bQ, dNext, dRet, dRetN, dFzK, dFrzK, dDisp, dPairs, DL.wDs, dgName, dgSub, dgTup, dgCons, dgNil, dLst, dTup, dTupX, dAug, dItX, dLz, dDz, dgTup2, dLenS, dSrI, diZip, diZipR, dCons, dNil, dIfE, dAndT, dOrT, dNotT, dAnd, dOr, dNot, dTruth, dTru_non, dTru_bl, dTru_int, dTru_str, dTru_tup, dTru_rl, dNeg, dSlice, dNoPart, dPart, dCall, dMt, dFnN, dMth, dFld, dSfl, dFz, dLcF, dNew, dNewD, dNewDT, dNewK, dLenK, dSrtS, dLkE, dLkS, dLsR, dTpR, dEqO, dLnO, bolQ, rIsiO, dSliS, dSlS, dRevX, dgHead, dFrz, dForget, isTy, isIns, BF.rd, BT.rd, BM.rd, BM.ty, BF.rt, BT.rt, IEs.len, startD, getS, setS, wipeS, endB, tb, List.getD_cons_zero, List.getD_cons_succ, List.map_cons, List.map_nil, List.replicate, List.length_cons, List.length_nil, List.cons_append, List.nil_append, List.append_nil, dI_int, dAdd_int, dAdd_str, dAdd_tup, dIB_int, dLt_int, dLt_str, dEq_int, dEq_str, dNe_int, dNe_str, lenD_tup, lenD_rl, lenD_str, dMulA_int, dSl_str, ixN3_0, ixN3_1, ixN3_2, List.set_cons_zero, List.set_cons_succ, rAbs_int, rMin_int, rMax_int, rMin_str, rMax_str, dIx_wr, lenD_wr, atI_0, atI_1, atI_2, dIx_tup, dIx_rl, dIx_str, Option.some.injEq, exists_eq_left', decide_true, decide_false, eq_self, ite_true, ite_false, if_true, if_false, true_and, and_true, Bool.false_eq_true, Bool.not_true, Bool.not_false, Nat.reduceAdd, Nat.reduceSub, tTuple, tTupleX, dIs_non, dIs_bl, DL.isNon, dIn_str1, isi_str, isi_tup, isi_tx, isi_int, isi_rl, isi_bl, isi_non])
open PR K10
structure Pot (M : Mem) (h c : Addr) (n : Int) : Prop where
  ex : ∃ (cs : List Int) (b k : Int), M h = some (.lst [.ref c, .int b, .int k]) ∧ M c = some (.lst (cs.map D.int)) ∧ (∀ x ∈ cs, 0 ≤ x) ∧ cs.length ≤ 63 ∧ 0 ≤ b ∧ b < 2305843009213693951 ∧ 0 ≤ k ∧ k ≤ n
def PotF (h c : Addr) (M M' : Mem) : Prop := ∀ a, a ≠ h → a ≠ c → M' a = M a
theorem PotF.refl {h c : Addr} {M : Mem} : PotF h c M M := fun _ _ _ => rfl
theorem PotF.trans {h c : Addr} {M M1 M2 : Mem} (a : PotF h c M M1) (b : PotF h c M1 M2) : PotF h c M M2 := fun x h1 h2 => (b x h1 h2).trans (a x h1 h2)
theorem PotF.wr1 {h c : Addr} {M : Mem} {o : MO} : PotF h c M (wr M h o) := fun _ h1 _ => wr_ne h1
theorem PotF.wr2 {h c : Addr} {M : Mem} {o : MO} : PotF h c M (wr M c o) := fun _ _ h2 => wr_ne h2
theorem Pot.le {M : Mem} {h c : Addr} {n m : Int} (p : Pot M h c n) (l : n ≤ m) : Pot M h c m := by
  obtain ⟨cs, b, k, h1, h2, h3, h4, h5, h6, h7, h8⟩ := p
  exact ⟨cs, b, k, h1, h2, h3, h4, h5, h6, h7, by omega⟩
theorem Pot.of {M M' : Mem} {h c : Addr} {n : Int} (p : Pot M h c n) (e1 : M' h = M h) (e2 : M' c = M c) : Pot M' h c n := by
  obtain ⟨cs, b, k, h1, h2, r⟩ := p
  exact ⟨cs, b, k, e1.trans h1, e2.trans h2, r⟩
theorem Pot.new {M : Mem} {h c p : Addr} {n : Int} {o : MO} (q : Pot M h c n) (hp : M p = none) : Pot (wr M p o) h c n := by
  obtain ⟨cs, b, k, h1, h2, r⟩ := q
  have n1 : h ≠ p := fun z => by subst z; rw [hp] at h1; cases h1
  have n2 : c ≠ p := fun z => by subst z; rw [hp] at h2; cases h2
  exact ⟨cs, b, k, by rw [wr_ne n1]; exact h1, by rw [wr_ne n2]; exact h2, r⟩
theorem Pot.off {M : Mem} {h c a : Addr} {n : Int} {o : MO} (q : Pot M h c n) (e : M a = some o) (no : ∀ xs, o ≠ .lst xs) : a ≠ h ∧ a ≠ c := by
  obtain ⟨cs, b, k, h1, h2, r⟩ := q
  exact ⟨fun z => by subst z; rw [h1] at e; exact no _ (Option.some.inj e).symm, fun z => by subst z; rw [h2] at e; exact no _ (Option.some.inj e).symm⟩
theorem dNe_lst0 {M : Mem} {p : Addr} {xs : List D} {Q : QE} (h1 : M p = some (.lst xs)) (g : goodL xs 60 = true) (hq : Q (.bl (!xs.isEmpty)) M) : dNe (.ref p) (.rl []) M Q :=
  dEq_lst0 (Q := fun d M' => Q (.bl (match d with | .bl b => !b | _ => false)) M') h1 g hq
theorem good_intL (cs : List Int) : goodL (cs.map D.int) 60 = true := goodL_all.mpr fun x hx => by obtain ⟨i, _, rfl⟩ := List.mem_map.mp hx; rfl
def spTake : DSp := fun ds M Q E => ∃ (h c : Addr) (n m : Int), ds = [.ref h, .int m] ∧ 0 < m ∧ m < 2 ^ 40 ∧ Pot M h c n ∧ n < 2 ^ 40 ∧ ∀ (r : Int) M', 0 ≤ r → r < m → Pot M' h c (n + 1) → PotF h c M M' → Q (.int r) M'
def tkR : ISs := (.cons (.asg (.nm 2) (.bin .Add (.ix (.sl 0) (.lit (.int 2))) (.lit (.int 1))))
  (.cons (.sto (.sl 0) (.lit (.int 2)) (.sl 2))
  (.cons (.asg (.nm 3) (.bin .Mult (.bin .Add (.bin .Add (.ix (.sl 0) (.lit (.int 1))) (.bin .Mult (.bin .Mult (.lit (.int 65537)) (.sl 2)) (.sl 2))) (.bin .Mult (.lit (.int 15485863)) (.sl 2))) (.lit (.int 48271))))
  (.cons (.asg (.nm 3) (.bin .Mod (.sl 3) (.lit (.int 2305843009213693921))))
  (.cons (.asg (.nm 3) (.bin .Mult (.sl 3) (.bin .Add (.bin .Add (.bin .Mod (.sl 3) (.lit (.int 1000003))) (.bin .Mult (.lit (.int 99991)) (.sl 2))) (.lit (.int 7)))))
  (.cons (.asg (.nm 3) (.bin .Mod (.sl 3) (.lit (.int 2305843009213693907))))
  (.cons (.ret (.bin .Mod (.bin .Add (.bin .FloorDiv (.sl 3) (.lit (.int 97))) (.bin .FloorDiv (.sl 3) (.lit (.int 1000033)))) (.sl 1)))
  .nil)))))))
section
variable {T : Tb} {Q : QE} {E : EX} {M : Mem} {h c : Addr} {n m : Int}
theorem tk_rest {b k : Int} {cs : List Int} (hm : 0 < m) (hn : n < 2 ^ 40) (h1 : M h = some (.lst [.ref c, .int b, .int k])) (h2 : M c = some (.lst (cs.map D.int))) (h3 : ∀ x ∈ cs, 0 ≤ x) (h4 : cs.length ≤ 63) (b0 : 0 ≤ b) (b1 : b < 2305843009213693951) (k0 : 0 ≤ k) (k1 : k ≤ n)
    (q : ∀ (r : Int) M', 0 ≤ r → r < m → Pot M' h c (n + 1) → PotF h c M M' → Q (.int r) M') {x2 x3 x4 : Option D} : wSs T tkR (endB Q) E [some (.ref h), some (.int m), x2, x3, x4] M := by
  have nhc : c ≠ h := fun z => by
    subst z
    rw [h1] at h2
    have := (MO.lst.inj (Option.some.inj h2))
    cases cs with
    | nil => cases this
    | cons x r => cases this
  unfold tkR
  walk_at "dl"
  rw [dIx_ref h1]
  repeat first | walk_at "dl" | simp only [dIx_ref h1, dSet_ref h1, atI_0, atI_1, atI_2, Option.some.injEq, exists_eq_left', dI_int, dIx_wr]
  have e0 : 0 ≤ (b + 65537 * (k + 1) * (k + 1) + 15485863 * (k + 1)) * 48271 % 2305843009213693921 := Int.emod_nonneg _ (by omega)
  have e1 : (b + 65537 * (k + 1) * (k + 1) + 15485863 * (k + 1)) * 48271 % 2305843009213693921 < 2305843009213693921 := Int.emod_lt_of_pos _ (by omega)
  generalize (b + 65537 * (k + 1) * (k + 1) + 15485863 * (k + 1)) * 48271 % 2305843009213693921 = d at e0 e1 ⊢
  have f0 : 0 ≤ d * (d % 1000003 + 99991 * (k + 1) + 7) % 2305843009213693907 := Int.emod_nonneg _ (by omega)
  have f1 : d * (d % 1000003 + 99991 * (k + 1) + 7) % 2305843009213693907 < 2305843009213693907 := Int.emod_lt_of_pos _ (by omega)
  generalize d * (d % 1000003 + 99991 * (k + 1) + 7) % 2305843009213693907 = d2 at f0 f1 ⊢
  generalize d2 / 97 + d2 / 1000033 = d3
  refine ⟨cm_left (by omega), cm_right (by omega), cm_right (by omega), cm_right (by omega), by omega, by omega, cm_right (by omega), cm_left (by omega), by omega, ⟨by omega, by omega⟩, ⟨by omega, by omega⟩, hm, _, Sub.refl, q _ _ (Int.emod_nonneg _ (by omega)) (Int.emod_lt_of_pos _ hm) ⟨cs, b, k + 1, wr_same, by rw [wr_ne nhc]; exact h2, h3, h4, b0, b1, by omega, by omega⟩ .wr1⟩
theorem pot_ne {b k : Int} {cs : List Int} (h1 : M h = some (.lst [.ref c, .int b, .int k])) (h2 : M c = some (.lst (cs.map D.int))) : c ≠ h := fun z => by
  subst z
  rw [h1] at h2
  have := (MO.lst.inj (Option.some.inj h2))
  cases cs with
  | nil => cases this
  | cons x r => cases this
theorem law_take (T : Tb) (ds : List D) (M : Mem) (Q : QE) (E : EX) (H : spTake ds M Q E) : wSs T ir__law_take (endB Q) E (startD 5 ds) M := by
  obtain ⟨h, c, n, m, rfl, hm, hm2, ⟨cs, b, k, h1, h2, h3, h4, b0, b1, k0, k1⟩, hn, q⟩ := H
  have rest := fun M' cs' h1' h2' h3' h4' (f : PotF h c M M') x2 x3 x4 => tk_rest (T := T) (E := E) (Q := Q) (M := M') (h := h) (c := c) (n := n) (m := m) (b := b) (k := k) (cs := cs') hm hn h1' h2' h3' h4' b0 b1 k0 k1 (fun r M2 a1 a2 a3 a4 => q r M2 a1 a2 a3 (f.trans a4)) (x2 := x2) (x3 := x3) (x4 := x4)
  have est : startD 5 [.ref h, .int m] = [some (.ref h), some (.int m), none, none, none] := rfl
  rw [est]
  clear est
  unfold ir__law_take lp__law_take_0
  show dSeq _ (dSeq _ (wSs T tkR)) _ _ _ _
  generalize wSs T tkR = K at rest ⊢
  walk_at "dl"
  refine ⟨fun j e' M' => e' = [some (.ref h), some (.int m), none, none, none] ∧ PotF h c M M' ∧ ∃ cs' : List Int, j = cs'.length ∧ M' h = some (.lst [.ref c, .int b, .int k]) ∧ M' c = some (.lst (cs'.map D.int)) ∧ (∀ x ∈ cs', 0 ≤ x) ∧ cs'.length ≤ 63, ⟨_, rfl, .refl, cs, rfl, h1, h2, h3, h4⟩, ?_⟩
  rintro j e' M' ⟨rfl, f, cs', rfl, g1, g2, g3, g4⟩
  have nhc := pot_ne g1 g2
  walk_at "dl"
  simp only [dIx_ref g1, atI_0, Option.some.injEq, exists_eq_left']
  refine ⟨by omega, fun p hp => ⟨_, wr_same, ?_⟩⟩
  rw [mdel_wr hp]
  refine dNe_lst0 g2 (good_intL cs') ?_
  cases cs' with
  | nil =>
    show bQ _ (.bl false) M'
    walk_at "dl"
    simp only [dIx_ref g1, atI_0, Option.some.injEq, exists_eq_left']
    refine ⟨by omega, fun p hp => ⟨_, wr_same, ?_⟩⟩
    rw [mdel_wr hp]
    refine dNe_lst0 g2 rfl ?_
    show bQ _ (.bl false) M'
    walk_at "dl"
    exact rest M' [] g1 g2 g3 g4 f _ _ _
  | cons x r =>
    show bQ _ (.bl true) M'
    walk_at "dl"
    simp only [dIx_ref g1, dIx_ref g2, atI_0, List.map_cons, Option.some.injEq, exists_eq_left', dEq_int]
    by_cases hx : x = 0
    · subst hx
      rw [decide_eq_true rfl]
      walk_at "dl"
      simp only [dIx_ref g1, atI_0, Option.some.injEq, exists_eq_left']
      refine ⟨.inl ⟨_, g2⟩, ?_⟩
      refine ⟨_, 0, _, g2, by omega, by omega, by unfold seqIndex?; simp, rfl, ?_⟩
      have e0 : ((0 :: r).map D.int).eraseIdx 0 = r.map D.int := rfl
      rw [e0]
      exact ⟨r.length, Nat.lt_succ_self _, f.trans .wr2, r, rfl, by rw [wr_ne nhc.symm]; exact g1, wr_same, fun y hy => g3 y (by simp [hy]), by rw [List.length_cons] at g4; omega⟩
    · rw [decide_eq_false hx]
      walk_at "dl"
      simp only [dIx_ref g1, atI_0, Option.some.injEq, exists_eq_left']
      refine ⟨by omega, fun p hp => ⟨_, wr_same, ?_⟩⟩
      rw [mdel_wr hp]
      refine dNe_lst0 g2 (good_intL (x :: r)) ?_
      show bQ _ (.bl true) M'
      walk_at "dl"
      simp only [dIx_ref g1, dIx_ref g2, dSet_ref g2, atI_0, List.map_cons, Option.some.injEq, exists_eq_left', dI_int]
      have x0 := g3 x (by simp)
      refine ⟨hm, ⟨hm, by omega⟩, 0, by unfold ixN; simp, _, Sub.refl, ?_⟩
      have e1 : (D.int x :: r.map D.int).set 0 (.int (x / m)) = ((x / m) :: r).map D.int := rfl
      rw [e1]
      refine q _ _ (Int.emod_nonneg _ (by omega)) (Int.emod_lt_of_pos _ hm) ⟨(x / m) :: r, b, k, by rw [wr_ne nhc.symm]; exact g1, wr_same, fun y hy => ?_, g4, b0, b1, k0, by omega⟩ (f.trans .wr2)
      rcases List.mem_cons.mp hy with rfl | hy
      · exact Int.ediv_nonneg x0 (by omega)
      · exact g3 y (by simp [hy])
end
end KM


namespace PR
open PySem PySem.Spec PyProof.Rows L2 DL
local macro_rules | `(tactic| walk_at "dl") => `(tactic| simp only [wSs, wS, DL.wE, DL.wT, DL.wL, wEs, wO, wC, wI, wG, wGs, dSeq, dAsg, dPar, dIf, dDrop, dSlot, dC, CD.d, dBin, boR, coR, dSub, dMod, dFdiv, dTest, dChain, bQ, dNext, dRet, dRetN, dFzK, dFrzK, dDisp, dPairs, DL.wDs, dgName, dgSub, dgTup, dgCons, dgNil, dLst, dTup, dTupX, dAug, dItX, dLz, dDz, dgTup2, dLenS, dSrI, diZip, diZipR, dCons, dNil, dIfE, dAndT, dOrT, dNotT, dAnd, dOr, dNot, dTruth, dTru_non, dTru_bl, dTru_int, dTru_str, dTru_tup, dTru_rl, dNeg, dSlice, dNoPart, dPart, dCall, dMt, dFnN, dMth, dFld, dSfl, dFz, dLcF, dNew, dNewD, dNewDT, dNewK, dLenK, dSrtS, dLkE, dLkS, dLsR, dTpR, dEqO, dLnO, bolQ, rIsiO, dSliS, dSlS, dRevX, dgHead, dFrz, dForget, isTy, isIns, BF.rd, BT.rd, BM.rd, BM.ty, BF.rt, BT.rt, IEs.len, startD, getS, setS, wipeS, endB, tb, List.getD_cons_zero, List.getD_cons_succ, List.map_cons, List.map_nil, List.replicate, List.length_cons, List.length_nil, List.cons_append, List.nil_append, List.append_nil, dI_int, dAdd_int, dAdd_str, dAdd_tup, dIB_int, dLt_int, dLt_str, dEq_int, dEq_str, dNe_int, dNe_str, lenD_tup, lenD_rl, lenD_str, dMulA_int, dSl_str, ixN3_0, ixN3_1, ixN3_2, List.set_cons_zero, List.set_cons_succ, rAbs_int, rMin_int, rMax_int, rMin_str, rMax_str, dIx_wr, lenD_wr, atI_0, atI_1, atI_2, dIx_tup, dIx_rl, dIx_str, Option.some.injEq, exists_eq_left', decide_true, decide_false, eq_self, ite_true, ite_false, if_true, if_false, true_and, and_true, Bool.false_eq_true, Bool.not_true, Bool.not_false, Nat.reduceAdd, Nat.reduceSub, tTuple, tTupleX, dIs_non, dIs_bl, DL.isNon, dIn_str1, isi_str, isi_tup, isi_tx, isi_int, isi_rl, isi_bl, isi_non])
theorem textFrom_le : ∀ (ts : List Str) (k : Nat) (acc : Str), (textFrom k acc ts).length ≤ acc.length + piled ts
  | [], k, acc => Nat.le_add_right _ _
  | t :: r, k, acc => by
    have e2 : ((", " : String) : Str).length = 2 := by decide +kernel
    have e0 : (("" : String) : Str).length = 0 := by decide +kernel
    rw [piled_cons]
    unfold textFrom
    refine Nat.le_trans (textFrom_le r _ _) ?_
    split
    · rw [strLen_append, strLen_append, e2]; omega
    · rw [strLen_append, strLen_append, e0]; omega
end PR

namespace PQ
open PySem PySem.Spec PyProof.Rows L2 DL
end PQ


namespace PQ
open PySem PySem.Spec PyProof.Rows L2 DL
local macro_rules | `(tactic| walk_at "dl") => `(tactic| simp only [wSs, wS, DL.wE, DL.wT, DL.wL, wEs, wO, wC, wI, wG, wGs, dSeq, dAsg, dPar, dIf, dDrop, dSlot, dC, CD.d, dBin, boR, coR, dSub, dMod, dFdiv, dTest, dChain, bQ, dNext, dRet, dRetN, dFzK, dFrzK, dDisp, dPairs, DL.wDs, dgName, dgSub, dgTup, dgCons, dgNil, dLst, dTup, dTupX, dAug, dItX, dLz, dDz, dgTup2, dLenS, dSrI, diZip, diZipR, dCons, dNil, dIfE, dAndT, dOrT, dNotT, dAnd, dOr, dNot, dTruth, dTru_non, dTru_bl, dTru_int, dTru_str, dTru_tup, dTru_rl, dNeg, dSlice, dNoPart, dPart, dCall, dMt, dFnN, dMth, dFld, dSfl, dFz, dLcF, dNew, dNewD, dNewDT, dNewK, dLenK, dSrtS, dLkE, dLkS, dLsR, dTpR, dEqO, dLnO, bolQ, rIsiO, dSliS, dSlS, dRevX, dgHead, dFrz, dForget, isTy, isIns, BF.rd, BT.rd, BM.rd, BM.ty, BF.rt, BT.rt, IEs.len, startD, getS, setS, wipeS, endB, tb, List.getD_cons_zero, List.getD_cons_succ, List.map_cons, List.map_nil, List.replicate, List.length_cons, List.length_nil, List.cons_append, List.nil_append, List.append_nil, dI_int, dAdd_int, dAdd_str, dAdd_tup, dIB_int, dLt_int, dLt_str, dEq_int, dEq_str, dNe_int, dNe_str, lenD_tup, lenD_rl, lenD_str, dMulA_int, dSl_str, ixN3_0, ixN3_1, ixN3_2, List.set_cons_zero, List.set_cons_succ, rAbs_int, rMin_int, rMax_int, rMin_str, rMax_str, dIx_wr, lenD_wr, atI_0, atI_1, atI_2, dIx_tup, dIx_rl, dIx_str, Option.some.injEq, exists_eq_left', decide_true, decide_false, eq_self, ite_true, ite_false, if_true, if_false, true_and, and_true, Bool.false_eq_true, Bool.not_true, Bool.not_false, Nat.reduceAdd, Nat.reduceSub, tTuple, tTupleX, dIs_non, dIs_bl, DL.isNon, dIn_str1, isi_str, isi_tup, isi_tx, isi_int, isi_rl, isi_bl, isi_non])
open PR
def dep (g : Gr) : List Str → Int → Int
  | [], d => d
  | w :: r, d => dep g r (d + ((g.mak w).map fun kp => (kp.2.length : Int)).getD 0 - 1)
end PQ


namespace PQ
open PySem PySem.Spec PyProof.Rows L2 DL
local macro_rules | `(tactic| walk_at "dl") => `(tactic| simp only [wSs, wS, DL.wE, DL.wT, DL.wL, wEs, wO, wC, wI, wG, wGs, dSeq, dAsg, dPar, dIf, dDrop, dSlot, dC, CD.d, dBin, boR, coR, dSub, dMod, dFdiv, dTest, dChain, bQ, dNext, dRet, dRetN, dFzK, dFrzK, dDisp, dPairs, DL.wDs, dgName, dgSub, dgTup, dgCons, dgNil, dLst, dTup, dTupX, dAug, dItX, dLz, dDz, dgTup2, dLenS, dSrI, diZip, diZipR, dCons, dNil, dIfE, dAndT, dOrT, dNotT, dAnd, dOr, dNot, dTruth, dTru_non, dTru_bl, dTru_int, dTru_str, dTru_tup, dTru_rl, dNeg, dSlice, dNoPart, dPart, dCall, dMt, dFnN, dMth, dFld, dSfl, dFz, dLcF, dNew, dNewD, dNewDT, dNewK, dLenK, dSrtS, dLkE, dLkS, dLsR, dTpR, dEqO, dLnO, bolQ, rIsiO, dSliS, dSlS, dRevX, dgHead, dFrz, dForget, isTy, isIns, BF.rd, BT.rd, BM.rd, BM.ty, BF.rt, BT.rt, IEs.len, startD, getS, setS, wipeS, endB, tb, List.getD_cons_zero, List.getD_cons_succ, List.map_cons, List.map_nil, List.replicate, List.length_cons, List.length_nil, List.cons_append, List.nil_append, List.append_nil, dI_int, dAdd_int, dAdd_str, dAdd_tup, dIB_int, dLt_int, dLt_str, dEq_int, dEq_str, dNe_int, dNe_str, lenD_tup, lenD_rl, lenD_str, dMulA_int, dSl_str, ixN3_0, ixN3_1, ixN3_2, List.set_cons_zero, List.set_cons_succ, rAbs_int, rMin_int, rMax_int, rMin_str, rMax_str, dIx_wr, lenD_wr, atI_0, atI_1, atI_2, dIx_tup, dIx_rl, dIx_str, Option.some.injEq, exists_eq_left', decide_true, decide_false, eq_self, ite_true, ite_false, if_true, if_false, true_and, and_true, Bool.false_eq_true, Bool.not_true, Bool.not_false, Nat.reduceAdd, Nat.reduceSub, tTuple, tTupleX, dIs_non, dIs_bl, DL.isNon, dIn_str1, isi_str, isi_tup, isi_tx, isi_int, isi_rl, isi_bl, isi_non])
open PR
end PQ


namespace PR
open PySem PySem.Spec PyProof.Rows L2 DL
local macro_rules | `(tactic| walk_at "dl") => `(tactic| simp only [wSs, wS, DL.wE, DL.wT, DL.wL, wEs, wO, wC, wI, wG, wGs, dSeq, dAsg, dPar, dIf, dDrop, dSlot, dC, CD.d, dBin, boR, coR, dSub, dMod, dFdiv, dTest, dChain, bQ, dNext, dRet, dRetN, dFzK, dFrzK, dDisp, dPairs, DL.wDs, dgName, dgSub, dgTup, dgCons, dgNil, dLst, dTup, dTupX, dAug, dItX, dLz, dDz, dgTup2, dLenS, dSrI, diZip, diZipR, dCons, dNil, dIfE, dAndT, dOrT, dNotT, dAnd, dOr, dNot, dTruth, dTru_non, dTru_bl, dTru_int, dTru_str, dTru_tup, dTru_rl, dNeg, dSlice, dNoPart, dPart, dCall, dMt, dFnN, dMth, dFld, dSfl, dFz, dLcF, dNew, dNewD, dNewDT, dNewK, dLenK, dSrtS, dLkE, dLkS, dLsR, dTpR, dEqO, dLnO, bolQ, rIsiO, dSliS, dSlS, dRevX, dgHead, dFrz, dForget, isTy, isIns, BF.rd, BT.rd, BM.rd, BM.ty, BF.rt, BT.rt, IEs.len, startD, getS, setS, wipeS, endB, tb, List.getD_cons_zero, List.getD_cons_succ, List.map_cons, List.map_nil, List.replicate, List.length_cons, List.length_nil, List.cons_append, List.nil_append, List.append_nil, dI_int, dAdd_int, dAdd_str, dAdd_tup, dIB_int, dLt_int, dLt_str, dEq_int, dEq_str, dNe_int, dNe_str, lenD_tup, lenD_rl, lenD_str, dMulA_int, dSl_str, ixN3_0, ixN3_1, ixN3_2, List.set_cons_zero, List.set_cons_succ, rAbs_int, rMin_int, rMax_int, rMin_str, rMax_str, dIx_wr, lenD_wr, atI_0, atI_1, atI_2, dIx_tup, dIx_rl, dIx_str, Option.some.injEq, exists_eq_left', decide_true, decide_false, eq_self, ite_true, ite_false, if_true, if_false, true_and, and_true, Bool.false_eq_true, Bool.not_true, Bool.not_false, Nat.reduceAdd, Nat.reduceSub, tTuple, tTupleX, dIs_non, dIs_bl, DL.isNon, dIn_str1, isi_str, isi_tup, isi_tx, isi_int, isi_rl, isi_bl, isi_non])
open PQ
inductive Tr where
  | nd (w : Str) (ts : List Tr)
mutual
def Tr.flat : Tr → List Str
  | .nd w ts => w :: flats ts
def flats : List Tr → List Str
  | [] => []
  | t :: ts => t.flat ++ flats ts
end
def Tr.w : Tr → Str
  | .nd w _ => w
def Tr.ts : Tr → List Tr
  | .nd _ ts => ts
mutual
def Tr.dep : Tr → Nat
  | .nd _ ts => deps ts + 1
def deps : List Tr → Nat
  | [] => 0
  | t :: ts => max t.dep (deps ts)
end
mutual
inductive Gr.T (g : Gr) : Str → Tr → Prop
  | mk {w k : Str} {ps : List Str} {ts : List Tr} : g.mak w = some (k, ps) → Gr.Ts g ps ts → Gr.T g k (.nd w ts)
inductive Gr.Ts (g : Gr) : List Str → List Tr → Prop
  | nil : Gr.Ts g [] []
  | cons {p : Str} {ps : List Str} {t : Tr} {ts : List Tr} : Gr.T g p t → Gr.Ts g ps ts → Gr.Ts g (p :: ps) (t :: ts)
end
section
variable {g : Gr}
inductive Gr.Mt (g : Gr) : List (Option Str) → List Tr → Prop
  | nil : Gr.Mt g [] []
  | cons {o : Option Str} {st : List (Option Str)} {k : Str} {t : Tr} {ts : List Tr} : g.T k t → (o = none ∨ o = some k) → Gr.Mt g st ts → Gr.Mt g (o :: st) (t :: ts)
end
end PR

namespace PQ
open PySem PySem.Spec PyProof.Rows L2 DL
end PQ

namespace PQ
open PySem PySem.Spec PyProof.Rows L2 DL
end PQ


namespace PR
open PySem PySem.Spec PyProof.Rows L2 DL
local macro_rules | `(tactic| walk_at "dl") => `(tactic| simp only [wSs, wS, DL.wE, DL.wT, DL.wL, wEs, wO, wC, wI, wG, wGs, dSeq, dAsg, dPar, dIf, dDrop, dSlot, dC, CD.d, dBin, boR, coR, dSub, dMod, dFdiv, dTest, dChain, bQ, dNext, dRet, dRetN, dFzK, dFrzK, dDisp, dPairs, DL.wDs, dgName, dgSub, dgTup, dgCons, dgNil, dLst, dTup, dTupX, dAug, dItX, dLz, dDz, dgTup2, dLenS, dSrI, diZip, diZipR, dCons, dNil, dIfE, dAndT, dOrT, dNotT, dAnd, dOr, dNot, dTruth, dTru_non, dTru_bl, dTru_int, dTru_str, dTru_tup, dTru_rl, dNeg, dSlice, dNoPart, dPart, dCall, dMt, dFnN, dMth, dFld, dSfl, dFz, dLcF, dNew, dNewD, dNewDT, dNewK, dLenK, dSrtS, dLkE, dLkS, dLsR, dTpR, dEqO, dLnO, bolQ, rIsiO, dSliS, dSlS, dRevX, dgHead, dFrz, dForget, isTy, isIns, BF.rd, BT.rd, BM.rd, BM.ty, BF.rt, BT.rt, IEs.len, startD, getS, setS, wipeS, endB, tb, List.getD_cons_zero, List.getD_cons_succ, List.map_cons, List.map_nil, List.replicate, List.length_cons, List.length_nil, List.cons_append, List.nil_append, List.append_nil, dI_int, dAdd_int, dAdd_str, dAdd_tup, dIB_int, dLt_int, dLt_str, dEq_int, dEq_str, dNe_int, dNe_str, lenD_tup, lenD_rl, lenD_str, dMulA_int, dSl_str, ixN3_0, ixN3_1, ixN3_2, List.set_cons_zero, List.set_cons_succ, rAbs_int, rMin_int, rMax_int, rMin_str, rMax_str, dIx_wr, lenD_wr, atI_0, atI_1, atI_2, dIx_tup, dIx_rl, dIx_str, Option.some.injEq, exists_eq_left', decide_true, decide_false, eq_self, ite_true, ite_false, if_true, if_false, true_and, and_true, Bool.false_eq_true, Bool.not_true, Bool.not_false, Nat.reduceAdd, Nat.reduceSub, tTuple, tTupleX, dIs_non, dIs_bl, DL.isNon, dIn_str1, isi_str, isi_tup, isi_tx, isi_int, isi_rl, isi_bl, isi_non])
open PQ
abbrev Sg := List (Str × List Str)
def enc (σ : Sg) : List (Key × D) := σ.map fun q => (.inr q.1, tS q.2)
end PR

namespace DL
open PySem PySem.Spec PyProof.Rows L2
section
variable {α β : Type} {w w1 : DTI} {gt gt1 : DTG} {tt tt1 : DTT} {te tk tv : DTE} {vs vs1 : List Nat} {e : Sl} {M : Mem} {E : EX}
end
section
variable {α : Type} {w : DTI} {gt : DTG} {tt : DTT} {te : DTE} {vs : List Nat} {e : Sl} {M : Mem} {E : EX}
end
end DL


namespace PR
open PySem PySem.Spec PyProof.Rows L2 DL
local macro_rules | `(tactic| walk_at "dl") => `(tactic| simp only [wSs, wS, DL.wE, DL.wT, DL.wL, wEs, wO, wC, wI, wG, wGs, dSeq, dAsg, dPar, dIf, dDrop, dSlot, dC, CD.d, dBin, boR, coR, dSub, dMod, dFdiv, dTest, dChain, bQ, dNext, dRet, dRetN, dFzK, dFrzK, dDisp, dPairs, DL.wDs, dgName, dgSub, dgTup, dgCons, dgNil, dLst, dTup, dTupX, dAug, dItX, dLz, dDz, dgTup2, dLenS, dSrI, diZip, diZipR, dCons, dNil, dIfE, dAndT, dOrT, dNotT, dAnd, dOr, dNot, dTruth, dTru_non, dTru_bl, dTru_int, dTru_str, dTru_tup, dTru_rl, dNeg, dSlice, dNoPart, dPart, dCall, dMt, dFnN, dMth, dFld, dSfl, dFz, dLcF, dNew, dNewD, dNewDT, dNewK, dLenK, dSrtS, dLkE, dLkS, dLsR, dTpR, dEqO, dLnO, bolQ, rIsiO, dSliS, dSlS, dRevX, dgHead, dFrz, dForget, isTy, isIns, BF.rd, BT.rd, BM.rd, BM.ty, BF.rt, BT.rt, IEs.len, startD, getS, setS, wipeS, endB, tb, List.getD_cons_zero, List.getD_cons_succ, List.map_cons, List.map_nil, List.replicate, List.length_cons, List.length_nil, List.cons_append, List.nil_append, List.append_nil, dI_int, dAdd_int, dAdd_str, dAdd_tup, dIB_int, dLt_int, dLt_str, dEq_int, dEq_str, dNe_int, dNe_str, lenD_tup, lenD_rl, lenD_str, dMulA_int, dSl_str, ixN3_0, ixN3_1, ixN3_2, List.set_cons_zero, List.set_cons_succ, rAbs_int, rMin_int, rMax_int, rMin_str, rMax_str, dIx_wr, lenD_wr, atI_0, atI_1, atI_2, dIx_tup, dIx_rl, dIx_str, Option.some.injEq, exists_eq_left', decide_true, decide_false, eq_self, ite_true, ite_false, if_true, if_false, true_and, and_true, Bool.false_eq_true, Bool.not_true, Bool.not_false, Nat.reduceAdd, Nat.reduceSub, tTuple, tTupleX, dIs_non, dIs_bl, DL.isNon, dIn_str1, isi_str, isi_tup, isi_tx, isi_int, isi_rl, isi_bl, isi_non])
open PQ
def isNm (g : Gr) (w : Str) : Bool := (g.names.lookup w).isSome
end PR


namespace PR
open PySem PySem.Spec PyProof.Rows L2 DL
local macro_rules | `(tactic| walk_at "dl") => `(tactic| simp only [wSs, wS, DL.wE, DL.wT, DL.wL, wEs, wO, wC, wI, wG, wGs, dSeq, dAsg, dPar, dIf, dDrop, dSlot, dC, CD.d, dBin, boR, coR, dSub, dMod, dFdiv, dTest, dChain, bQ, dNext, dRet, dRetN, dFzK, dFrzK, dDisp, dPairs, DL.wDs, dgName, dgSub, dgTup, dgCons, dgNil, dLst, dTup, dTupX, dAug, dItX, dLz, dDz, dgTup2, dLenS, dSrI, diZip, diZipR, dCons, dNil, dIfE, dAndT, dOrT, dNotT, dAnd, dOr, dNot, dTruth, dTru_non, dTru_bl, dTru_int, dTru_str, dTru_tup, dTru_rl, dNeg, dSlice, dNoPart, dPart, dCall, dMt, dFnN, dMth, dFld, dSfl, dFz, dLcF, dNew, dNewD, dNewDT, dNewK, dLenK, dSrtS, dLkE, dLkS, dLsR, dTpR, dEqO, dLnO, bolQ, rIsiO, dSliS, dSlS, dRevX, dgHead, dFrz, dForget, isTy, isIns, BF.rd, BT.rd, BM.rd, BM.ty, BF.rt, BT.rt, IEs.len, startD, getS, setS, wipeS, endB, tb, List.getD_cons_zero, List.getD_cons_succ, List.map_cons, List.map_nil, List.replicate, List.length_cons, List.length_nil, List.cons_append, List.nil_append, List.append_nil, dI_int, dAdd_int, dAdd_str, dAdd_tup, dIB_int, dLt_int, dLt_str, dEq_int, dEq_str, dNe_int, dNe_str, lenD_tup, lenD_rl, lenD_str, dMulA_int, dSl_str, ixN3_0, ixN3_1, ixN3_2, List.set_cons_zero, List.set_cons_succ, rAbs_int, rMin_int, rMax_int, rMin_str, rMax_str, dIx_wr, lenD_wr, atI_0, atI_1, atI_2, dIx_tup, dIx_rl, dIx_str, Option.some.injEq, exists_eq_left', decide_true, decide_false, eq_self, ite_true, ite_false, if_true, if_false, true_and, and_true, Bool.false_eq_true, Bool.not_true, Bool.not_false, Nat.reduceAdd, Nat.reduceSub, tTuple, tTupleX, dIs_non, dIs_bl, DL.isNon, dIn_str1, isi_str, isi_tup, isi_tx, isi_int, isi_rl, isi_bl, isi_non])
open PQ
end PR


namespace PR
open PySem PySem.Spec PyProof.Rows L2 DL
local macro_rules | `(tactic| walk_at "dl") => `(tactic| simp only [wSs, wS, DL.wE, DL.wT, DL.wL, wEs, wO, wC, wI, wG, wGs, dSeq, dAsg, dPar, dIf, dDrop, dSlot, dC, CD.d, dBin, boR, coR, dSub, dMod, dFdiv, dTest, dChain, bQ, dNext, dRet, dRetN, dFzK, dFrzK, dDisp, dPairs, DL.wDs, dgName, dgSub, dgTup, dgCons, dgNil, dLst, dTup, dTupX, dAug, dItX, dLz, dDz, dgTup2, dLenS, dSrI, diZip, diZipR, dCons, dNil, dIfE, dAndT, dOrT, dNotT, dAnd, dOr, dNot, dTruth, dTru_non, dTru_bl, dTru_int, dTru_str, dTru_tup, dTru_rl, dNeg, dSlice, dNoPart, dPart, dCall, dMt, dFnN, dMth, dFld, dSfl, dFz, dLcF, dNew, dNewD, dNewDT, dNewK, dLenK, dSrtS, dLkE, dLkS, dLsR, dTpR, dEqO, dLnO, bolQ, rIsiO, dSliS, dSlS, dRevX, dgHead, dFrz, dForget, isTy, isIns, BF.rd, BT.rd, BM.rd, BM.ty, BF.rt, BT.rt, IEs.len, startD, getS, setS, wipeS, endB, tb, List.getD_cons_zero, List.getD_cons_succ, List.map_cons, List.map_nil, List.replicate, List.length_cons, List.length_nil, List.cons_append, List.nil_append, List.append_nil, dI_int, dAdd_int, dAdd_str, dAdd_tup, dIB_int, dLt_int, dLt_str, dEq_int, dEq_str, dNe_int, dNe_str, lenD_tup, lenD_rl, lenD_str, dMulA_int, dSl_str, ixN3_0, ixN3_1, ixN3_2, List.set_cons_zero, List.set_cons_succ, rAbs_int, rMin_int, rMax_int, rMin_str, rMax_str, dIx_wr, lenD_wr, atI_0, atI_1, atI_2, dIx_tup, dIx_rl, dIx_str, Option.some.injEq, exists_eq_left', decide_true, decide_false, eq_self, ite_true, ite_false, if_true, if_false, true_and, and_true, Bool.false_eq_true, Bool.not_true, Bool.not_false, Nat.reduceAdd, Nat.reduceSub, tTuple, tTupleX, dIs_non, dIs_bl, DL.isNon, dIn_str1, isi_str, isi_tup, isi_tx, isi_int, isi_rl, isi_bl, isi_non])
open PQ
section
variable {g : Gr} {P : Sg}
def ext (g : Gr) (P : Sg) (σ : Sg) (ws : List Str) : Sg := ws.foldl (fun σ w => if isNm g w = true ∧ σ.lookup w = none then σ ++ [(w, putIn P [w])] else σ) σ
end
end PR


namespace K10
open PySem PySem.Spec PyProof.Rows L2 DL
local macro_rules | `(tactic| walk_at "dl") => `(tactic| simp only [wSs, wS, DL.wE, DL.wT, DL.wL, wEs, wO, wC, wI, wG, wGs, dSeq, dAsg, dPar, dIf, dDrop, dSlot, dC, CD.d, dBin, boR, coR, dSub, dMod, dFdiv, dTest, dChain, bQ, dNext, dRet, dRetN, dFzK, dFrzK, dDisp, dPairs, DL.wDs, dgName, dgSub, dgTup, dgCons, dgNil, dLst, dTup, dTupX, dAug, dItX, dLz, dDz, dgTup2, dLenS, dSrI, diZip, diZipR, dCons, dNil, dIfE, dAndT, dOrT, dNotT, dAnd, dOr, dNot, dTruth, dTru_non, dTru_bl, dTru_int, dTru_str, dTru_tup, dTru_rl, dNeg, dSlice, dNoPart, dPart, dCall, dMt, dFnN, dMth, dFld, dSfl, dFz, dLcF, dNew, dNewD, dNewDT, dNewK, dLenK, dSrtS, dLkE, dLkS, dLsR, dTpR, dEqO, dLnO, bolQ, rIsiO, dSliS, dSlS, dRevX, dgHead, dFrz, dForget, isTy, isIns, BF.rd, BT.rd, BM.rd, BM.ty, BF.rt, BT.rt, IEs.len, startD, getS, setS, wipeS, endB, tb, List.getD_cons_zero, List.getD_cons_succ, List.map_cons, List.map_nil, List.replicate, List.length_cons, List.length_nil, List.cons_append, List.nil_append, List.append_nil, dI_int, dAdd_int, dAdd_str, dAdd_tup, dIB_int, dLt_int, dLt_str, dEq_int, dEq_str, dNe_int, dNe_str, lenD_tup, lenD_rl, lenD_str, dMulA_int, dSl_str, ixN3_0, ixN3_1, ixN3_2, List.set_cons_zero, List.set_cons_succ, rAbs_int, rMin_int, rMax_int, rMin_str, rMax_str, dIx_wr, lenD_wr, atI_0, atI_1, atI_2, dIx_tup, dIx_rl, dIx_str, Option.some.injEq, exists_eq_left', decide_true, decide_false, eq_self, ite_true, ite_false, if_true, if_false, true_and, and_true, Bool.false_eq_true, Bool.not_true, Bool.not_false, Nat.reduceAdd, Nat.reduceSub, tTuple, tTupleX, dIs_non, dIs_bl, DL.isNon, dIn_str1, isi_str, isi_tup, isi_tx, isi_int, isi_rl, isi_bl, isi_non])
open PR
end K10


namespace K10
open PySem PySem.Spec PyProof.Rows L2 DL
local macro_rules | `(tactic| walk_at "dl") => `(tactic| simp only [wSs, wS, DL.wE, DL.wT, DL.wL, wEs, wO, wC, wI, wG, wGs, dSeq, dAsg, dPar, dIf, dDrop, dSlot, dC, CD.d, dBin, boR, coR, dSub, dMod, dFdiv, dTest, dChain, bQ, dNext, dRet, dRetN, dFzK, dFrzK, dDisp, dPairs, DL.wDs, dgName, dgSub, dgTup, dgCons, dgNil, dLst, dTup, dTupX, dAug, dItX, dLz, dDz, dgTup2, dLenS, dSrI, diZip, diZipR, dCons, dNil, dIfE, dAndT, dOrT, dNotT, dAnd, dOr, dNot, dTruth, dTru_non, dTru_bl, dTru_int, dTru_str, dTru_tup, dTru_rl, dNeg, dSlice, dNoPart, dPart, dCall, dMt, dFnN, dMth, dFld, dSfl, dFz, dLcF, dNew, dNewD, dNewDT, dNewK, dLenK, dSrtS, dLkE, dLkS, dLsR, dTpR, dEqO, dLnO, bolQ, rIsiO, dSliS, dSlS, dRevX, dgHead, dFrz, dForget, isTy, isIns, BF.rd, BT.rd, BM.rd, BM.ty, BF.rt, BT.rt, IEs.len, startD, getS, setS, wipeS, endB, tb, List.getD_cons_zero, List.getD_cons_succ, List.map_cons, List.map_nil, List.replicate, List.length_cons, List.length_nil, List.cons_append, List.nil_append, List.append_nil, dI_int, dAdd_int, dAdd_str, dAdd_tup, dIB_int, dLt_int, dLt_str, dEq_int, dEq_str, dNe_int, dNe_str, lenD_tup, lenD_rl, lenD_str, dMulA_int, dSl_str, ixN3_0, ixN3_1, ixN3_2, List.set_cons_zero, List.set_cons_succ, rAbs_int, rMin_int, rMax_int, rMin_str, rMax_str, dIx_wr, lenD_wr, atI_0, atI_1, atI_2, dIx_tup, dIx_rl, dIx_str, Option.some.injEq, exists_eq_left', decide_true, decide_false, eq_self, ite_true, ite_false, if_true, if_false, true_and, and_true, Bool.false_eq_true, Bool.not_true, Bool.not_false, Nat.reduceAdd, Nat.reduceSub, tTuple, tTupleX, dIs_non, dIs_bl, DL.isNon, dIn_str1, isi_str, isi_tup, isi_tx, isi_int, isi_rl, isi_bl, isi_non])
open PR
def gD (g : Gr) : D := .tup [g.kD, g.sD, g.nD]
structure Wok (ws : List Str) : Prop where
  len : ws.length = 25
  nd : ws.Nodup
  ok : ∀ w ∈ ws, wordB w = true
structure Sok (ws : List Str) (many c : Nat) (S : List (Str × Str × List Str)) : Prop where
  fst : S.map Prod.fst = (ws.drop 3).take c
  prt : ∀ s ∈ S, s.2.1 ∈ ws.take many ∧ s.2.2.length ≤ 3 ∧ ∀ p ∈ s.2.2, p ∈ ws.take many
structure Nok (ws : List Str) (many c : Nat) (N : List (Str × Str)) : Prop where
  fst : N.map Prod.fst = (ws.drop 13).take c
  prt : ∀ s ∈ N, s.2 ∈ ws.take many
  all : ∀ i, i < c → i < many → ∃ s ∈ N, ws[i]? = some s.2
end K10


namespace K10
open PySem PySem.Spec PyProof.Rows L2 DL
local macro_rules | `(tactic| walk_at "dl") => `(tactic| simp only [wSs, wS, DL.wE, DL.wT, DL.wL, wEs, wO, wC, wI, wG, wGs, dSeq, dAsg, dPar, dIf, dDrop, dSlot, dC, CD.d, dBin, boR, coR, dSub, dMod, dFdiv, dTest, dChain, bQ, dNext, dRet, dRetN, dFzK, dFrzK, dDisp, dPairs, DL.wDs, dgName, dgSub, dgTup, dgCons, dgNil, dLst, dTup, dTupX, dAug, dItX, dLz, dDz, dgTup2, dLenS, dSrI, diZip, diZipR, dCons, dNil, dIfE, dAndT, dOrT, dNotT, dAnd, dOr, dNot, dTruth, dTru_non, dTru_bl, dTru_int, dTru_str, dTru_tup, dTru_rl, dNeg, dSlice, dNoPart, dPart, dCall, dMt, dFnN, dMth, dFld, dSfl, dFz, dLcF, dNew, dNewD, dNewDT, dNewK, dLenK, dSrtS, dLkE, dLkS, dLsR, dTpR, dEqO, dLnO, bolQ, rIsiO, dSliS, dSlS, dRevX, dgHead, dFrz, dForget, isTy, isIns, BF.rd, BT.rd, BM.rd, BM.ty, BF.rt, BT.rt, IEs.len, startD, getS, setS, wipeS, endB, tb, List.getD_cons_zero, List.getD_cons_succ, List.map_cons, List.map_nil, List.replicate, List.length_cons, List.length_nil, List.cons_append, List.nil_append, List.append_nil, dI_int, dAdd_int, dAdd_str, dAdd_tup, dIB_int, dLt_int, dLt_str, dEq_int, dEq_str, dNe_int, dNe_str, lenD_tup, lenD_rl, lenD_str, dMulA_int, dSl_str, ixN3_0, ixN3_1, ixN3_2, List.set_cons_zero, List.set_cons_succ, rAbs_int, rMin_int, rMax_int, rMin_str, rMax_str, dIx_wr, lenD_wr, atI_0, atI_1, atI_2, dIx_tup, dIx_rl, dIx_str, Option.some.injEq, exists_eq_left', decide_true, decide_false, eq_self, ite_true, ite_false, if_true, if_false, true_and, and_true, Bool.false_eq_true, Bool.not_true, Bool.not_false, Nat.reduceAdd, Nat.reduceSub, tTuple, tTupleX, dIs_non, dIs_bl, DL.isNon, dIn_str1, isi_str, isi_tup, isi_tx, isi_int, isi_rl, isi_bl, isi_non])
open PR
end K10


namespace K10
open PySem PySem.Spec PyProof.Rows L2 DL
local macro_rules | `(tactic| walk_at "dl") => `(tactic| simp only [wSs, wS, DL.wE, DL.wT, DL.wL, wEs, wO, wC, wI, wG, wGs, dSeq, dAsg, dPar, dIf, dDrop, dSlot, dC, CD.d, dBin, boR, coR, dSub, dMod, dFdiv, dTest, dChain, bQ, dNext, dRet, dRetN, dFzK, dFrzK, dDisp, dPairs, DL.wDs, dgName, dgSub, dgTup, dgCons, dgNil, dLst, dTup, dTupX, dAug, dItX, dLz, dDz, dgTup2, dLenS, dSrI, diZip, diZipR, dCons, dNil, dIfE, dAndT, dOrT, dNotT, dAnd, dOr, dNot, dTruth, dTru_non, dTru_bl, dTru_int, dTru_str, dTru_tup, dTru_rl, dNeg, dSlice, dNoPart, dPart, dCall, dMt, dFnN, dMth, dFld, dSfl, dFz, dLcF, dNew, dNewD, dNewDT, dNewK, dLenK, dSrtS, dLkE, dLkS, dLsR, dTpR, dEqO, dLnO, bolQ, rIsiO, dSliS, dSlS, dRevX, dgHead, dFrz, dForget, isTy, isIns, BF.rd, BT.rd, BM.rd, BM.ty, BF.rt, BT.rt, IEs.len, startD, getS, setS, wipeS, endB, tb, List.getD_cons_zero, List.getD_cons_succ, List.map_cons, List.map_nil, List.replicate, List.length_cons, List.length_nil, List.cons_append, List.nil_append, List.append_nil, dI_int, dAdd_int, dAdd_str, dAdd_tup, dIB_int, dLt_int, dLt_str, dEq_int, dEq_str, dNe_int, dNe_str, lenD_tup, lenD_rl, lenD_str, dMulA_int, dSl_str, ixN3_0, ixN3_1, ixN3_2, List.set_cons_zero, List.set_cons_succ, rAbs_int, rMin_int, rMax_int, rMin_str, rMax_str, dIx_wr, lenD_wr, atI_0, atI_1, atI_2, dIx_tup, dIx_rl, dIx_str, Option.some.injEq, exists_eq_left', decide_true, decide_false, eq_self, ite_true, ite_false, if_true, if_false, true_and, and_true, Bool.false_eq_true, Bool.not_true, Bool.not_false, Nat.reduceAdd, Nat.reduceSub, tTuple, tTupleX, dIs_non, dIs_bl, DL.isNon, dIn_str1, isi_str, isi_tup, isi_tx, isi_int, isi_rl, isi_bl, isi_non])
open PR
end K10


namespace K10
open PySem PySem.Spec PyProof.Rows L2 DL
local macro_rules | `(tactic| walk_at "dl") => `(tactic| simp only [wSs, wS, DL.wE, DL.wT, DL.wL, wEs, wO, wC, wI, wG, wGs, dSeq, dAsg, dPar, dIf, dDrop, dSlot, dC, CD.d, dBin, boR, coR, dSub, dMod, dFdiv, dTest, dChain, bQ, dNext, dRet, dRetN, dFzK, dFrzK, dDisp, dPairs, DL.wDs, dgName, dgSub, dgTup, dgCons, dgNil, dLst, dTup, dTupX, dAug, dItX, dLz, dDz, dgTup2, dLenS, dSrI, diZip, diZipR, dCons, dNil, dIfE, dAndT, dOrT, dNotT, dAnd, dOr, dNot, dTruth, dTru_non, dTru_bl, dTru_int, dTru_str, dTru_tup, dTru_rl, dNeg, dSlice, dNoPart, dPart, dCall, dMt, dFnN, dMth, dFld, dSfl, dFz, dLcF, dNew, dNewD, dNewDT, dNewK, dLenK, dSrtS, dLkE, dLkS, dLsR, dTpR, dEqO, dLnO, bolQ, rIsiO, dSliS, dSlS, dRevX, dgHead, dFrz, dForget, isTy, isIns, BF.rd, BT.rd, BM.rd, BM.ty, BF.rt, BT.rt, IEs.len, startD, getS, setS, wipeS, endB, tb, List.getD_cons_zero, List.getD_cons_succ, List.map_cons, List.map_nil, List.replicate, List.length_cons, List.length_nil, List.cons_append, List.nil_append, List.append_nil, dI_int, dAdd_int, dAdd_str, dAdd_tup, dIB_int, dLt_int, dLt_str, dEq_int, dEq_str, dNe_int, dNe_str, lenD_tup, lenD_rl, lenD_str, dMulA_int, dSl_str, ixN3_0, ixN3_1, ixN3_2, List.set_cons_zero, List.set_cons_succ, rAbs_int, rMin_int, rMax_int, rMin_str, rMax_str, dIx_wr, lenD_wr, atI_0, atI_1, atI_2, dIx_tup, dIx_rl, dIx_str, Option.some.injEq, exists_eq_left', decide_true, decide_false, eq_self, ite_true, ite_false, if_true, if_false, true_and, and_true, Bool.false_eq_true, Bool.not_true, Bool.not_false, Nat.reduceAdd, Nat.reduceSub, tTuple, tTupleX, dIs_non, dIs_bl, DL.isNon, dIn_str1, isi_str, isi_tup, isi_tx, isi_int, isi_rl, isi_bl, isi_non])
open PR
end K10


namespace KH
open PySem PySem.Spec PyProof.Rows L2 DL
local macro_rules | `(tactic| walk_at "dl") => `(tactic| simp only [wSs, wS, DL.wE, DL.wT, DL.wL, wEs, wO, wC, wI, wG, wGs, dSeq, dAsg, dPar, dIf, dDrop, dSlot, dC, CD.d, dBin, boR, coR, dSub, dMod, dFdiv, dTest, dChain, bQ, dNext, dRet, dRetN, dFzK, dFrzK, dDisp, dPairs, DL.wDs, dgName, dgSub, dgTup, dgCons, dgNil, dLst, dTup, dTupX, dAug, dItX, dLz, dDz, dgTup2, dLenS, dSrI, diZip, diZipR, dCons, dNil, dIfE, dAndT, dOrT, dNotT, dAnd, dOr, dNot, dTruth, dTru_non, dTru_bl, dTru_int, dTru_str, dTru_tup, dTru_rl, dNeg, dSlice, dNoPart, dPart, dCall, dMt, dFnN, dMth, dFld, dSfl, dFz, dLcF, dNew, dNewD, dNewDT, dNewK, dLenK, dSrtS, dLkE, dLkS, dLsR, dTpR, dEqO, dLnO, bolQ, rIsiO, dSliS, dSlS, dRevX, dgHead, dFrz, dForget, isTy, isIns, BF.rd, BT.rd, BM.rd, BM.ty, BF.rt, BT.rt, IEs.len, startD, getS, setS, wipeS, endB, tb, List.getD_cons_zero, List.getD_cons_succ, List.map_cons, List.map_nil, List.replicate, List.length_cons, List.length_nil, List.cons_append, List.nil_append, List.append_nil, dI_int, dAdd_int, dAdd_str, dAdd_tup, dIB_int, dLt_int, dLt_str, dEq_int, dEq_str, dNe_int, dNe_str, lenD_tup, lenD_rl, lenD_str, dMulA_int, dSl_str, ixN3_0, ixN3_1, ixN3_2, List.set_cons_zero, List.set_cons_succ, rAbs_int, rMin_int, rMax_int, rMin_str, rMax_str, dIx_wr, lenD_wr, atI_0, atI_1, atI_2, dIx_tup, dIx_rl, dIx_str, Option.some.injEq, exists_eq_left', decide_true, decide_false, eq_self, ite_true, ite_false, if_true, if_false, true_and, and_true, Bool.false_eq_true, Bool.not_true, Bool.not_false, Nat.reduceAdd, Nat.reduceSub, tTuple, tTupleX, dIs_non, dIs_bl, DL.isNon, dIn_str1, isi_str, isi_tup, isi_tx, isi_int, isi_rl, isi_bl, isi_non])
open PR
structure Sh (k n : Nat) (d : D) : Prop where
  flat : flatD d = true
  nod : (toPy d).hasDict = false
  dep : (toPy d).depth ≤ k
  shw : Shw d n
theorem Sh.le {k n k' n' : Nat} {d : D} (h : Sh k n d) (l : k ≤ k') (l2 : n ≤ n') : Sh k' n' d := ⟨h.flat, h.nod, Nat.le_trans h.dep l, h.shw.le l2⟩
end KH


namespace KG
open PySem PySem.Spec PyProof.Rows L2 DL
local macro_rules | `(tactic| walk_at "dl") => `(tactic| simp only [wSs, wS, DL.wE, DL.wT, DL.wL, wEs, wO, wC, wI, wG, wGs, dSeq, dAsg, dPar, dIf, dDrop, dSlot, dC, CD.d, dBin, boR, coR, dSub, dMod, dFdiv, dTest, dChain, bQ, dNext, dRet, dRetN, dFzK, dFrzK, dDisp, dPairs, DL.wDs, dgName, dgSub, dgTup, dgCons, dgNil, dLst, dTup, dTupX, dAug, dItX, dLz, dDz, dgTup2, dLenS, dSrI, diZip, diZipR, dCons, dNil, dIfE, dAndT, dOrT, dNotT, dAnd, dOr, dNot, dTruth, dTru_non, dTru_bl, dTru_int, dTru_str, dTru_tup, dTru_rl, dNeg, dSlice, dNoPart, dPart, dCall, dMt, dFnN, dMth, dFld, dSfl, dFz, dLcF, dNew, dNewD, dNewDT, dNewK, dLenK, dSrtS, dLkE, dLkS, dLsR, dTpR, dEqO, dLnO, bolQ, rIsiO, dSliS, dSlS, dRevX, dgHead, dFrz, dForget, isTy, isIns, BF.rd, BT.rd, BM.rd, BM.ty, BF.rt, BT.rt, IEs.len, startD, getS, setS, wipeS, endB, tb, List.getD_cons_zero, List.getD_cons_succ, List.map_cons, List.map_nil, List.replicate, List.length_cons, List.length_nil, List.cons_append, List.nil_append, List.append_nil, dI_int, dAdd_int, dAdd_str, dAdd_tup, dIB_int, dLt_int, dLt_str, dEq_int, dEq_str, dNe_int, dNe_str, lenD_tup, lenD_rl, lenD_str, dMulA_int, dSl_str, ixN3_0, ixN3_1, ixN3_2, List.set_cons_zero, List.set_cons_succ, rAbs_int, rMin_int, rMax_int, rMin_str, rMax_str, dIx_wr, lenD_wr, atI_0, atI_1, atI_2, dIx_tup, dIx_rl, dIx_str, Option.some.injEq, exists_eq_left', decide_true, decide_false, eq_self, ite_true, ite_false, if_true, if_false, true_and, and_true, Bool.false_eq_true, Bool.not_true, Bool.not_false, Nat.reduceAdd, Nat.reduceSub, tTuple, tTupleX, dIs_non, dIs_bl, DL.isNon, dIn_str1, isi_str, isi_tup, isi_tx, isi_int, isi_rl, isi_bl, isi_non])
open PR K10 KH
end KG

namespace K05
open PySem PySem.Spec PyProof.Rows L2 DL
def ir__law_take : ISs :=
  (.cons (.iff (.cmp .Gt (.ix (.sl 0) (.lit (.int 0))) (.lit (.int 0))) (.cons (.asg (.nm 3) (.bin .Mod (.ix (.sl 0) (.lit (.int 0))) (.sl 1)))
  (.cons (.sto (.sl 0) (.lit (.int 0)) (.bin .FloorDiv (.ix (.sl 0) (.lit (.int 0))) (.sl 1)))
  (.cons (.ret (.sl 3))
  .nil))) .nil)
  (.cons (.sto (.sl 0) (.lit (.int 2)) (.bin .Add (.ix (.sl 0) (.lit (.int 2))) (.lit (.int 1))))
  (.cons (.asg (.nm 2) (.bin .Mod (.bin .Mult (.bin .Add (.bin .Add (.ix (.sl 0) (.lit (.int 1))) (.bin .Mult (.bin .Mult (.lit (.int 65537)) (.ix (.sl 0) (.lit (.int 2)))) (.ix (.sl 0) (.lit (.int 2))))) (.lit (.int 11))) (.lit (.int 48271))) (.lit (.int 2305843009213693921))))
  (.cons (.asg (.nm 2) (.bin .Mod (.bin .Mult (.sl 2) (.bin .Add (.bin .Mod (.sl 2) (.lit (.int 1000003))) (.bin .Mult (.lit (.int 99991)) (.ix (.sl 0) (.lit (.int 2)))))) (.lit (.int 2305843009213693907))))
  (.cons (.ret (.bin .Mod (.bin .Add (.bin .FloorDiv (.sl 2) (.lit (.int 97))) (.bin .FloorDiv (.sl 2) (.lit (.int 1000033)))) (.sl 1)))
  .nil)))))
-- slots: 0 _law_hand_here 1 _law_many 2 _law_mixed 3 _law_digit
-- calls: [] ; methods: [] ; fields: [] ; constants: []
def ir_law : ISs :=
  (.cons (.ret (.tb .all (.lc [("_law_k", 1)] (.nm 1) (.rg1 (.bin .Add (.lit (.int 2)) (.cb .min (.lit (.int 6)) (.cons (.cb .len (.sl 0) .nil) .nil)))) .no (.cal 0 (.cons (.cal 1 (.cons (.sl 0) (.cons (.sl 1) .nil)) .nil) .nil) .nil))))
  .nil)
-- slots: 0 _law_script 1 _law_k
-- calls: [('_law_right', 1, ()), ('_law_hand', 2, ())] ; methods: [] ; fields: [] ; constants: []
end K05


namespace K05
open PySem PySem.Spec PyProof.Rows L2 DL
local macro_rules | `(tactic| walk_at "dl") => `(tactic| simp only [wSs, wS, DL.wE, DL.wT, DL.wL, wEs, wO, wC, wI, wG, wGs, dSeq, dAsg, dPar, dIf, dDrop, dSlot, dC, CD.d, dBin, boR, coR, dSub, dMod, dFdiv, dTest, dChain, bQ, dNext, dRet, dRetN, dFzK, dFrzK, dDisp, dPairs, DL.wDs, dgName, dgSub, dgTup, dgCons, dgNil, dLst, dTup, dTupX, dAug, dItX, dLz, dDz, dgTup2, dLenS, dSrI, diZip, diZipR, dCons, dNil, dIfE, dAndT, dOrT, dNotT, dAnd, dOr, dNot, dTruth, dTru_non, dTru_bl, dTru_int, dTru_str, dTru_tup, dTru_rl, dNeg, dSlice, dNoPart, dPart, dCall, dMt, dFnN, dMth, dFld, dSfl, dFz, dLcF, dNew, dNewD, dNewDT, dNewK, dLenK, dSrtS, dLkE, dLkS, dLsR, dTpR, dEqO, dLnO, bolQ, rIsiO, dSliS, dSlS, dRevX, dgHead, dFrz, dForget, isTy, isIns, BF.rd, BT.rd, BM.rd, BM.ty, BF.rt, BT.rt, IEs.len, startD, getS, setS, wipeS, endB, tb, List.getD_cons_zero, List.getD_cons_succ, List.map_cons, List.map_nil, List.replicate, List.length_cons, List.length_nil, List.cons_append, List.nil_append, List.append_nil, dI_int, dAdd_int, dAdd_str, dAdd_tup, dIB_int, dLt_int, dLt_str, dEq_int, dEq_str, dNe_int, dNe_str, lenD_tup, lenD_rl, lenD_str, dMulA_int, dSl_str, ixN3_0, ixN3_1, ixN3_2, List.set_cons_zero, List.set_cons_succ, rAbs_int, rMin_int, rMax_int, rMin_str, rMax_str, dIx_wr, lenD_wr, atI_0, atI_1, atI_2, dIx_tup, dIx_rl, dIx_str, Option.some.injEq, exists_eq_left', decide_true, decide_false, eq_self, ite_true, ite_false, if_true, if_false, true_and, and_true, Bool.false_eq_true, Bool.not_true, Bool.not_false, Nat.reduceAdd, Nat.reduceSub, tTuple, tTupleX, dIs_non, dIs_bl, DL.isNon, dIn_str1, isi_str, isi_tup, isi_tx, isi_int, isi_rl, isi_bl, isi_non])
open PR K10
theorem law_take (S : Tb) (ds : List D) (M : Mem) (Q : QE) (E : EX) (H : spTake ds M Q E) : wSs S ir__law_take (endB Q) E (startD 4 ds) M := by
  obtain ⟨h, o, n, m, rfl, hm, hm2, hM, ⟨a, b, c, rfl, ha, hb, hb2, hc, hc2⟩, hn, q⟩ := H
  unfold ir__law_take
  walk_at "dl"
  simp only [dIx_ref hM, atI_0, Option.some.injEq, exists_eq_left', dI_int]
  by_cases h0 : 0 < a
  · repeat first | walk_at "dl" | simp only [dIx_ref hM, dSet_ref hM, h0]
    refine ⟨hm, ⟨hm, by omega⟩, _, Sub.refl, q _ _ (Int.emod_nonneg _ (by omega)) (Int.emod_lt_of_pos _ hm) ⟨_, b, c, rfl, Int.ediv_nonneg ha (by omega), hb, hb2, hc, by omega⟩⟩
  · repeat first | walk_at "dl" | simp only [dIx_ref hM, dSet_ref hM, h0, dIx_wr, atI_0, atI_1, atI_2, dI_int]
    have d0 : 0 ≤ (b + 65537 * (c + 1) * (c + 1) + 11) * 48271 % 2305843009213693921 := Int.emod_nonneg _ (by omega)
    have d1 : (b + 65537 * (c + 1) * (c + 1) + 11) * 48271 % 2305843009213693921 < 2305843009213693921 := Int.emod_lt_of_pos _ (by omega)
    refine ⟨cm_left (by omega), cm_right (by omega), cm_right (by omega), by omega, by omega, cm_left (by omega), ?_⟩
    generalize (b + 65537 * (c + 1) * (c + 1) + 11) * 48271 % 2305843009213693921 = x at d0 d1 ⊢
    refine ⟨cm_left (by omega), by omega, ?_⟩
    have f0 : 0 ≤ x * (x % 1000003 + 99991 * (c + 1)) % 2305843009213693907 := Int.emod_nonneg _ (by omega)
    have f1 : x * (x % 1000003 + 99991 * (c + 1)) % 2305843009213693907 < 2305843009213693907 := Int.emod_lt_of_pos _ (by omega)
    generalize x * (x % 1000003 + 99991 * (c + 1)) % 2305843009213693907 = y at f0 f1 ⊢
    refine ⟨⟨by omega, by omega⟩, ⟨by omega, by omega⟩, hm, _, Sub.refl, ?_⟩
    exact q _ _ (Int.emod_nonneg _ (by omega)) (Int.emod_lt_of_pos _ hm) ⟨a, b, c + 1, rfl, ha, hb, hb2, by omega, by omega⟩
end K05


namespace KT
open PySem PySem.Spec PyProof.Rows L2 DL
local macro_rules | `(tactic| walk_at "dl") => `(tactic| simp only [wSs, wS, DL.wE, DL.wT, DL.wL, wEs, wO, wC, wI, wG, wGs, dSeq, dAsg, dPar, dIf, dDrop, dSlot, dC, CD.d, dBin, boR, coR, dSub, dMod, dFdiv, dTest, dChain, bQ, dNext, dRet, dRetN, dFzK, dFrzK, dDisp, dPairs, DL.wDs, dgName, dgSub, dgTup, dgCons, dgNil, dLst, dTup, dTupX, dAug, dItX, dLz, dDz, dgTup2, dLenS, dSrI, diZip, diZipR, dCons, dNil, dIfE, dAndT, dOrT, dNotT, dAnd, dOr, dNot, dTruth, dTru_non, dTru_bl, dTru_int, dTru_str, dTru_tup, dTru_rl, dNeg, dSlice, dNoPart, dPart, dCall, dMt, dFnN, dMth, dFld, dSfl, dFz, dLcF, dNew, dNewD, dNewDT, dNewK, dLenK, dSrtS, dLkE, dLkS, dLsR, dTpR, dEqO, dLnO, bolQ, rIsiO, dSliS, dSlS, dRevX, dgHead, dFrz, dForget, isTy, isIns, BF.rd, BT.rd, BM.rd, BM.ty, BF.rt, BT.rt, IEs.len, startD, getS, setS, wipeS, endB, tb, List.getD_cons_zero, List.getD_cons_succ, List.map_cons, List.map_nil, List.replicate, List.length_cons, List.length_nil, List.cons_append, List.nil_append, List.append_nil, dI_int, dAdd_int, dAdd_str, dAdd_tup, dIB_int, dLt_int, dLt_str, dEq_int, dEq_str, dNe_int, dNe_str, lenD_tup, lenD_rl, lenD_str, dMulA_int, dSl_str, ixN3_0, ixN3_1, ixN3_2, List.set_cons_zero, List.set_cons_succ, rAbs_int, rMin_int, rMax_int, rMin_str, rMax_str, dIx_wr, lenD_wr, atI_0, atI_1, atI_2, dIx_tup, dIx_rl, dIx_str, Option.some.injEq, exists_eq_left', decide_true, decide_false, eq_self, ite_true, ite_false, if_true, if_false, true_and, and_true, Bool.false_eq_true, Bool.not_true, Bool.not_false, Nat.reduceAdd, Nat.reduceSub, tTuple, tTupleX, dIs_non, dIs_bl, DL.isNon, dIn_str1, isi_str, isi_tup, isi_tx, isi_int, isi_rl, isi_bl, isi_non])
open PR PQ K10 KG KH
end KT


namespace KA
open PySem PySem.Spec PyProof.Rows L2 DL
local macro_rules | `(tactic| walk_at "dl") => `(tactic| simp only [wSs, wS, DL.wE, DL.wT, DL.wL, wEs, wO, wC, wI, wG, wGs, dSeq, dAsg, dPar, dIf, dDrop, dSlot, dC, CD.d, dBin, boR, coR, dSub, dMod, dFdiv, dTest, dChain, bQ, dNext, dRet, dRetN, dFzK, dFrzK, dDisp, dPairs, DL.wDs, dgName, dgSub, dgTup, dgCons, dgNil, dLst, dTup, dTupX, dAug, dItX, dLz, dDz, dgTup2, dLenS, dSrI, diZip, diZipR, dCons, dNil, dIfE, dAndT, dOrT, dNotT, dAnd, dOr, dNot, dTruth, dTru_non, dTru_bl, dTru_int, dTru_str, dTru_tup, dTru_rl, dNeg, dSlice, dNoPart, dPart, dCall, dMt, dFnN, dMth, dFld, dSfl, dFz, dLcF, dNew, dNewD, dNewDT, dNewK, dLenK, dSrtS, dLkE, dLkS, dLsR, dTpR, dEqO, dLnO, bolQ, rIsiO, dSliS, dSlS, dRevX, dgHead, dFrz, dForget, isTy, isIns, BF.rd, BT.rd, BM.rd, BM.ty, BF.rt, BT.rt, IEs.len, startD, getS, setS, wipeS, endB, tb, List.getD_cons_zero, List.getD_cons_succ, List.map_cons, List.map_nil, List.replicate, List.length_cons, List.length_nil, List.cons_append, List.nil_append, List.append_nil, dI_int, dAdd_int, dAdd_str, dAdd_tup, dIB_int, dLt_int, dLt_str, dEq_int, dEq_str, dNe_int, dNe_str, lenD_tup, lenD_rl, lenD_str, dMulA_int, dSl_str, ixN3_0, ixN3_1, ixN3_2, List.set_cons_zero, List.set_cons_succ, rAbs_int, rMin_int, rMax_int, rMin_str, rMax_str, dIx_wr, lenD_wr, atI_0, atI_1, atI_2, dIx_tup, dIx_rl, dIx_str, Option.some.injEq, exists_eq_left', decide_true, decide_false, eq_self, ite_true, ite_false, if_true, if_false, true_and, and_true, Bool.false_eq_true, Bool.not_true, Bool.not_false, Nat.reduceAdd, Nat.reduceSub, tTuple, tTupleX, dIs_non, dIs_bl, DL.isNon, dIn_str1, isi_str, isi_tup, isi_tx, isi_int, isi_rl, isi_bl, isi_non])
open PR KH
structure ShA (k n : Nat) (d : D) : Prop where
  flat : flatD d = true
  dep : (toPy d).depth ≤ k
  shw : Shw d n
theorem ShA.le {k n k' n' : Nat} {d : D} (h : ShA k n d) (l : k ≤ k') (l2 : n ≤ n') : ShA k' n' d := ⟨h.flat, Nat.le_trans h.dep l, h.shw.le l2⟩
theorem rRepr_any {d : D} {n : Nat} {M : Mem} {Q : QE} (h : ShA 64 n d) (hn : n ≤ sizeLine) (q : Q (.str (shD d)) M) : rRepr [d] M Q :=
  ⟨toPy d, PD.of d h.flat, h.shw.1, Nat.le_trans h.shw.2 hn, h.dep, q⟩
def sumN (xs : List (D × Nat)) : Nat := (xs.map fun p => p.2 + 2).sum
theorem shA_row {k : Nat} {xs : List (D × Nat)} (h : ∀ p ∈ xs, ShA k p.2 p.1) : flatDL (xs.map Prod.fst) = true ∧ PyData.depthAll (toPyL (xs.map Prod.fst)) ≤ k ∧ PyData.showableAll (toPyL (xs.map Prod.fst)) = true ∧ piled (PyData.shownAll (toPyL (xs.map Prod.fst))) ≤ sumN xs := by
  induction xs with
  | nil => exact ⟨rfl, Nat.zero_le _, by unfold toPyL; rw [List.map_nil, PyData.showableAll], by rw [List.map_nil]; unfold toPyL; rw [PyData.shownAll]; exact Nat.zero_le _⟩
  | cons p xs ih =>
    have h1 := h p (by simp)
    obtain ⟨a, b, c, d⟩ := ih fun y hy => h y (by simp [hy])
    obtain ⟨s1, s2⟩ := h1.shw
    rw [List.map_cons]
    refine ⟨by unfold flatDL; rw [h1.flat, a]; rfl, by unfold toPyL; rw [PyData.depthAll]; have := h1.dep; omega, by unfold toPyL; rw [PyData.showableAll, s1, c]; rfl, ?_⟩
    unfold toPyL
    rw [PyData.shownAll, piled_cons]
    have e : sumN (p :: xs) = (p.2 + 2) + sumN xs := by unfold sumN; rw [List.map_cons, List.sum_cons]
    omega
theorem sumN_le {n : Nat} {xs : List (D × Nat)} (h : ∀ p ∈ xs, p.2 ≤ n) : sumN xs ≤ xs.length * (n + 2) := by
  induction xs with
  | nil => exact Nat.zero_le _
  | cons p xs ih =>
    have e : sumN (p :: xs) = (p.2 + 2) + sumN xs := by unfold sumN; rw [List.map_cons, List.sum_cons]
    have h1 := h p (by simp)
    have h2 := ih fun y hy => h y (by simp [hy])
    rw [e, List.length_cons, Nat.succ_mul]
    omega
theorem shA_rls {k : Nat} {xs : List (D × Nat)} (h : ∀ p ∈ xs, ShA k p.2 p.1) : ShA (k + 1) (sumN xs + 2) (.rl (xs.map Prod.fst)) := by
  obtain ⟨a, b, c, d⟩ := shA_row h
  refine ⟨by unfold flatD; exact a, by unfold toPy; rw [PyData.depth]; omega, by unfold toPy; rw [PyData.showable]; exact c, ?_⟩
  unfold toPy
  rw [PyData.shown]
  unfold listText
  have := textFrom_le (PyData.shownAll (toPyL (xs.map Prod.fst))) 0 "["
  have e1 : ((("[" : String) : Str)).length = 1 := rfl
  have e3 : ((("]" : String) : Str)).length = 1 := rfl
  rw [strLen_append]
  omega
theorem pair_fst {n : Nat} (xs : List D) : (xs.map fun x => (x, n)).map Prod.fst = xs := by rw [List.map_map]; exact List.map_id _
theorem sumN_const {n : Nat} (xs : List D) : sumN (xs.map fun x => (x, n)) ≤ xs.length * (n + 2) := by
  refine Nat.le_trans (sumN_le (n := n) fun p hp => ?_) (by rw [List.length_map]; exact Nat.le_refl _)
  obtain ⟨x, _, rfl⟩ := List.mem_map.mp hp
  exact Nat.le_refl _
theorem row_const {k n : Nat} {xs : List D} (h : ∀ x ∈ xs, ShA k n x) : ∀ p ∈ xs.map (fun x => (x, n)), ShA k p.2 p.1 := fun p hp => by
  obtain ⟨x, hx, rfl⟩ := List.mem_map.mp hp
  exact h x hx
theorem shA_rl {k n : Nat} {xs : List D} (h : ∀ x ∈ xs, ShA k n x) : ShA (k + 1) (xs.length * (n + 2) + 2) (.rl xs) := by
  have := shA_rls (row_const h)
  rw [pair_fst] at this
  exact this.le (Nat.le_refl _) (Nat.add_le_add_right (sumN_const xs) 2)
end KA


namespace KM
open PySem PySem.Spec PyProof.Rows L2 DL
local macro_rules | `(tactic| walk_at "dl") => `(tactic| simp only [wSs, wS, DL.wE, DL.wT, DL.wL, wEs, wO, wC, wI, wG, wGs, dSeq, dAsg, dPar, dIf, dDrop, dSlot, dC, CD.d, dBin, boR, coR, dSub, dMod, dFdiv, dTest, dChain, bQ, dNext, dRet, dRetN, dFzK, dFrzK, dDisp, dPairs, DL.wDs, dgName, dgSub, dgTup, dgCons, dgNil, dLst, dTup, dTupX, dAug, dItX, dLz, dDz, dgTup2, dLenS, dSrI, diZip, diZipR, dCons, dNil, dIfE, dAndT, dOrT, dNotT, dAnd, dOr, dNot, dTruth, dTru_non, dTru_bl, dTru_int, dTru_str, dTru_tup, dTru_rl, dNeg, dSlice, dNoPart, dPart, dCall, dMt, dFnN, dMth, dFld, dSfl, dFz, dLcF, dNew, dNewD, dNewDT, dNewK, dLenK, dSrtS, dLkE, dLkS, dLsR, dTpR, dEqO, dLnO, bolQ, rIsiO, dSliS, dSlS, dRevX, dgHead, dFrz, dForget, isTy, isIns, BF.rd, BT.rd, BM.rd, BM.ty, BF.rt, BT.rt, IEs.len, startD, getS, setS, wipeS, endB, tb, List.getD_cons_zero, List.getD_cons_succ, List.map_cons, List.map_nil, List.replicate, List.length_cons, List.length_nil, List.cons_append, List.nil_append, List.append_nil, dI_int, dAdd_int, dAdd_str, dAdd_tup, dIB_int, dLt_int, dLt_str, dEq_int, dEq_str, dNe_int, dNe_str, lenD_tup, lenD_rl, lenD_str, dMulA_int, dSl_str, ixN3_0, ixN3_1, ixN3_2, List.set_cons_zero, List.set_cons_succ, rAbs_int, rMin_int, rMax_int, rMin_str, rMax_str, dIx_wr, lenD_wr, atI_0, atI_1, atI_2, dIx_tup, dIx_rl, dIx_str, Option.some.injEq, exists_eq_left', decide_true, decide_false, eq_self, ite_true, ite_false, if_true, if_false, true_and, and_true, Bool.false_eq_true, Bool.not_true, Bool.not_false, Nat.reduceAdd, Nat.reduceSub, tTuple, tTupleX, dIs_non, dIs_bl, DL.isNon, dIn_str1, isi_str, isi_tup, isi_tx, isi_int, isi_rl, isi_bl, isi_non])
open PR K10 KH KA
def seq4 (d : D) (xs : List D) : Prop := d = .rl xs ∨ d = .tup xs ∨ d = .tx xs ∨ ∃ z : Str, d = .str z ∧ xs = DL.signs z
def spOf : DSp := fun ds M Q E => ∃ (h c : Addr) (n : Int) (s : D) (xs : List D), ds = [.ref h, s] ∧ seq4 s xs ∧ xs ≠ [] ∧ xs.length ≤ 100000 ∧ Pot M h c n ∧ n < 2 ^ 40 ∧ ∀ d ∈ xs, ∀ M', Pot M' h c (n + 1) → PotF h c M M' → Q d M'
theorem law_of (ds : List D) (M : Mem) (Q : QE) (E : EX) (H : spOf ds M Q E) : wSs (tb [KM.spTake] [] []) ir__law_of (endB Q) E (startD 2 ds) M := by
  obtain ⟨h, c, n, s, xs, rfl, hs, hne, hl, hP, hn, q⟩ := H
  have s24 : sizeLine = 2 ^ 24 := rfl
  have hp : 0 < xs.length := List.length_pos_iff.mpr hne
  unfold ir__law_of
  rcases hs with rfl | rfl | rfl | ⟨z, rfl, rfl⟩
  · walk_at "dl"
    refine ⟨h, c, n, _, rfl, by omega, by omega, hP, hn, fun r M' h0 h1 hP' f => ?_⟩
    obtain ⟨j, rfl⟩ : ∃ j : Nat, r = (j : Int) := ⟨r.toNat, by omega⟩
    have hj : j < xs.length := by omega
    walk_at "dl"
    exact ⟨_, atI_nat hj, _, Sub.refl, q _ (List.getElem_mem hj) _ hP' f⟩
  · walk_at "dl"
    refine ⟨h, c, n, _, rfl, by omega, by omega, hP, hn, fun r M' h0 h1 hP' f => ?_⟩
    obtain ⟨j, rfl⟩ : ∃ j : Nat, r = (j : Int) := ⟨r.toNat, by omega⟩
    have hj : j < xs.length := by omega
    walk_at "dl"
    exact ⟨_, atI_nat hj, _, Sub.refl, q _ (List.getElem_mem hj) _ hP' f⟩
  · walk_at "dl"
    refine ⟨h, c, n, _, rfl, by omega, by omega, hP, hn, fun r M' h0 h1 hP' f => ?_⟩
    obtain ⟨j, rfl⟩ : ∃ j : Nat, r = (j : Int) := ⟨r.toNat, by omega⟩
    have hj : j < xs.length := by omega
    try walk_at "dl"
    exact ⟨_, atI_nat hj, _, Sub.refl, q _ (List.getElem_mem hj) _ hP' f⟩
  · rw [signs_len] at hp hl
    walk_at "dl"
    refine ⟨by omega, h, c, n, _, rfl, by omega, by omega, hP, hn, fun r M' h0 h1 hP' f => ?_⟩
    obtain ⟨j, rfl⟩ : ∃ j : Nat, r = (j : Int) := ⟨r.toNat, by omega⟩
    have hj : j < z.cps.toList.length := by
      have : z.length = z.cps.toList.length := rfl
      omega
    walk_at "dl"
    refine ⟨by omega, _, atI_nat hj, _, Sub.refl, q _ ?_ _ hP' f⟩
    unfold DL.signs
    exact List.mem_map_of_mem (List.getElem_mem hj)
theorem sub_lay {M0 M : Mem} {p : Addr} {o : MO} (h : Sub M0 M) (hp : M0 p = none) : Sub M0 (wr M p o) := fun b u e => by
  rw [wr_ne fun z => by rw [z, hp] at e; cases e]
  exact h _ _ e
theorem cut_to {xs : List Int} {k : Nat} : cutG (xs.map D.int) none (some (k : Int)) = (xs.take k).map D.int := by
  unfold cutG
  rw [HT.sIx_none, HT.sIx_nat, List.length_map, List.drop_zero, Nat.sub_zero, ← List.map_take]
  congr 1
  rcases Nat.le_total k xs.length with z | z
  · rw [Nat.min_eq_left z]
  · rw [Nat.min_eq_right z, List.take_of_length_le z, List.take_length]
theorem cut63 {xs : List Int} : cutG (xs.map D.int) none (some (63 : Int)) = (xs.take 63).map D.int := cut_to (k := 63)
abbrev ab (x : Int) : Int := if x < 0 then -x else x
theorem enum_ints (cs : List Int) : (enumD (cs.map D.int)).map D.tup = cs.zipIdx.map fun x => D.tup [.int (x.2 : Nat), .int x.1] := by
  unfold enumD
  rw [List.map_map]
  refine List.ext_getElem (by simp) fun i h1 h2 => ?_
  have hi : i < cs.length := by simpa using h1
  simp [List.getD, List.getElem?_eq_getElem hi]
def spPot : DSp := fun ds M Q E => ∃ ns : List Int, ds = [.rl (ns.map D.int)] ∧ ns.length ≤ 100000 ∧ ∀ h c M', M h = none → M c = none → Sub M M' → Pot M' h c 0 → Q (.ref h) M'
def ptR : ISs := (.cons (.ret (.lst (.cons (.lc [("_law_cell", 3)] (.nm 3) (.any (.fz (.sli (.sl 0) .no (.yes (.lit (.int 63)))))) (.yes (.cmp .GtE (.cb .abs (.sl 3) .nil) (.bin .Pow (.lit (.int 10)) (.lit (.int 18))))) (.bin .Mod (.cb .abs (.sl 3) .nil) (.bin .Pow (.bin .Pow (.lit (.int 10)) (.lit (.int 60))) (.lit (.int 12))))) (.cons (.sl 1) (.cons (.lit (.int 0)) .nil)))))
  .nil)
section
variable {T : Tb} {Q : QE} {E : EX} {M : Mem} {ns : List Int} {b : Int} {x2 x3 : Option D}
theorem pt_rest (hl : ns.length ≤ 100000) (b0 : 0 ≤ b) (b1 : b < 2305843009213693951) (q : ∀ h c M', M h = none → M c = none → Sub M M' → Pot M' h c 0 → Q (.ref h) M') : wSs T ptR (endB Q) E [some (.rl (ns.map D.int)), some (.int b), x2, x3] M := by
  have s24 : sizeLine = 2 ^ 24 := rfl
  have p18 : CPowG 10 18 := ⟨by decide, by decide +kernel⟩
  have p60 : CPowG 10 60 := ⟨by decide, by decide +kernel⟩
  have p12 : CPowG (10 ^ Int.toNat 60) 12 := ⟨by decide, by decide +kernel⟩
  unfold ptR
  walk_at "dl"
  refine lcT (ns.take 63) D.int (fun x => decide ((10 : Int) ^ Int.toNat 18 ≤ ab x)) (fun x => .int (ab x % (10 ^ Int.toNat 60) ^ Int.toNat 12)) (fun R hh => ?_) (by rw [List.length_take]; omega) (fun x hx K N h1 h2 => ?_) ?_
  · unfold diAny
    walk_at "dl"
    intro p hp
    rw [cut63]
    refine ⟨_, wr_same, ?_⟩
    rw [mdel_wr hp]
    exact hh (fun _ => True) trivial
  · walk_at "dl"
    refine ⟨p18, ?_⟩
    by_cases z : (10 : Int) ^ Int.toNat 18 ≤ ab x
    · have e : decide ((10 : Int) ^ Int.toNat 18 ≤ ab x) = true := decide_eq_true z
      rw [e, if_pos rfl]
      exact ⟨p60, p12, by decide, h1 e⟩
    · have e : decide ((10 : Int) ^ Int.toNat 18 ≤ ab x) = false := decide_eq_false z
      rw [e, if_neg (by simp)]
      exact h2 e
  · intro p hp
    refine ⟨by omega, fun p1 hp1 => ⟨_, Sub.refl, ?_⟩⟩
    obtain ⟨ne, hp2⟩ := wr_fresh hp1
    generalize hcs : (ns.take 63).filter (fun x => decide ((10 : Int) ^ Int.toNat 18 ≤ ab x)) = cs
    have hl2 : cs.length ≤ 63 := by
      rw [← hcs]
      exact Nat.le_trans (List.length_filter_le _ _) (by rw [List.length_take]; omega)
    have em : cs.map (fun x => D.int (ab x % (10 ^ Int.toNat 60) ^ Int.toNat 12)) = (cs.map fun x => ab x % (10 ^ Int.toNat 60) ^ Int.toNat 12).map D.int := by rw [List.map_map]; rfl
    refine q p1 p _ hp2 hp (sub_lay (sub_wr hp) hp2) ⟨cs.map fun x => ab x % (10 ^ Int.toNat 60) ^ Int.toNat 12, b, 0, wr_same, ?_, fun x hx => ?_, by rw [List.length_map]; exact hl2, b0, b1, by omega, by omega⟩
    · rw [wr_ne ne.symm, ← em]
      exact wr_same
    · obtain ⟨y, _, rfl⟩ := List.mem_map.mp hx
      exact Int.emod_nonneg _ (by decide +kernel)
theorem law_pot (ds : List D) (H : spPot ds M Q E) : wSs T ir__law_pot (endB Q) E (startD 4 ds) M := by
  obtain ⟨ns, rfl, hl, q⟩ := H
  have s24 : sizeLine = 2 ^ 24 := rfl
  have est : startD 4 [.rl (ns.map D.int)] = [some (.rl (ns.map D.int)), none, none, none] := rfl
  rw [est]
  clear est
  have rest := fun b x2 x3 b0 b1 => pt_rest (T := T) (E := E) (M := M) (b := b) (x2 := x2) (x3 := x3) hl b0 b1 q
  unfold ir__law_pot lp__law_pot_0
  show dSeq _ (dSeq _ (wSs T ptR)) _ _ _ _
  generalize wSs T ptR = K at rest ⊢
  walk_at "dl"
  refine forI (ns.take 63).zipIdx (fun x => D.tup [.int (x.2 : Nat), .int x.1]) (fun rr e' M' => M' = M ∧ ∃ b x2 x3, e' = [some (.rl (ns.map D.int)), some (.int b), x2, x3] ∧ 0 ≤ b ∧ b < 2305843009213693951 ∧ ∀ x ∈ rr, x.2 < 63) (fun R hh => ?_) ⟨rfl, 6841, _, _, rfl, by omega, by omega, fun x hx => ?_⟩ ?_ ?_
  · unfold diEnum
    walk_at "dl"
    intro p hp
    rw [cut63]
    refine ⟨_, wr_same, ?_⟩
    rw [mdel_wr hp]
    rw [enum_ints]
    exact hh (fun _ => True) fun _ _ _ _ => trivial
  · have := List.snd_lt_of_mem_zipIdx hx
    rw [List.length_take] at this
    omega
  · rintro ⟨x, j⟩ rr e' M' _ ⟨rfl, b, x2, x3, rfl, b0, b1, hj⟩
    have hj2 := hj (x, j) (by simp)
    dsimp only at hj2
    walk_at "dl"
    refine ⟨cm_left (by omega), by omega, cm_left (by omega), by omega, _, _, _, rfl, Int.emod_nonneg _ (by omega), Int.emod_lt_of_pos _ (by omega), fun y hy => hj y (by simp [hy])⟩
  · rintro e' M' ⟨rfl, b, x2, x3, rfl, b0, b1, _⟩
    exact rest b x2 x3 b0 b1
end
end KM


namespace KL
open PySem PySem.Spec PyProof.Rows L2 DL
local macro_rules | `(tactic| walk_at "dl") => `(tactic| simp only [wSs, wS, DL.wE, DL.wT, DL.wL, wEs, wO, wC, wI, wG, wGs, dSeq, dAsg, dPar, dIf, dDrop, dSlot, dC, CD.d, dBin, boR, coR, dSub, dMod, dFdiv, dTest, dChain, bQ, dNext, dRet, dRetN, dFzK, dFrzK, dDisp, dPairs, DL.wDs, dgName, dgSub, dgTup, dgCons, dgNil, dLst, dTup, dTupX, dAug, dItX, dLz, dDz, dgTup2, dLenS, dSrI, diZip, diZipR, dCons, dNil, dIfE, dAndT, dOrT, dNotT, dAnd, dOr, dNot, dTruth, dTru_non, dTru_bl, dTru_int, dTru_str, dTru_tup, dTru_rl, dNeg, dSlice, dNoPart, dPart, dCall, dMt, dFnN, dMth, dFld, dSfl, dFz, dLcF, dNew, dNewD, dNewDT, dNewK, dLenK, dSrtS, dLkE, dLkS, dLsR, dTpR, dEqO, dLnO, bolQ, rIsiO, dSliS, dSlS, dRevX, dgHead, dFrz, dForget, isTy, isIns, BF.rd, BT.rd, BM.rd, BM.ty, BF.rt, BT.rt, IEs.len, startD, getS, setS, wipeS, endB, tb, List.getD_cons_zero, List.getD_cons_succ, List.map_cons, List.map_nil, List.replicate, List.length_cons, List.length_nil, List.cons_append, List.nil_append, List.append_nil, dI_int, dAdd_int, dAdd_str, dAdd_tup, dIB_int, dLt_int, dLt_str, dEq_int, dEq_str, dNe_int, dNe_str, lenD_tup, lenD_rl, lenD_str, dMulA_int, dSl_str, ixN3_0, ixN3_1, ixN3_2, List.set_cons_zero, List.set_cons_succ, rAbs_int, rMin_int, rMax_int, rMin_str, rMax_str, dIx_wr, lenD_wr, atI_0, atI_1, atI_2, dIx_tup, dIx_rl, dIx_str, Option.some.injEq, exists_eq_left', decide_true, decide_false, eq_self, ite_true, ite_false, if_true, if_false, true_and, and_true, Bool.false_eq_true, Bool.not_true, Bool.not_false, Nat.reduceAdd, Nat.reduceSub, tTuple, tTupleX, dIs_non, dIs_bl, DL.isNon, dIn_str1, isi_str, isi_tup, isi_tx, isi_int, isi_rl, isi_bl, isi_non])
open PR K10
def spLaw : DSp := fun ds M Q E => ∃ ns : List Int, ds = [.rl (ns.map D.int)] ∧ ns.length ≤ 100000 ∧ ∀ M', Q (.bl true) M'
end KL


namespace KM
open PySem PySem.Spec PyProof.Rows L2 DL
local macro_rules | `(tactic| walk_at "dl") => `(tactic| simp only [wSs, wS, DL.wE, DL.wT, DL.wL, wEs, wO, wC, wI, wG, wGs, dSeq, dAsg, dPar, dIf, dDrop, dSlot, dC, CD.d, dBin, boR, coR, dSub, dMod, dFdiv, dTest, dChain, bQ, dNext, dRet, dRetN, dFzK, dFrzK, dDisp, dPairs, DL.wDs, dgName, dgSub, dgTup, dgCons, dgNil, dLst, dTup, dTupX, dAug, dItX, dLz, dDz, dgTup2, dLenS, dSrI, diZip, diZipR, dCons, dNil, dIfE, dAndT, dOrT, dNotT, dAnd, dOr, dNot, dTruth, dTru_non, dTru_bl, dTru_int, dTru_str, dTru_tup, dTru_rl, dNeg, dSlice, dNoPart, dPart, dCall, dMt, dFnN, dMth, dFld, dSfl, dFz, dLcF, dNew, dNewD, dNewDT, dNewK, dLenK, dSrtS, dLkE, dLkS, dLsR, dTpR, dEqO, dLnO, bolQ, rIsiO, dSliS, dSlS, dRevX, dgHead, dFrz, dForget, isTy, isIns, BF.rd, BT.rd, BM.rd, BM.ty, BF.rt, BT.rt, IEs.len, startD, getS, setS, wipeS, endB, tb, List.getD_cons_zero, List.getD_cons_succ, List.map_cons, List.map_nil, List.replicate, List.length_cons, List.length_nil, List.cons_append, List.nil_append, List.append_nil, dI_int, dAdd_int, dAdd_str, dAdd_tup, dIB_int, dLt_int, dLt_str, dEq_int, dEq_str, dNe_int, dNe_str, lenD_tup, lenD_rl, lenD_str, dMulA_int, dSl_str, ixN3_0, ixN3_1, ixN3_2, List.set_cons_zero, List.set_cons_succ, rAbs_int, rMin_int, rMax_int, rMin_str, rMax_str, dIx_wr, lenD_wr, atI_0, atI_1, atI_2, dIx_tup, dIx_rl, dIx_str, Option.some.injEq, exists_eq_left', decide_true, decide_false, eq_self, ite_true, ite_false, if_true, if_false, true_and, and_true, Bool.false_eq_true, Bool.not_true, Bool.not_false, Nat.reduceAdd, Nat.reduceSub, tTuple, tTupleX, dIs_non, dIs_bl, DL.isNon, dIn_str1, isi_str, isi_tup, isi_tx, isi_int, isi_rl, isi_bl, isi_non])
open PR K10 KH KA
def tbF (a b c : D) : List (Str × D) := [("sizes", a), ("tables", b), ("held", c)]
def TbAt (C : Addr) (M : Mem) (t : Addr) (a b c : D) : Prop := M t = some (.ins C (tbF a b c))
def spTbInit (C : Addr) : DSp := fun ds M Q E => ∃ (x : Addr) (a b c : D), ds = [.ref x, a, b, c] ∧ M x = some (.ins C []) ∧ Q .non (wr M x (.ins C (tbF a b c)))
def spTables (C : Addr) : DSp := fun ds M Q E => ∃ (a b c : D), ds = [a, b, c] ∧ ∀ x, M x = none → Q (.ref x) (wr M x (.ins C (tbF a b c)))
def spTablesK (C : Addr) : DSp := fun ds M Q E => ∃ (a b c : D), ds = [c, a, b] ∧ ∀ x, M x = none → Q (.ref x) (wr M x (.ins C (tbF a b c)))
theorem tb_make (C : Addr) {ds cs : List D} {M : Mem} {Q : QE} {E : EX} (hd : ds.length = 3) (hc : cs.length = 0) (h : spTables C (ds ++ cs) M Q E) (x : Addr) (hx : M x = none) : spTbInit C (gI [0, 1, 2, 3] ((.ref x :: ds) ++ cs)) (wr M x (.ins C [])) (fun v M' => v = .non ∧ Q (.ref x) M') E :=
  match ds, hd, cs, hc with
  | [d1, d2, d3], _, [], _ => by
    obtain ⟨a, b, c, e, q⟩ := h
    injection e with e1 e
    injection e with e2 e
    injection e with e3 e
    subst e1 e2 e3
    refine ⟨x, _, _, _, rfl, wr_same, rfl, ?_⟩
    rw [DL.wr_wr]
    exact q x hx
theorem tb_makeK (C : Addr) {ds cs : List D} {M : Mem} {Q : QE} {E : EX} (hd : ds.length = 0) (hc : cs.length = 3) (h : spTablesK C (ds ++ cs) M Q E) (x : Addr) (hx : M x = none) : spTbInit C (gI [0, 2, 3, 1] ((.ref x :: ds) ++ cs)) (wr M x (.ins C [])) (fun v M' => v = .non ∧ Q (.ref x) M') E :=
  match ds, hd, cs, hc with
  | [], _, [d1, d2, d3], _ => by
    obtain ⟨a, b, c, e, q⟩ := h
    injection e with e1 e
    injection e with e2 e
    injection e with e3 e
    subst e1 e2 e3
    refine ⟨x, _, _, _, rfl, wr_same, rfl, ?_⟩
    rw [DL.wr_wr]
    exact q x hx
theorem tb_init (C : Addr) (ds : List D) (M : Mem) (Q : QE) (E : EX) (H : spTbInit C ds M Q E) : wSs (tb [] [] [C]) ir_Tables___init__ (endB Q) E (startD 4 ds) M := by
  obtain ⟨x, a, b, c, rfl, hM, q⟩ := H
  have s24 : sizeLine = 2 ^ 24 := rfl
  unfold ir_Tables___init__
  walk_at "dl"
  refine ⟨_, hM, by decide, _, wr_same, by show 1 < 1000; omega, _, wr_same, by show 2 < 1000; omega, _, Sub.refl, ?_⟩
  rw [DL.wr_wr, DL.wr_wr]
  exact q
def spTbEq (C : Addr) : DSp := fun ds M Q E => ∃ (t : Addr) (a b c x : D), ds = [.ref t, x] ∧ TbAt C M t a b c ∧
  ((∃ t' a' b' c', x = .ref t' ∧ TbAt C M t' a' b' c' ∧ goodL [a, b, c] 60 = true ∧ goodL [a', b', c'] 60 = true ∧ ∀ r : Bool, (r = true ↔ [a, b, c] = [a', b', c']) → Q (.bl r) M) ∨ ((∃ T, T ∈ bltTys ∧ hasTy M x T) ∧ Q (.bl false) M))
theorem good_tup {xs : List D} (h : goodL xs 60 = true) : good (.tup xs) 64 = true := by
  unfold good
  exact goodL_all.mpr fun x hx => good_mono (n := 60) (m := 63) (goodL_all.mp h x hx) (by decide)
theorem good_rl {xs : List D} (h : goodL xs 60 = true) : good (.rl xs) 64 = true := by
  unfold good
  exact goodL_all.mpr fun x hx => good_mono (n := 60) (m := 63) (goodL_all.mp h x hx) (by decide)
theorem tb_eq (C : Addr) (ds : List D) (M : Mem) (Q : QE) (E : EX) (H : spTbEq C ds M Q E) : wSs (tb [] [] [C]) ir_Tables___eq__ (endB Q) E (startD 2 ds) M := by
  obtain ⟨t, a, b, c, x, rfl, h1, h⟩ := H
  have h1 : M t = some (.ins C (tbF a b c)) := h1
  have s24 : sizeLine = 2 ^ 24 := rfl
  unfold ir_Tables___eq__
  walk_at "dl"
  rcases h with ⟨t', a', b', c', rfl, h2, g1, g2, q⟩ | ⟨hT, q⟩
  · have h2 : M t' = some (.ins C (tbF a' b' c')) := h2
    refine .inl ⟨⟨_, h2⟩, ?_⟩
    walk_at "dl"
    refine ⟨_, _, h1, rfl, _, _, h1, rfl, _, _, h1, rfl, by omega, _, _, h2, rfl, _, _, h2, rfl, _, _, h2, rfl, by omega, ?_⟩
    refine dEq_good (good_tup g1) (good_tup g2) fun r hr => ⟨M, Sub.refl, q r ?_⟩
    rw [hr]
    exact ⟨fun e => D.tup.inj e, fun e => by rw [e]⟩
  · exact .inr ⟨hT, M, Sub.refl, q⟩
def partS : List D := [.tup [.int 2, .int 1], .tup [.int 0, .int 1], .tup [], .tup [.tup [.int 0, .int 1], .tup [.int 1]], .tup [.tup [.int 0, .int 1], .tup [.int 0]], .tup [.int 1], .tup [.int 2], .non, .str "a", .rl [.int 1], .tup [.int (10 ^ Int.toNat 8)]]
def spPart : DSp := fun ds M Q E => ∃ (h c : Addr) (n : Int), ds = [.ref h] ∧ Pot M h c n ∧ n < 2 ^ 40 ∧ ∀ d ∈ partS, ∀ M', Pot M' h c (n + 1) → PotF h c M M' → Q d M'
theorem law_part (ds : List D) (M : Mem) (Q : QE) (E : EX) (H : spPart ds M Q E) : wSs (tb [spOf] [] []) ir__law_part (endB Q) E (startD 2 ds) M := by
  obtain ⟨h, c, n, rfl, hP, hn, q⟩ := H
  have s24 : sizeLine = 2 ^ 24 := rfl
  have p8 : CPowG 10 8 := ⟨by decide, by decide +kernel⟩
  unfold ir__law_part
  walk_at "dl"
  refine ⟨by omega, by omega, by omega, by omega, by omega, by omega, by omega, by omega, by omega, by omega, by omega, by omega, fun p hp => ⟨_, wr_same, ?_⟩⟩
  rw [mdel_wr hp]
  refine ⟨p8, by omega, by omega, fun p hp => ⟨_, wr_same, ?_⟩⟩
  rw [mdel_wr hp]
  exact ⟨h, c, n, _, partS, rfl, .inl rfl, by decide, by decide, hP, hn, fun d hd M' hP' f => ⟨_, Sub.refl, q d hd M' hP' f⟩⟩
theorem part_good : ∀ d ∈ partS, good d 50 = true := by decide +kernel
theorem part_ty : ∀ d ∈ partS, ∃ T, T ∈ bltTys ∧ ∀ M, hasTy M d T := fun d hd => by
  simp only [partS, List.mem_cons, List.not_mem_nil, or_false] at hd
  rcases hd with rfl | rfl | rfl | rfl | rfl | rfl | rfl | rfl | rfl | rfl | rfl
  all_goals first
    | exact ⟨"tuple", by decide, fun _ => rfl⟩
    | exact ⟨"NoneType", by decide, fun _ => rfl⟩
    | exact ⟨"str", by decide, fun _ => rfl⟩
    | exact ⟨"list", by decide, fun _ => rfl⟩
theorem part_sh : ∀ d ∈ partS, ShA 10 100 d := by
  have key : ∀ d ∈ partS, flatD d = true ∧ (toPy d).depth ≤ 10 ∧ (toPy d).showable = true ∧ (toPy d).shown.length ≤ 100 := by decide +kernel
  intro d hd
  obtain ⟨h1, h2, h3, h4⟩ := key d hd
  exact ⟨h1, h2, ⟨h3, h4⟩⟩
end KM


namespace KM
open PySem PySem.Spec PyProof.Rows L2 DL
local macro_rules | `(tactic| walk_at "dl") => `(tactic| simp only [wSs, wS, DL.wE, DL.wT, DL.wL, wEs, wO, wC, wI, wG, wGs, dSeq, dAsg, dPar, dIf, dDrop, dSlot, dC, CD.d, dBin, boR, coR, dSub, dMod, dFdiv, dTest, dChain, bQ, dNext, dRet, dRetN, dFzK, dFrzK, dDisp, dPairs, DL.wDs, dgName, dgSub, dgTup, dgCons, dgNil, dLst, dTup, dTupX, dAug, dItX, dLz, dDz, dgTup2, dLenS, dSrI, diZip, diZipR, dCons, dNil, dIfE, dAndT, dOrT, dNotT, dAnd, dOr, dNot, dTruth, dTru_non, dTru_bl, dTru_int, dTru_str, dTru_tup, dTru_rl, dNeg, dSlice, dNoPart, dPart, dCall, dMt, dFnN, dMth, dFld, dSfl, dFz, dLcF, dNew, dNewD, dNewDT, dNewK, dLenK, dSrtS, dLkE, dLkS, dLsR, dTpR, dEqO, dLnO, bolQ, rIsiO, dSliS, dSlS, dRevX, dgHead, dFrz, dForget, isTy, isIns, BF.rd, BT.rd, BM.rd, BM.ty, BF.rt, BT.rt, IEs.len, startD, getS, setS, wipeS, endB, tb, List.getD_cons_zero, List.getD_cons_succ, List.map_cons, List.map_nil, List.replicate, List.length_cons, List.length_nil, List.cons_append, List.nil_append, List.append_nil, dI_int, dAdd_int, dAdd_str, dAdd_tup, dIB_int, dLt_int, dLt_str, dEq_int, dEq_str, dNe_int, dNe_str, lenD_tup, lenD_rl, lenD_str, dMulA_int, dSl_str, ixN3_0, ixN3_1, ixN3_2, List.set_cons_zero, List.set_cons_succ, rAbs_int, rMin_int, rMax_int, rMin_str, rMax_str, dIx_wr, lenD_wr, atI_0, atI_1, atI_2, dIx_tup, dIx_rl, dIx_str, Option.some.injEq, exists_eq_left', decide_true, decide_false, eq_self, ite_true, ite_false, if_true, if_false, true_and, and_true, Bool.false_eq_true, Bool.not_true, Bool.not_false, Nat.reduceAdd, Nat.reduceSub, tTuple, tTupleX, dIs_non, dIs_bl, DL.isNon, dIn_str1, isi_str, isi_tup, isi_tx, isi_int, isi_rl, isi_bl, isi_non])
open PR K10 KH KA
def tE : ISs := (.frz 4 (.cons (.par 9 10 (.cal 0 (.cons (.ix (.sl 3) (.lit (.int 0))) (.cons (.ix (.sl 3) (.lit (.int 1))) (.cons (.ix (.sl 3) (.lit (.int 2))) .nil))) .nil) (.cal 1 .nil (.cons (.ix (.sl 4) (.lit (.int 2))) (.cons (.ix (.sl 4) (.lit (.int 0))) (.cons (.ix (.sl 4) (.lit (.int 1))) .nil)))))
  (.cons (.iff (.cmp .NotEq (.cb .repr (.fz (.lst (.cons (.fld 0 "sizes" (.sl 9)) (.cons (.fld 0 "tables" (.sl 9)) (.cons (.fld 0 "held" (.sl 9)) .nil))))) .nil) (.cb .repr (.sl 3) .nil)) (.cons (.ret (.lit (.bl false)))
  .nil) .nil)
  (.cons (.iff (.cmp .NotEq (.cb .repr (.fz (.lst (.cons (.fld 0 "sizes" (.sl 10)) (.cons (.fld 0 "tables" (.sl 10)) (.cons (.fld 0 "held" (.sl 10)) .nil))))) .nil) (.cb .repr (.sl 4) .nil)) (.cons (.ret (.lit (.bl false)))
  .nil) .nil)
  (.cons (.asg (.nm 5) (.cmp .Eq (.sl 3) (.sl 4)))
  (.cons (.iff (.orE (.cmp .NotEq (.eqO false 0 0 "Tables" (.sl 9) (.sl 10)) (.sl 5)) (.orE (.cmp .Eq (.eqO true 0 0 "Tables" (.sl 9) (.sl 10)) (.sl 5)) (.one (.nt (.eqO false 0 0 "Tables" (.sl 9) (.sl 9)))))) (.cons (.ret (.lit (.bl false)))
  .nil) .nil)
  (.cons lp_law_0
  .nil)))))))
def tB : ISs := (.cons (.asg (.nm 3) (.lcF (.lc [("_law_k", 11)] (.nm 11) (.rg1 (.lit (.int 3))) .no (.cal 2 (.cons (.sl 1) .nil) .nil))))
  (.cons (.asg (.nm 4) (.ct .list (.sl 3) .nil))
  (.cons (.par 7 8 (.cal 3 (.cons (.sl 1) (.cons (.lit (.int 3)) .nil)) .nil) (.cal 3 (.cons (.sl 1) (.cons (.lit (.int 3)) .nil)) .nil))
  (.cons (.iff (.cmp .Gt (.sl 8) (.lit (.int 0))) (.cons (.sto (.sl 4) (.sl 7) (.cal 2 (.cons (.sl 1) .nil) .nil))
  .nil) .nil)
  tE))))
theorem lp1_eq : lp_law_1 = .fo (.nm 2) (.rg1 (.lit (.int 12))) tB := rfl
abbrev tbL (C : Addr) : Tb := tb [spTables C, spTablesK C, spPart, KM.spTake, spPot] [spTbEq C] [C]
def isS (sc : D) (h : Addr) (x2 x3 x4 x5 x6 x7 x8 x9 x10 x11 : Option D) : Sl := [some sc, some (.ref h), x2, x3, x4, x5, x6, x7, x8, x9, x10, x11]
section
variable {Q : QE} {E : EX} {M : Mem} {C h c po : Addr} {n : Int} {sc : D} {x2 x5 x6 x7 x8 x9 x10 x11 : Option D} {a0 a1 a2 b0 b1 b2 : D} {N B Ct : Sl → Mem → Prop} {Qr : QE}
theorem three_good (h0 : a0 ∈ partS) (h1 : a1 ∈ partS) (h2 : a2 ∈ partS) : goodL [a0, a1, a2] 60 = true := goodL_all.mpr fun x hx => by
  simp only [List.mem_cons, List.not_mem_nil, or_false] at hx
  rcases hx with rfl | rfl | rfl
  · exact good_mono (part_good _ h0) (by decide)
  · exact good_mono (part_good _ h1) (by decide)
  · exact good_mono (part_good _ h2) (by decide)
theorem three_sh (h0 : a0 ∈ partS) (h1 : a1 ∈ partS) (h2 : a2 ∈ partS) : ShA 64 1000 (.rl [a0, a1, a2]) := by
  have := shA_rl (k := 10) (n := 100) (xs := [a0, a1, a2]) fun x hx => by
    simp only [List.mem_cons, List.not_mem_nil, or_false] at hx
    rcases hx with rfl | rfl | rfl
    · exact part_sh _ h0
    · exact part_sh _ h1
    · exact part_sh _ h2
  exact this.le (by omega) (by simp)
theorem t_end (hP : Pot M h c n) (ho : M po = some (.lst [b0, b1, b2])) (np : po ≠ h ∧ po ≠ c) (h0 : a0 ∈ partS) (h1 : a1 ∈ partS) (h2 : a2 ∈ partS) (g0 : b0 ∈ partS) (g1 : b1 ∈ partS) (g2 : b2 ∈ partS)
    (q : ∀ x2 x3 x4 x5 x6 x7 x8 x9 x10 x11 M', Pot M' h c n → N (isS sc h x2 x3 x4 x5 x6 x7 x8 x9 x10 x11) M') :
    wSs (tbL C) tE ⟨N, Qr, B, Ct⟩ E (isS sc h x2 (some (.rl [a0, a1, a2])) (some (.ref po)) x5 x6 x7 x8 x9 x10 x11) M := by
  have s24 : sizeLine = 2 ^ 24 := rfl
  have ga := three_good h0 h1 h2
  have gb := three_good g0 g1 g2
  have sa := three_sh h0 h1 h2
  have sb := three_sh g0 g1 g2
  have r1 : ∀ {Q : QE} {M : Mem}, Q (.str (shD (.rl [a0, a1, a2]))) M → rRepr [.rl [a0, a1, a2]] M Q := fun q => rRepr_any sa (by omega) q
  have r2 : ∀ {Q : QE} {M : Mem}, Q (.str (shD (.rl [b0, b1, b2]))) M → rRepr [.rl [b0, b1, b2]] M Q := fun q => rRepr_any sb (by omega) q
  have nn : ∀ (z : Str), decide (z = z) = true := fun z => decide_eq_true rfl
  have hP0 : Pot (mdel M po) h c n := hP.of (by unfold mdel; rw [if_neg np.1.symm]) (by unfold mdel; rw [if_neg np.2.symm])
  unfold tE isS
  unfold isS at q
  generalize shD (.rl [a0, a1, a2]) = z1 at *
  generalize shD (.rl [b0, b1, b2]) = z2 at *
  walk_at "dl"
  refine ⟨_, ho, ?_⟩
  generalize mdel M po = M0 at hP0 ⊢
  walk_at "dl"
  refine ⟨a0, a1, a2, rfl, fun t1 ht1 => ⟨b0, b1, b2, rfl, fun t2 ht2 => ?_⟩⟩
  obtain ⟨ne, ht3⟩ := wr_fresh ht2
  have k1 : wr (wr M0 t1 (.ins C (tbF a0 a1 a2))) t2 (.ins C (tbF b0 b1 b2)) t1 = some (.ins C (tbF a0 a1 a2)) := by rw [wr_ne ne.symm]; exact wr_same
  have k2 : wr (wr M0 t1 (.ins C (tbF a0 a1 a2))) t2 (.ins C (tbF b0 b1 b2)) t2 = some (.ins C (tbF b0 b1 b2)) := wr_same
  have hP2 : Pot (wr (wr M0 t1 (.ins C (tbF a0 a1 a2))) t2 (.ins C (tbF b0 b1 b2))) h c n := (hP0.new ht1).new ht2
  generalize wr (wr M0 t1 (.ins C (tbF a0 a1 a2))) t2 (.ins C (tbF b0 b1 b2)) = M2 at k1 k2 hP2 ⊢
  refine ⟨_, _, k1, rfl, _, _, k1, rfl, _, _, k1, rfl, by omega, fun p hp => ⟨_, wr_same, ?_⟩⟩
  rw [mdel_wr hp]
  refine r1 (r1 ?_)
  rw [dNe_str, nn z1]
  walk_at "dl"
  refine ⟨_, _, k2, rfl, _, _, k2, rfl, _, _, k2, rfl, by omega, fun p hp => ⟨_, wr_same, ?_⟩⟩
  rw [mdel_wr hp]
  refine r2 (r2 ?_)
  rw [dNe_str, nn z2]
  walk_at "dl"
  refine dEq_good (good_rl ga) (good_rl gb) fun du hdu => ?_
  have same : ∀ r : Bool, (r = true ↔ [a0, a1, a2] = [b0, b1, b2]) → r = du := fun r hr => by
    rw [Bool.eq_iff_iff, hr, hdu]
    exact ⟨fun e => by rw [e], fun e => D.rl.inj e⟩
  have he : ∀ {K : QE}, K (.bl du) M2 → spTbEq C [.ref t1, .ref t2] M2 K E := fun {K} hk => ⟨t1, a0, a1, a2, .ref t2, rfl, k1, .inl ⟨t2, b0, b1, b2, rfl, k2, ga, gb, fun r hr => by rw [same r hr]; exact hk⟩⟩
  have hs : ∀ {K : QE}, K (.bl true) M2 → spTbEq C [.ref t1, .ref t1] M2 K E := fun {K} hk => ⟨t1, a0, a1, a2, .ref t1, rfl, k1, .inl ⟨t1, a0, a1, a2, rfl, k1, ga, ga, fun r hr => by rw [hr.mpr rfl]; exact hk⟩⟩
  have hx : ∀ {x : D} {K : QE}, (∃ T, T ∈ bltTys ∧ hasTy M2 x T) → K (.bl false) M2 → spTbEq C [.ref t1, x] M2 K E := fun {x K} hT hk => ⟨t1, a0, a1, a2, x, rfl, k1, .inr ⟨hT, hk⟩⟩
  have o1 : isOwn C (.ref t1) M2 := ⟨_, k1⟩
  have o2 : isOwn C (.ref t2) M2 := ⟨_, k2⟩
  have ne_bl : ∀ {b : Bool} {K : QE}, K (.bl false) M2 → dNe (.bl b) (.bl b) M2 K := fun {b K} hk => by
    show K (.bl (!decide (b = b))) M2
    rw [decide_eq_true rfl]; exact hk
  have eq_bl : ∀ {b : Bool} {K : QE}, K (.bl false) M2 → dEq (.bl (!b)) (.bl b) M2 K := fun {b K} hk => by
    show K (.bl (decide ((!b) = b))) M2
    rw [decide_eq_false (by cases b <;> simp)]; exact hk
  refine ⟨o1, .inl o2, he (ne_bl ?_)⟩
  walk_at "dl"
  refine ⟨o1, .inl o2, he (eq_bl ?_)⟩
  walk_at "dl"
  refine ⟨o1, .inl o1, hs ?_⟩
  walk_at "dl"
  unfold lp_law_0
  walk_at "dl"
  refine forGo ?_
  unfold diAny
  walk_at "dl"
  refine ⟨by omega, ?_⟩
  refine forK (live := fun _ => True) [D.tup [a0, a1, a2], .rl [a0, a1, a2], .non, .int 0, .str "", a0] id (fun rr e' M' => ∃ x6, e' = [some sc, some (.ref h), x2, some (.rl [a0, a1, a2]), some (.rl [b0, b1, b2]), some (.bl du), x6, x7, x8, some (.ref t1), some (.ref t2), x11] ∧ M' = M2 ∧ ∀ x ∈ rr, ∃ T, T ∈ bltTys ∧ hasTy M2 x T) (fun _ _ _ _ => trivial) ⟨x6, rfl, rfl, fun x hx2 => ?_⟩ ?_ ?_
  · simp only [List.mem_cons, List.not_mem_nil, or_false] at hx2
    rcases hx2 with rfl | rfl | rfl | rfl | rfl | rfl
    · exact ⟨"tuple", by decide, rfl⟩
    · exact ⟨"list", by decide, rfl⟩
    · exact ⟨"NoneType", by decide, rfl⟩
    · exact ⟨"int", by decide, rfl⟩
    · exact ⟨"str", by decide, rfl⟩
    · obtain ⟨T, hT, hh⟩ := part_ty _ h0
      exact ⟨T, hT, hh _⟩
  · rintro x rr e' M' _ ⟨x6, rfl, rfl, hm⟩
    have hT := hm x (by simp)
    walk_at "dl"
    refine ⟨o1, .inr hT, hx hT ?_⟩
    walk_at "dl"
    refine ⟨o1, .inr hT, hx hT ?_⟩
    walk_at "dl"
    exact ⟨_, rfl, fun y hy => hm y (by simp [hy])⟩
  · rintro e' M' ⟨x6, rfl, rfl, hm⟩
    exact q _ _ _ _ _ _ _ _ _ _ _ hP2
theorem t_all (hP : Pot M h c n) (hn : n < 2 ^ 39) {x3 x4 : Option D} (q : ∀ x2 x3 x4 x5 x6 x7 x8 x9 x10 x11 M', Pot M' h c (n + 6) → N (isS sc h x2 x3 x4 x5 x6 x7 x8 x9 x10 x11) M') :
    wSs (tbL C) tB ⟨N, Qr, B, Ct⟩ E (isS sc h x2 x3 x4 x5 x6 x7 x8 x9 x10 x11) M := by
  have s24 : sizeLine = 2 ^ 24 := rfl
  have fin := fun M1 n1 po a0 a1 a2 b0 b1 b2 x5 x6 x7 x8 x9 x10 x11 (hP1 : Pot M1 h c n1) (l : n1 ≤ n + 6) ho np h0 h1 h2 g0 g1 g2 => t_end (C := C) (E := E) (N := N) (B := B) (Ct := Ct) (Qr := Qr) (sc := sc) (x2 := x2) (x5 := x5) (x6 := x6) (x7 := x7) (x8 := x8) (x9 := x9) (x10 := x10) (x11 := x11) (M := M1) (po := po) (a0 := a0) (a1 := a1) (a2 := a2) (b0 := b0) (b1 := b1) (b2 := b2) hP1 ho np h0 h1 h2 g0 g1 g2 (fun x2 x3 x4 x5 x6 x7 x8 x9 x10 x11 M' hP' => q x2 x3 x4 x5 x6 x7 x8 x9 x10 x11 M' (hP'.le l))
  unfold tB
  show dSeq _ (dSeq _ (dSeq _ (dSeq _ (wSs (tbL C) tE)))) _ _ _ _
  generalize wSs (tbL C) tE = K at fin ⊢
  unfold isS at fin ⊢
  walk_at "dl"
  refine lcGo ?_
  unfold diRng1
  walk_at "dl"
  refine ⟨by omega, ?_⟩
  have er : rng 0 (Int.toNat 3) = (List.range 3).map fun i : Nat => D.int (i : Int) := rng0
  rw [er]
  refine lcK (live := fun _ => True) (List.range 3) (fun i : Nat => D.int (i : Int)) (fun r acc M' => acc.length + r.length = 3 ∧ (∀ d ∈ acc, d ∈ partS) ∧ Pot M' h c (n + acc.length)) (fun _ _ _ _ => trivial) ⟨rfl, fun _ hh => (nomatch hh), by simpa using hP⟩ ?_ ?_
  · rintro i r acc M' _ ⟨hl, hm, hP'⟩
    rw [List.length_cons] at hl
    unfold dYes
    walk_at "dl"
    refine ⟨h, c, _, rfl, hP', by omega, fun d hd M2 hP2 _ => ⟨by omega, by rw [List.length_append, List.length_singleton]; omega, fun y hy => ?_, ?_⟩⟩
    · rcases List.mem_append.mp hy with hy | hy
      · exact hm y hy
      · rw [List.mem_singleton] at hy; subst hy; exact hd
    · rw [List.length_append, List.length_singleton]
      have e : (n + ((acc.length + 1 : Nat) : Int)) = n + acc.length + 1 := by omega
      rw [e]
      exact hP2
  · rintro acc M1 ⟨hl, hm, hP1⟩
    rw [List.length_nil, Nat.add_zero] at hl
    match acc, hl with
    | [a0, a1, a2], _ =>
      have h0 := hm a0 (by simp)
      have h1 := hm a1 (by simp)
      have h2 := hm a2 (by simp)
      intro po hpo
      have np : po ≠ h ∧ po ≠ c := by
        obtain ⟨cs, b, k, e1, e2, _⟩ := id hP1
        exact ⟨fun z => (by subst z; rw [e1] at hpo; cases hpo), fun z => (by subst z; rw [e2] at hpo; cases hpo)⟩
      refine ⟨h, c, _, 3, rfl, by omega, by omega, hP1.new hpo, by simp only [List.length_cons, List.length_nil]; omega, fun at_ M2 u1 u2 hP2 f2 => ?_⟩
      refine ⟨h, c, _, 3, rfl, by omega, by omega, hP2, by simp only [List.length_cons, List.length_nil]; omega, fun way M3 v1 v2 hP3 f3 => ?_⟩
      have ho3 : M3 po = some (.lst [a0, a1, a2]) := by rw [f3 _ np.1 np.2, f2 _ np.1 np.2]; exact wr_same
      simp only [List.length_cons, List.length_nil] at hP3
      walk_at "dl"
      by_cases hw : 0 < way
      · rw [decide_eq_true hw]
        walk_at "dl"
        refine ⟨h, c, _, rfl, hP3, by omega, fun d hd M4 hP4 f4 => ?_⟩
        have ho4 : M4 po = some (.lst [a0, a1, a2]) := by rw [f4 _ np.1 np.2]; exact ho3
        refine (dSet_ref ho4).mpr ?_
        have hk : at_ = 0 ∨ at_ = 1 ∨ at_ = 2 := by omega
        have hP5 : ∀ o, Pot (wr M4 po o) h c (n + 6) := fun o => (hP4.of (wr_ne np.1.symm) (wr_ne np.2.symm)).le (by omega)
        rcases hk with rfl | rfl | rfl
        · exact ⟨0, rfl, fin _ _ po a0 a1 a2 d a1 a2 _ _ _ _ _ _ _ (hP5 _) (Int.le_refl _) wr_same np h0 h1 h2 hd h1 h2⟩
        · exact ⟨1, rfl, fin _ _ po a0 a1 a2 a0 d a2 _ _ _ _ _ _ _ (hP5 _) (Int.le_refl _) wr_same np h0 h1 h2 h0 hd h2⟩
        · exact ⟨2, rfl, fin _ _ po a0 a1 a2 a0 a1 d _ _ _ _ _ _ _ (hP5 _) (Int.le_refl _) wr_same np h0 h1 h2 h0 h1 hd⟩
      · rw [decide_eq_false hw]
        walk_at "dl"
        exact fin M3 _ po a0 a1 a2 a0 a1 a2 _ _ _ _ _ _ _ hP3 (by omega) ho3 np h0 h1 h2 h0 h1 h2
theorem law_law75 (C : Addr) (ds : List D) (M : Mem) (Q : QE) (E : EX) (H : KL.spLaw ds M Q E) : wSs (tbL C) ir_law (endB Q) E (startD 12 ds) M := by
  obtain ⟨ns, rfl, hl, q⟩ := H
  have s24 : sizeLine = 2 ^ 24 := rfl
  have est : startD 12 [.rl (ns.map D.int)] = [some (.rl (ns.map D.int)), none, none, none, none, none, none, none, none, none, none, none] := rfl
  rw [est]
  clear est
  have turn := fun h c M1 n N B Ct Qr x2 x3 x4 x5 x6 x7 x8 x9 x10 x11 hP hn k => t_all (C := C) (E := E) (h := h) (c := c) (M := M1) (n := n) (N := N) (B := B) (Ct := Ct) (Qr := Qr) (sc := .rl (ns.map D.int)) (x2 := x2) (x3 := x3) (x4 := x4) (x5 := x5) (x6 := x6) (x7 := x7) (x8 := x8) (x9 := x9) (x10 := x10) (x11 := x11) hP hn k
  unfold ir_law
  rw [lp1_eq]
  show dSeq _ (dSeq (dFor (wI (tbL C) _) (wG _) (wSs (tbL C) tB)) _) _ _ _ _
  generalize wSs (tbL C) tB = K at turn ⊢
  unfold isS at turn
  walk_at "dl"
  refine ⟨ns, rfl, hl, fun h c M1 nh nc hs hP => ?_⟩
  refine forGo ?_
  unfold diRng1
  walk_at "dl"
  refine ⟨by omega, ?_⟩
  have er : rng 0 (Int.toNat 12) = (List.range 12).map fun i : Nat => D.int (i : Int) := rng0
  rw [er]
  refine forK (live := fun _ => True) (List.range 12) (fun i : Nat => D.int (i : Int)) (fun rr e' M' => ∃ n x2 x3 x4 x5 x6 x7 x8 x9 x10 x11, e' = [some (.rl (ns.map D.int)), some (.ref h), x2, x3, x4, x5, x6, x7, x8, x9, x10, x11] ∧ Pot M' h c n ∧ n + 6 * (rr.length : Int) ≤ 72) (fun _ _ _ _ => trivial) ⟨0, none, none, none, none, none, none, none, none, none, none, rfl, hP, by simp⟩ ?_ ?_
  · rintro i rr e' M' _ ⟨n, x2, x3, x4, x5, x6, x7, x8, x9, x10, x11, rfl, hP', hn⟩
    rw [List.length_cons] at hn
    walk_at "dl"
    refine turn h c M' n _ _ _ _ _ _ _ _ _ _ _ _ _ _ hP' (by omega) fun x2 x3 x4 x5 x6 x7 x8 x9 x10 x11 M2 hP2 => ⟨_, _, _, _, _, _, _, _, _, _, _, rfl, hP2, by omega⟩
  · rintro e' M' ⟨n, x2, x3, x4, x5, x6, x7, x8, x9, x10, x11, rfl, hP', hn⟩
    walk_at "dl"
    exact ⟨M', Sub.refl, q M'⟩
end
end KM

namespace K75
open PySem PySem.Spec PyProof.Rows L2 DL
def c_Tables___init__ : Cc := ⟨defScope (sub (top 1) 0), ["self", "sizes", "tables", "held"], [], [], [(0, "held"), (0, "tables"), (0, "sizes")], [], [], false⟩
theorem sc_Tables___init__ : scB c_Tables___init__ ["self", "sizes", "tables", "held"] = true := by decide +kernel
theorem ck_Tables___init__ : chkSs KM.ir_Tables___init__ c_Tables___init__ (defBody (sub (top 1) 0)) = true := by decide +kernel
def c_Tables___eq__ : Cc := ⟨defScope (sub (top 1) 1), ["self", "other"], [], [], [(0, "held"), (0, "tables"), (0, "sizes")], [], [(0, "Tables")], false⟩
theorem sc_Tables___eq__ : scB c_Tables___eq__ ["self", "other"] = true := by decide +kernel
theorem ck_Tables___eq__ : chkSs KM.ir_Tables___eq__ c_Tables___eq__ (defBody (sub (top 1) 1)) = true := by decide +kernel
def c__law_pot : Cc := ⟨defScope (top 3), ["_law_script", "_law_seed", "_law_k", "_law_cell"], [], [], [], [], [], false⟩
theorem sc__law_pot : scB c__law_pot ["_law_script"] = true := by decide +kernel
theorem ck__law_pot : chkSs KM.ir__law_pot c__law_pot (defBody (top 3)) = true := by decide +kernel
def c__law_take : Cc := ⟨defScope (top 4), ["_law_pot_here", "_law_many", "_law_turn", "_law_mixed", "_law_digit"], [], [], [], [], [], false⟩
theorem sc__law_take : scB c__law_take ["_law_pot_here", "_law_many"] = true := by decide +kernel
theorem ck__law_take : chkSs KM.ir__law_take c__law_take (defBody (top 4)) = true := by decide +kernel
def c__law_of : Cc := ⟨defScope (top 5), ["_law_pot_here", "_law_some"], [("_law_take", 2, [])], [], [], [], [], false⟩
theorem sc__law_of : scB c__law_of ["_law_pot_here", "_law_some"] = true := by decide +kernel
theorem ck__law_of : chkSs KM.ir__law_of c__law_of (defBody (top 5)) = true := by decide +kernel
def c__law_part : Cc := ⟨defScope (top 6), ["_law_pot_here", "_law_some"], [("_law_of", 2, [])], [], [], [], [], false⟩
theorem sc__law_part : scB c__law_part ["_law_pot_here"] = true := by decide +kernel
theorem ck__law_part : chkSs KM.ir__law_part c__law_part (defBody (top 6)) = true := by decide +kernel
def c_law : Cc := ⟨defScope (top 7), ["_law_script", "_law_pot_here", "_law_turn", "_law_three", "_law_others", "_law_due", "_law_odd", "_law_at", "_law_way", "_law_one", "_law_other", "_law_k"], [("Tables", 3, []), ("Tables", 0, ["held", "sizes", "tables"]), ("_law_part", 1, []), ("_law_take", 2, []), ("_law_pot", 1, [])], [(0, "__eq__", 1, [])], [(0, "held"), (0, "tables"), (0, "sizes")], [], [(0, "Tables")], false⟩
theorem sc_law : scB c_law ["_law_script"] = true := by decide +kernel
theorem ck_law : chkSs KM.ir_law c_law (defBody (top 7)) = true := by decide +kernel
end K75

namespace K75
open PySem PySem.Spec PyProof.Rows L2 DL
open PR K10 KM
structure Hd (K : PySem.W.Frag) (mg : Str → Option Value) : Prop where
  free : ∀ n ∈ freeNames, mg n = none
  has : ∀ d ∈ fn, ∃ fd, HasD K d fd
  glo : ∀ d ∈ fn, d.at_ = (d.name, none) → mg d.name = some (.ref (He.fAd K d.at_))
  cls0 : Cls K (He.ga K "Tables")
  noat0 : ∀ f ∈ flds0, NoAttr K (He.ga K "Tables") f
  mkr0 : Mk K (He.ga K "Tables") (He.ma K (He.ga K "Tables") "__init__")
  keep0 : PySem.W.keepIn K (.ref (He.ga K "Tables")) = true
  gl0 : mg "Tables" = some (.ref (He.ga K "Tables"))
  it0 : InsT K (He.ga K "Tables")
  ox0 : OwnX K (He.ga K "Tables")
  meth0___eq__ : Meth K (He.ga K "Tables") "__eq__" (He.ma K (He.ga K "Tables") "__eq__")
section
variable {P : Program} {w : World} {K : PySem.W.Frag} {mg : Str → Option Value} {base : Heap}
theorem G_Tables___init__ (B : Hd K mg) : GlobOk P w K mg base 2 "Tables" 3 [] (KM.spTables (He.ga K "Tables")) := by
  obtain ⟨fd, h⟩ := B.has d_Tables___init__ (List.mem_of_getElem? (i := 0) rfl)
  have F := mkG (P := P) (w := w) (mg := mg) (base := base) (k := 0) (c := c_Tables___init__) (ir := KM.ir_Tables___init__) (ps := ["self", "sizes", "tables", "held"]) h rfl sc_Tables___init__ rfl ck_Tables___init__ (fun ds M Q E ⟨_, _, _, _, e, _⟩ => by rw [e]; rfl) (tab_of (gs := []) (ms := []) (cs := [(He.ga K "Tables")]) B.free trivial trivial trivial ⟨⟨B.cls0, B.noat0 _ (by decide)⟩, ⟨B.cls0, B.noat0 _ (by decide)⟩, ⟨B.cls0, B.noat0 _ (by decide)⟩, trivial⟩ trivial) (KM.tb_init (He.ga K "Tables"))
  refine ⟨_, B.gl0, B.keep0, ?_⟩
  refine callOk_mk B.mkr0 B.it0 F (kbd_plain h 4 [] [0, 1, 2, 3] ?_) ?_
  · intro kV doc pm an cdv ct us ws l1 l2
    match us, l1, ws, l2 with
    | [_, _, _, _], _, [], _ => rfl
  · intro ds cs M Q E l1 l2 q x hx
    exact KM.tb_make (He.ga K "Tables") l1 l2 q x hx
theorem G_Tables___init___kw (B : Hd K mg) : GlobOk P w K mg base 2 "Tables" 0 ["held", "sizes", "tables"] (KM.spTablesK (He.ga K "Tables")) := by
  obtain ⟨fd, h⟩ := B.has d_Tables___init__ (List.mem_of_getElem? (i := 0) rfl)
  have F := mkG (P := P) (w := w) (mg := mg) (base := base) (k := 0) (c := c_Tables___init__) (ir := KM.ir_Tables___init__) (ps := ["self", "sizes", "tables", "held"]) h rfl sc_Tables___init__ rfl ck_Tables___init__ (fun ds M Q E ⟨_, _, _, _, e, _⟩ => by rw [e]; rfl) (tab_of (gs := []) (ms := []) (cs := [(He.ga K "Tables")]) B.free trivial trivial trivial ⟨⟨B.cls0, B.noat0 _ (by decide)⟩, ⟨B.cls0, B.noat0 _ (by decide)⟩, ⟨B.cls0, B.noat0 _ (by decide)⟩, trivial⟩ trivial) (KM.tb_init (He.ga K "Tables"))
  refine ⟨_, B.gl0, B.keep0, ?_⟩
  refine callOk_mk B.mkr0 B.it0 F (kbd_plain h 1 ["held", "sizes", "tables"] [0, 2, 3, 1] ?_) ?_
  · intro kV doc pm an cdv ct us ws l1 l2
    match us, l1, ws, l2 with
    | [_], _, [_, _, _], _ => rfl
  · intro ds cs M Q E l1 l2 q x hx
    exact KM.tb_makeK (He.ga K "Tables") l1 l2 q x hx
theorem G_Tables___eq__ (B : Hd K mg) : MethOk P w K mg base 1 (He.ga K "Tables") "__eq__" 1 [] (KM.spTbEq (He.ga K "Tables")) := by
  obtain ⟨fd, h⟩ := B.has d_Tables___eq__ (List.mem_of_getElem? (i := 1) rfl)
  have F := mkG (P := P) (w := w) (mg := mg) (base := base) (k := 0) (c := c_Tables___eq__) (ir := KM.ir_Tables___eq__) (ps := ["self", "other"]) h rfl sc_Tables___eq__ rfl ck_Tables___eq__ (fun ds M Q E ⟨_, _, _, _, _, e, _⟩ => by rw [e]; rfl) (tab_of (gs := []) (ms := []) (cs := [(He.ga K "Tables")]) B.free trivial trivial trivial ⟨⟨B.cls0, B.noat0 _ (by decide)⟩, ⟨B.cls0, B.noat0 _ (by decide)⟩, ⟨B.cls0, B.noat0 _ (by decide)⟩, trivial⟩ ⟨⟨by decide +kernel, B.gl0, B.it0, B.ox0⟩, trivial⟩) (KM.tb_eq (He.ga K "Tables"))
  refine ⟨_, B.cls0, B.meth0___eq__, callOk_fn F (kbd_plain h 2 [] (List.range 2) fun kV doc pm an cdv ct us ws l1 l2 => ?_) fun ds cs M Q E l1 l2 q => ?_⟩
  · match us, l1, ws, l2 with
    | [_, _], _, [], _ => rfl
  · have : cs = [] := List.length_eq_zero_iff.mp l2
    subst this
    unfold gI
    rw [List.append_nil] at q ⊢
    have l1' : ds.length = 2 := l1
    rw [← l1', range_all]
    exact q
theorem G__law_pot (B : Hd K mg) : GlobOk P w K mg base 1 "_law_pot" 1 [] (KM.spPot) := by
  obtain ⟨fd, h⟩ := B.has d__law_pot (List.mem_of_getElem? (i := 2) rfl)
  exact glob_plain h rfl (B.glo d__law_pot (List.mem_of_getElem? (i := 2) rfl) rfl) (mkG (k := 0) (c := c__law_pot) (ir := KM.ir__law_pot) (ps := ["_law_script"]) h rfl sc__law_pot rfl ck__law_pot (fun ds M Q E ⟨_, e, _⟩ => by rw [e]; rfl) (tab_of (gs := []) (ms := []) (cs := []) B.free trivial trivial trivial trivial trivial) (fun ds M Q E H => KM.law_pot ds H)) (fun kV doc pm an cdv ct us ws l1 l2 => match us, l1, ws, l2 with | [_], _, [], _ => rfl)
theorem G__law_take (B : Hd K mg) : GlobOk P w K mg base 1 "_law_take" 2 [] (KM.spTake) := by
  obtain ⟨fd, h⟩ := B.has d__law_take (List.mem_of_getElem? (i := 3) rfl)
  exact glob_plain h rfl (B.glo d__law_take (List.mem_of_getElem? (i := 3) rfl) rfl) (mkG (k := 0) (c := c__law_take) (ir := KM.ir__law_take) (ps := ["_law_pot_here", "_law_many"]) h rfl sc__law_take rfl ck__law_take (fun ds M Q E ⟨_, _, _, _, e, _⟩ => by rw [e]; rfl) (tab_of (gs := []) (ms := []) (cs := []) B.free trivial trivial trivial trivial trivial) (KM.law_take _)) (fun kV doc pm an cdv ct us ws l1 l2 => match us, l1, ws, l2 with | [_, _], _, [], _ => rfl)
theorem G__law_of (B : Hd K mg) : GlobOk P w K mg base 2 "_law_of" 2 [] (KM.spOf) := by
  obtain ⟨fd, h⟩ := B.has d__law_of (List.mem_of_getElem? (i := 4) rfl)
  exact glob_plain h rfl (B.glo d__law_of (List.mem_of_getElem? (i := 4) rfl) rfl) (mkG (k := 1) (c := c__law_of) (ir := KM.ir__law_of) (ps := ["_law_pot_here", "_law_some"]) h rfl sc__law_of rfl ck__law_of (fun ds M Q E ⟨_, _, _, _, _, e, _⟩ => by rw [e]; rfl) (tab_of (gs := [KM.spTake]) (ms := []) (cs := []) B.free trivial ⟨by decide +kernel, (G__law_take B).mono (by decide), trivial⟩ trivial trivial trivial) (KM.law_of)) (fun kV doc pm an cdv ct us ws l1 l2 => match us, l1, ws, l2 with | [_, _], _, [], _ => rfl)
theorem G__law_part (B : Hd K mg) : GlobOk P w K mg base 3 "_law_part" 1 [] (KM.spPart) := by
  obtain ⟨fd, h⟩ := B.has d__law_part (List.mem_of_getElem? (i := 5) rfl)
  exact glob_plain h rfl (B.glo d__law_part (List.mem_of_getElem? (i := 5) rfl) rfl) (mkG (k := 2) (c := c__law_part) (ir := KM.ir__law_part) (ps := ["_law_pot_here"]) h rfl sc__law_part rfl ck__law_part (fun ds M Q E ⟨_, _, _, e, _⟩ => by rw [e]; rfl) (tab_of (gs := [KM.spOf]) (ms := []) (cs := []) B.free trivial ⟨by decide +kernel, (G__law_of B).mono (by decide), trivial⟩ trivial trivial trivial) (KM.law_part)) (fun kV doc pm an cdv ct us ws l1 l2 => match us, l1, ws, l2 with | [_], _, [], _ => rfl)
theorem F_law (B : Hd K mg) {fd : FuncData} (h : HasD K d_law fd) : FnG P w K mg base 4 (He.fAd K d_law.at_) fd ["_law_script"] (KL.spLaw) := mkG (k := 3) (c := c_law) (ir := KM.ir_law) (ps := ["_law_script"]) h rfl sc_law rfl ck_law (fun ds M Q E ⟨_, e, _⟩ => by rw [e]; rfl) (tab_of (gs := [KM.spTables (He.ga K "Tables"), KM.spTablesK (He.ga K "Tables"), KM.spPart, KM.spTake, KM.spPot]) (ms := [KM.spTbEq (He.ga K "Tables")]) (cs := [(He.ga K "Tables")]) B.free trivial ⟨by decide +kernel, (G_Tables___init__ B).mono (by decide), by decide +kernel, (G_Tables___init___kw B).mono (by decide), by decide +kernel, (G__law_part B).mono (by decide), by decide +kernel, (G__law_take B).mono (by decide), by decide +kernel, (G__law_pot B).mono (by decide), trivial⟩ ⟨(G_Tables___eq__ B).mono (by decide), trivial⟩ ⟨⟨B.cls0, B.noat0 _ (by decide)⟩, ⟨B.cls0, B.noat0 _ (by decide)⟩, ⟨B.cls0, B.noat0 _ (by decide)⟩, trivial⟩ ⟨⟨by decide +kernel, B.gl0, B.it0, B.ox0⟩, trivial⟩) (KM.law_law75 (He.ga K "Tables"))
end
end K75

namespace K75
open PySem PySem.Spec PyProof.Rows L2 DL
open PR K10 KM
theorem hd_of {K : PySem.W.Frag} {h : Heap} {mg : Str → Option Value} (X : K.In h) (G : h.Ns mainGlobals mg) (c0 : DL.SaysX fa fn ex K) : Hd K mg := by
  have c := c0.1
  have cx : ((insB "Tables" K && ownB "Tables" K)) = true := c0.2
  have fm : ∀ i (a : He.Fa), fa[i]? = some a → a.ok K = true := fun i a e => c.facts (List.mem_of_getElem? e)
  have j0 := cx
  obtain ⟨i0, o0⟩ := Bool.and_eq_true_iff.mp j0
  refine ⟨free_of X G c fun n hn => List.mem_append_right _ (List.mem_map_of_mem hn), fun d hd => has_of (h := h) c hd, fun d hd hat => ?_, He.cls_ok (fm 1 _ rfl), fun f hf => He.noat_ok (c.facts ?_), He.mkr_ok (fm 2 _ rfl), He.keep_ok (fm 3 _ rfl), He.glo_ok X G (fm 0 _ rfl), insB_ok i0 (He.cls_ok (fm 1 _ rfl)), ownB_ok o0, He.meth_ok (fm 4 _ rfl)⟩
  · have : He.Fa.glo d.name ∈ fa := List.mem_append_left _ (List.mem_append_right _ (List.mem_map.mpr ⟨d, List.mem_filter.mpr ⟨hd, by rw [hat]; rfl⟩, rfl⟩))
    have e := He.glo_ok X G (c.facts this)
    rw [hat]
    exact e
  · exact List.mem_append_left _ (List.mem_append_left _ (List.mem_append_right _ (List.mem_map_of_mem hf)))
end K75

namespace K75
open PySem PySem.Spec PyProof.Rows L2 DL
open PR K10 KM
theorem facts {P : Program} {w : World} {K : PySem.W.Frag} {h : Heap} {mg : Str → Option Value} {f : Addr} (X : K.In h) (G : h.Ns mainGlobals mg) (hfa : mg ("law" : Str) = some (.ref f)) (c : DL.SaysX fa fn ex K) :
    ∃ fd : FuncData, (∀ (s : Shared) (v : Value), BindsTo s fd ⟨[v], []⟩ [("_law_script", v)]) ∧ ∀ base : Heap, K.In base → base.Ns mainGlobals mg → FnG P w K mg base 4 f fd ["_law_script"] KL.spLaw := by
  have B := hd_of X G c
  have hm : d_law ∈ fn := List.mem_of_getElem? (i := 6) rfl
  obtain ⟨fd, hd⟩ := B.has d_law hm
  have eg : mg ("law" : Str) = some (.ref (He.fAd K d_law.at_)) := B.glo d_law hm rfl
  have efa : f = He.fAd K d_law.at_ := Value.ref.inj (Option.some.inj (hfa.symm.trans eg))
  rw [efa]
  exact ⟨fd, fun s v => FunD.bindsA (ps := ["_law_script"]) hd (fun kV doc pm an cdv ct us hl => match us, hl with | [_], _ => rfl) s [v] rfl, fun base _ _ => F_law B hd⟩
end K75

open PySem PySem.W PySem.Calls PyProof.Rows
theorem PySem.Challenge.cw_putinproofs_k75_tables_alike_holds : PySem.Challenge.rw_putinproofs_k75_tables_alike.Holds := by
  w_on; o_law
  refine HandSHeadRun.head_any (r := OpenLaw.row PySem.Challenge.rw_putinproofs_k75_tables_alike) (q := view (OpenLaw.row PySem.Challenge.rw_putinproofs_k75_tables_alike).prog [7]) (H := K75.hk) (ob := K75.ob) (M := 12000) (loose := K75.lo) (d := HandSHeadRun.topDef (OpenLaw.row PySem.Challenge.rw_putinproofs_k75_tables_alike).prog 7) (kwd := []) K75.ob_eq
    (by kernel_rfl) (fun s => by kernel_rfl) K75.run (by kernel_rfl) (by kernel_rfl) (by kernel_rfl) (by rfl) (by first | assumption | decide +kernel) (by decide +kernel) ⟨rfl, rfl, rfl, rfl, rfl, by decide +kernel⟩ ?hw ?hc
  case hw => w_witness2
  case hc =>
    refine DL.walkG (l := PySem.Challenge.rw_putinproofs_k75_tables_alike) (n := 63) (k := 4) (x := "_law_script") rfl (by decide) (by kernel_rfl) ⟨rfl, by decide, by decide⟩ ?F
    intro w mg fa h Y G hmg0
    obtain ⟨K, KX, c⟩ := Y
    have hmg : mg ("law" : PySem.Str) = some (.ref fa) := by
      have e : (HandSHeadRun.topDef (OpenLaw.row PySem.Challenge.rw_putinproofs_k75_tables_alike).prog 7).name = ("law" : PySem.Str) := by kernel_rfl
      rw [← e]
      exact hmg0
    obtain ⟨fd, hb, hF⟩ := K75.facts (P := (PySem.Challenge.rw_putinproofs_k75_tables_alike).prog) (w := w) KX G hmg c
    exact ⟨K, fd, KL.spLaw, KX, hb, fun ns hl => ⟨ns, rfl, Nat.le_trans hl (by decide), fun _ => rfl⟩, hF⟩

