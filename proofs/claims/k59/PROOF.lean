import PyProof.Rows.All
import Wide.All
import OpenK.AllK
import Wide.FinOn
import HandS.ExcInit
import HandS.ExcField
import HandS.Words
import HandS.HeadHook1
import HandS.HeadHook2
import HandS.HeadHook3
import HandS.HeadHook4
import KE.KIsAll
import HandS.ForMost
import HandS.ExcValue
import HandS.Wide
import HandS.IsInst
import HandS.CallSlots
import HandS.Exc
import HandS.TupAny
import HandS.Style
import HandS.More
import HandS.Iter
import HandS.Defaults
import HandS.ExcOwn
import HandS.TryMany
import HandS.WordsExc
import HandS.Comp
import KE.GoesEnum
import HandS.Lambda
import HandS.Flow
import HandS.Ends
import HandS.HeadEnd
import PyProof.Rows.NestShow
import PyProof.ReprReads
import HandS.Conv
import KE.KExcIs
import HandS.ExcIs
import HandS.ExcBuiltin
import HandS.SuiteRaise
import HandS.RaiseFrom
import HandS.ExcInitHot
import PySem.Challenge.RW_spreadhues_k59_whole_sights_checked
import HandS.Head0
import HandS.Head1
import HandS.Head2
section
set_option Elab.async false
set_option linter.all false
set_option autoImplicit false
set_option maxRecDepth 100000
set_option maxHeartbeats 4000000
namespace SV
open PySem PySem.Spec L2
/-! ### what is looked at in the written part -/
def oexB (K : PySem.W.Frag) (C : Addr) : Bool := (match K.lookup C with
  | some ⟨.type t, _, .cls cd, sl⟩ => (match cd.mro, sl.toList with
    | .ref C' :: bm, [_, _, _, _, some (.builtin n), _] => decide (t = "type") && (decide (C' = C) && (decide (n = "ValueError.__new__") && (!cd.hasDel && (cd.hasDict && PySem.HandSPX.refsVE bm))))
    | _, _ => false)
  | _ => false) && (decide (PySem.W.findIn K (.ref C) "__setattr__" = some (some (.builtin "object.__setattr__"))) && (decide (PySem.W.subIn K (.ref C) (.type "BaseException") = some true) && (decide (PySem.W.typeIn K (.ref C) = some (.type "type")) && PySem.W.keepIn K (.ref C))))
def exFB (K : PySem.W.Frag) (x : Str) (ns : List Str) : Bool := oexB K (He.ga K x) && (decide (PySem.W.findIn K (.ref (He.ga K x)) "__init__" = some (some (.ref (He.ma K (He.ga K x) "__init__")))) && (decide (PySem.W.typeIn K (.ref (He.ma K (He.ga K x) "__init__")) = some (.type "function")) && (xfB K (He.ga K x) && ns.all fun n => decide (PySem.W.findIn K (.ref (He.ga K x)) n = some none))))
def exmTab (K : PySem.W.Frag) (l : List ((Str × Str) × Bool)) : Bool := l.all fun q => decide (PySem.W.exmOne K (.ref (He.ga K q.1.1)) (.ref (He.ga K q.1.2)) = some q.2)
def excCB (K : PySem.W.Frag) (D : Addr) : Bool := decide (PySem.W.findIn K (.ref D) "__getattribute__" = some (some (.builtin "BaseException.__getattribute__"))) && (decide (PySem.W.findIn K (.ref D) "__getattr__" = some none) && (decide (PySem.W.subIn K (.ref D) (.type "BaseException") = some true) && (PySem.W.hasDictIn K D &&
  (decide (PySem.W.findIn K (.ref D) "__class__" = some (some (.builtin "object.__class__"))) && (decide (PySem.W.specialIn K (.builtin "object.__class__") "__get__" = some (some (.builtin "getset_descriptor.__get__"))) && (decide (PySem.W.takesIn K (.builtin "object.__class__") = some true) && decide (PySem.W.mroIn K D (.type "object") = some true)))))))
def clsV (K : PySem.W.Frag) (x : Str) : Value := if x = "ValueError" then .type "ValueError" else .ref (He.ga K x)
def clsOk (K : PySem.W.Frag) : Value → Bool
  | .ref C => (PySem.W.clsIn K C).isSome && PySem.W.typeIn K (.ref C) == some (.type "type")
  | .type T => PySem.W.kitMeta T
  | _ => false
def kitTab (K : PySem.W.Frag) (MR : List (Str × List Str)) (CS : List (Str × Value)) : Bool := CS.all (fun q => clsOk K q.2) && MR.all fun q => excCB K (He.ga K q.1) && (match PySem.W.clsIn K (He.ga K q.1) with
  | some cd => !cd.mro.isEmpty && CS.all fun z => (cd.mro.contains z.2 == q.2.contains z.1) && (!(Value.ref (He.ga K q.1) == z.2) || q.2.contains z.1)
  | none => false)
end SV
end
section
set_option Elab.async false
set_option linter.all false
set_option maxRecDepth 100000
set_option maxHeartbeats 4000000
namespace SV
open PySem PySem.Spec L2

/-- at a stands an exception of this class, its fields at d -/
def exV (cls : Value) (d : Option Addr) (a : Addr) : HO := .ext fun h => ∃ (oe : Obj) (vs : Array Value), h.get? a = some oe ∧ Zc cls d oe ∧ oe.data = .fields vs
/-- data: what a value stands for -/
inductive D where
  | non | bl (b : Bool) | int (i : Int) | str (x : Str)
  | tup (xs : List D) | lst (xs : List D) | fz (xs : List D) | dk (ks : List Key) (xs : List D) | ins (c : Str) (ns : List Str) (xs : List D)
  | ol (xs : List D) | od (ks : List Key) (xs : List D) | oi (c : Str) (ns : List Str) (xs : List D)
  | sl (i : Nat) | xc (c : Str) (ns : List Str) (xs : List D)
  | rg (lo hi : Int)
  /-- an exception of an own class that is a value; one without fields -/
  | xv (c : Str) (ns : List Str) (xs : List D)
  | xw (c : Str)
  deriving Inhabited

/-- what the names of classes stand for; the exception that is being handled: itself, its class, its own dict -/
structure Cn where
  mg : Str → Option Value
  xa : Addr
  xc : Value
  xd : Option Addr
  K : PySem.W.Frag
/-- a list that stands in the written part -/
def KL (K : PySem.W.Frag) (a : Addr) (xs : List V) : Prop := ∃ (o : Obj) (its : Array Value) (n : Nat), K.lookup a = some o ∧ o.cls = .type "list" ∧ o.dict = none ∧ o.data = .seq its n ∧ its.size ≤ sizeLine ∧ Vals xs its.toList
def Same (g h : Cn) : Prop := g.mg = h.mg ∧ g.K = h.K
variable (F B : Addr → Prop) (mg : Cn) (H : Hp)
mutual
/-- frozen data -/
def Rep : D → V → Prop
  | .non, v => v = .non
  | .bl b, v => v = .bl b
  | .int i, v => v = .int i
  | .str x, v => v = .str x
  | .tup ds, v => ∃ a vs, v = .ref a ∧ F a ∧ H a = some (.tup vs) ∧ Reps ds vs
  | .lst ds, v => ∃ a vs, v = .ref a ∧ F a ∧ H a = some (.lst vs) ∧ Reps ds vs
  | .fz ds, v => ∃ a vs, v = .ref a ∧ ((F a ∧ ∃ o, H a = some (.frz o (.lst vs))) ∨ KL mg.K a vs) ∧ Reps ds vs
  | .rg lo hi, v => ∃ a, v = .ref a ∧ F a ∧ H a = some (.rng lo hi)
  | .dk ks ds, v => ∃ a kvs, v = .ref a ∧ F a ∧ H a = some (.dK kvs) ∧ kvs.map (·.1) = ks ∧ Reps ds (kvs.map (·.2))
  | .ins c ns ds, v => ∃ a C dx fs, v = .ref a ∧ F a ∧ H a = some (.ins C dx fs) ∧ mg.mg c = some (.ref C) ∧ fs.map (·.1) = ns ∧ Reps ds (fs.map (·.2))
  | .xv c ns ds, v => ∃ a C dx vs, v = .ref a ∧ (F a ∧ F dx) ∧ (H a = some (exV (.ref C) (some dx) a) ∧ H dx = some (.xd (ns.zip vs).reverse)) ∧ mg.mg c = some (.ref C) ∧ (ns.Nodup ∧ ns.length = ds.length) ∧ Reps ds vs
  | .xw c, v => ∃ a C, v = .ref a ∧ F a ∧ H a = some (exV (.ref C) none a) ∧ mg.mg c = some (.ref C)
  | .ol _, _ => False
  | .od _ _, _ => False
  | .oi _ _ _, _ => False
  | .sl _, _ => False
  | .xc _ _ _, _ => False
def Reps : List D → List V → Prop
  | [], vs => vs = []
  | d :: ds, vs => ∃ v vs', vs = v :: vs' ∧ Rep d v ∧ Reps ds vs'
end
mutual
/-- owned data, with the addresses that it owns -/
def RepO : D → V → List Addr → Prop
  | .ol ds, v, fp => ∃ a vs fp', v = .ref a ∧ fp = a :: fp' ∧ H a = some (.lst vs) ∧ RepOs ds vs fp'
  | .od ks ds, v, fp => ∃ a kvs fp', v = .ref a ∧ fp = a :: fp' ∧ H a = some (.dK kvs) ∧ kvs.map (·.1) = ks ∧ RepOs ds (kvs.map (·.2)) fp'
  | .oi c ns ds, v, fp => ∃ a C dx fs fp', v = .ref a ∧ fp = a :: fp' ∧ H a = some (.ins C dx fs) ∧ mg.mg c = some (.ref C) ∧ fs.map (·.1) = ns ∧ RepOs ds (fs.map (·.2)) fp'
  | .non, v, fp => v = .non ∧ fp = []
  | .bl b, v, fp => v = .bl b ∧ fp = []
  | .int i, v, fp => v = .int i ∧ fp = []
  | .str x, v, fp => v = .str x ∧ fp = []
  | .tup ds, v, fp => Rep F mg H (.tup ds) v ∧ fp = []
  | .lst ds, v, fp => Rep F mg H (.lst ds) v ∧ fp = []
  | .fz ds, v, fp => Rep F mg H (.fz ds) v ∧ fp = []
  | .rg lo hi, v, fp => Rep F mg H (.rg lo hi) v ∧ fp = []
  | .dk ks ds, v, fp => Rep F mg H (.dk ks ds) v ∧ fp = []
  | .ins c ns ds, v, fp => Rep F mg H (.ins c ns ds) v ∧ fp = []
  | .xv c ns ds, v, fp => Rep F mg H (.xv c ns ds) v ∧ fp = []
  | .xw c, v, fp => Rep F mg H (.xw c) v ∧ fp = []
  | .sl _, _, _ => False
  | .xc _ _ _, _, _ => False
def RepOs : List D → List V → List Addr → Prop
  | [], vs, fp => vs = [] ∧ fp = []
  | d :: ds, vs, fp => ∃ v vs' f1 f2, vs = v :: vs' ∧ fp = f1 ++ f2 ∧ RepO d v f1 ∧ RepOs ds vs' f2
end
/-- is the thing itself owned -/
def D.own : D → Bool
  | .ol _ => true | .od _ _ => true | .oi _ _ _ => true | _ => false
mutual
def D.frz : D → D
  | .ol ds => .lst (D.frzs ds)
  | .od ks ds => .dk ks (D.frzs ds)
  | .oi c ns ds => .ins c ns (D.frzs ds)
  | d => d
def D.frzs : List D → List D
  | [] => []
  | d :: ds => d.frz :: D.frzs ds
end
variable {F B mg H}
/-- agreement -/
structure Ag (F : Addr → Prop) (H : Hp) (F' : Addr → Prop) (H' : Hp) : Prop where
  f : ∀ a, F a → F' a
  h : ∀ a, F a → H' a = H a
mutual
theorem Rep.mono {F' : Addr → Prop} {H' : Hp} (g : Ag F H F' H') : ∀ (d : D) (v : V), Rep F mg H d v → Rep F' mg H' d v
  | .non, _, h => h
  | .bl _, _, h => h
  | .int _, _, h => h
  | .str _, _, h => h
  | .tup ds, _, ⟨a, vs, e, f, r, s⟩ => ⟨a, vs, e, g.f _ f, by rw [g.h _ f]; exact r, Reps.mono g ds vs s⟩
  | .lst ds, _, ⟨a, vs, e, f, r, s⟩ => ⟨a, vs, e, g.f _ f, by rw [g.h _ f]; exact r, Reps.mono g ds vs s⟩
  | .fz ds, _, ⟨a, vs, e, r, s⟩ => ⟨a, vs, e, r.imp (fun ⟨f, o, r⟩ => ⟨g.f _ f, o, by rw [g.h _ f]; exact r⟩) id, Reps.mono g ds vs s⟩
  | .rg _ _, _, ⟨a, e, f, r⟩ => ⟨a, e, g.f _ f, by rw [g.h _ f]; exact r⟩
  | .dk ks ds, _, ⟨a, vs, e, f, r, k, s⟩ => ⟨a, vs, e, g.f _ f, by rw [g.h _ f]; exact r, k, Reps.mono g ds _ s⟩
  | .ins c ns ds, _, ⟨a, C, dx, fs, e, f, r, m, k, s⟩ => ⟨a, C, dx, fs, e, g.f _ f, by rw [g.h _ f]; exact r, m, k, Reps.mono g ds _ s⟩
  | .xv c ns ds, _, ⟨a, C, dx, fs, e, f, r, m, k, s⟩ => ⟨a, C, dx, fs, e, ⟨g.f _ f.1, g.f _ f.2⟩, ⟨by rw [g.h _ f.1]; exact r.1, by rw [g.h _ f.2]; exact r.2⟩, m, k, Reps.mono g ds _ s⟩
  | .xw c, _, ⟨a, C, e, f, r, m⟩ => ⟨a, C, e, g.f _ f, by rw [g.h _ f]; exact r, m⟩
  | .ol _, _, h => h
  | .od _ _, _, h => h
  | .oi _ _ _, _, h => h
  | .sl _, _, h => h
  | .xc _ _ _, _, h => h
theorem Reps.mono {F' : Addr → Prop} {H' : Hp} (g : Ag F H F' H') : ∀ (ds : List D) (vs : List V), Reps F mg H ds vs → Reps F' mg H' ds vs
  | [], _, h => h
  | d :: ds, _, ⟨v, vs, e, h1, h2⟩ => ⟨v, vs, e, Rep.mono g d v h1, Reps.mono g ds vs h2⟩
end
mutual
theorem RepO.mono {F' : Addr → Prop} {H' : Hp} (g : Ag F H F' H') : ∀ (d : D) (v : V) (fp : List Addr), (∀ a ∈ fp, H' a = H a) → RepO F mg H d v fp → RepO F' mg H' d v fp
  | .non, _, _, _, h => h
  | .bl _, _, _, _, h => h
  | .int _, _, _, _, h => h
  | .str _, _, _, _, h => h
  | .tup ds, _, _, _, ⟨h, e⟩ => ⟨Rep.mono g (.tup ds) _ h, e⟩
  | .lst ds, _, _, _, ⟨h, e⟩ => ⟨Rep.mono g (.lst ds) _ h, e⟩
  | .fz ds, _, _, _, ⟨h, e⟩ => ⟨Rep.mono g (.fz ds) _ h, e⟩
  | .rg lo hi, _, _, _, ⟨h, e⟩ => ⟨Rep.mono g (.rg lo hi) _ h, e⟩
  | .dk ks ds, _, _, _, ⟨h, e⟩ => ⟨Rep.mono g (.dk ks ds) _ h, e⟩
  | .ins c ns ds, _, _, _, ⟨h, e⟩ => ⟨Rep.mono g (.ins c ns ds) _ h, e⟩
  | .xv c ns ds, _, _, _, ⟨h, e⟩ => ⟨Rep.mono g (.xv c ns ds) _ h, e⟩
  | .xw c, _, _, _, ⟨h, e⟩ => ⟨Rep.mono g (.xw c) _ h, e⟩
  | .ol ds, _, _, k, ⟨a, vs, fp', e1, e2, r, s⟩ => ⟨a, vs, fp', e1, e2, by rw [k a (by rw [e2]; simp)]; exact r, RepOs.mono g ds vs fp' (fun b hb => k b (by rw [e2]; simp [hb])) s⟩
  | .od ks ds, _, _, k, ⟨a, vs, fp', e1, e2, r, q, s⟩ => ⟨a, vs, fp', e1, e2, by rw [k a (by rw [e2]; simp)]; exact r, q, RepOs.mono g ds _ fp' (fun b hb => k b (by rw [e2]; simp [hb])) s⟩
  | .oi c ns ds, _, _, k, ⟨a, C, dx, fs, fp', e1, e2, r, m, q, s⟩ => ⟨a, C, dx, fs, fp', e1, e2, by rw [k a (by rw [e2]; simp)]; exact r, m, q, RepOs.mono g ds _ fp' (fun b hb => k b (by rw [e2]; simp [hb])) s⟩
  | .sl _, _, _, _, h => h
  | .xc _ _ _, _, _, _, h => h
theorem RepOs.mono {F' : Addr → Prop} {H' : Hp} (g : Ag F H F' H') : ∀ (ds : List D) (vs : List V) (fp : List Addr), (∀ a ∈ fp, H' a = H a) → RepOs F mg H ds vs fp → RepOs F' mg H' ds vs fp
  | [], _, _, _, h => h
  | d :: ds, _, _, k, ⟨v, vs, f1, f2, e, e2, h1, h2⟩ => ⟨v, vs, f1, f2, e, e2, RepO.mono g d v f1 (fun b hb => k b (by rw [e2]; simp [hb])) h1, RepOs.mono g ds vs f2 (fun b hb => k b (by rw [e2]; simp [hb])) h2⟩
end
mutual
/-- what is owned may be frozen -/
theorem RepO.frz {F' : Addr → Prop} (g : ∀ a, F a → F' a) : ∀ (d : D) (v : V) (fp : List Addr), (∀ a ∈ fp, F' a) → RepO F mg H d v fp → Rep F' mg H d.frz v
  | .non, _, _, _, h => h.1
  | .bl _, _, _, _, h => h.1
  | .int _, _, _, _, h => h.1
  | .str _, _, _, _, h => h.1
  | .tup ds, _, _, _, ⟨h, e⟩ => Rep.mono ⟨g, fun _ _ => rfl⟩ (.tup ds) _ h
  | .lst ds, _, _, _, ⟨h, e⟩ => Rep.mono ⟨g, fun _ _ => rfl⟩ (.lst ds) _ h
  | .fz ds, _, _, _, ⟨h, e⟩ => Rep.mono ⟨g, fun _ _ => rfl⟩ (.fz ds) _ h
  | .rg lo hi, _, _, _, ⟨h, e⟩ => Rep.mono ⟨g, fun _ _ => rfl⟩ (.rg lo hi) _ h
  | .dk ks ds, _, _, _, ⟨h, e⟩ => Rep.mono ⟨g, fun _ _ => rfl⟩ (.dk ks ds) _ h
  | .ins c ns ds, _, _, _, ⟨h, e⟩ => Rep.mono ⟨g, fun _ _ => rfl⟩ (.ins c ns ds) _ h
  | .xv c ns ds, _, _, _, ⟨h, e⟩ => Rep.mono ⟨g, fun _ _ => rfl⟩ (.xv c ns ds) _ h
  | .xw c, _, _, _, ⟨h, e⟩ => Rep.mono ⟨g, fun _ _ => rfl⟩ (.xw c) _ h
  | .ol ds, _, _, k, ⟨a, vs, fp', e1, e2, r, s⟩ => ⟨a, vs, e1, k a (by rw [e2]; simp), r, RepOs.frz g ds vs fp' (fun b hb => k b (by rw [e2]; simp [hb])) s⟩
  | .od ks ds, _, _, k, ⟨a, vs, fp', e1, e2, r, q, s⟩ => ⟨a, vs, e1, k a (by rw [e2]; simp), r, q, RepOs.frz g ds _ fp' (fun b hb => k b (by rw [e2]; simp [hb])) s⟩
  | .oi c ns ds, _, _, k, ⟨a, C, dx, fs, fp', e1, e2, r, m, q, s⟩ => ⟨a, C, dx, fs, e1, k a (by rw [e2]; simp), r, m, q, RepOs.frz g ds _ fp' (fun b hb => k b (by rw [e2]; simp [hb])) s⟩
  | .sl _, _, _, _, h => h
  | .xc _ _ _, _, _, _, h => h
theorem RepOs.frz {F' : Addr → Prop} (g : ∀ a, F a → F' a) : ∀ (ds : List D) (vs : List V) (fp : List Addr), (∀ a ∈ fp, F' a) → RepOs F mg H ds vs fp → Reps F' mg H (D.frzs ds) vs
  | [], _, _, _, h => h.1
  | d :: ds, _, _, k, ⟨v, vs, f1, f2, e, e2, h1, h2⟩ => ⟨v, vs, e, RepO.frz g d v f1 (fun b hb => k b (by rw [e2]; simp [hb])) h1, RepOs.frz g ds vs f2 (fun b hb => k b (by rw [e2]; simp [hb])) h2⟩
end
mutual
/-- frozen data is owned data that owns nothing -/
theorem Rep.owned : ∀ (d : D) (v : V), Rep F mg H d v → RepO F mg H d v []
  | .non, _, h => ⟨h, rfl⟩
  | .bl _, _, h => ⟨h, rfl⟩
  | .int _, _, h => ⟨h, rfl⟩
  | .str _, _, h => ⟨h, rfl⟩
  | .tup ds, _, h => ⟨h, rfl⟩
  | .lst ds, _, h => ⟨h, rfl⟩
  | .fz ds, _, h => ⟨h, rfl⟩
  | .rg _ _, _, h => ⟨h, rfl⟩
  | .dk _ ds, _, h => ⟨h, rfl⟩
  | .ins _ _ ds, _, h => ⟨h, rfl⟩
  | .xv _ _ ds, _, h => ⟨h, rfl⟩
  | .xw _, _, h => ⟨h, rfl⟩
  | .ol _, _, h => h.elim
  | .od _ _, _, h => h.elim
  | .oi _ _ _, _, h => h.elim
  | .sl _, _, h => h.elim
  | .xc _ _ _, _, h => h.elim
theorem Reps.owned : ∀ (ds : List D) (vs : List V), Reps F mg H ds vs → RepOs F mg H ds vs []
  | [], _, h => ⟨h, rfl⟩
  | d :: ds, _, ⟨v, vs, e, h1, h2⟩ => ⟨v, vs, [], [], e, rfl, Rep.owned d v h1, Reps.owned ds vs h2⟩
end
/-- .. and what is not itself owned is frozen -/
theorem RepO.plain {d : D} {v : V} {fp : List Addr} (h : RepO F mg H d v fp) (n : d.own = false) : Rep F mg H d v ∧ fp = [] := by
  cases d with
  | ol _ => cases n
  | od _ _ => cases n
  | oi _ _ _ => cases n
  | sl _ => exact h.elim
  | xc _ _ _ => exact h.elim
  | _ => exact h
mutual
/-- the addresses owned are tracked -/
theorem RepO.there : ∀ (d : D) (v : V) (fp : List Addr), RepO F mg H d v fp → ∀ a ∈ fp, ∃ o, H a = some o
  | .non, _, _, h => by rw [h.2]; simp
  | .bl _, _, _, h => by rw [h.2]; simp
  | .int _, _, _, h => by rw [h.2]; simp
  | .str _, _, _, h => by rw [h.2]; simp
  | .tup ds, _, _, h => by rw [h.2]; simp
  | .lst ds, _, _, h => by rw [h.2]; simp
  | .fz ds, _, _, h => by rw [h.2]; simp
  | .rg _ _, _, _, h => by rw [h.2]; simp
  | .dk ks ds, _, _, h => by rw [h.2]; simp
  | .ins c ns ds, _, _, h => by rw [h.2]; simp
  | .xv c ns ds, _, _, h => by rw [h.2]; simp
  | .xw c, _, _, h => by rw [h.2]; simp
  | .ol ds, _, _, ⟨a, vs, fp', e1, e2, r, s⟩ => fun b hb => by
    rw [e2] at hb
    rcases List.mem_cons.mp hb with rfl | hb
    · exact ⟨_, r⟩
    · exact RepOs.there ds vs fp' s b hb
  | .od ks ds, _, _, ⟨a, vs, fp', e1, e2, r, q, s⟩ => fun b hb => by
    rw [e2] at hb
    rcases List.mem_cons.mp hb with rfl | hb
    · exact ⟨_, r⟩
    · exact RepOs.there ds _ fp' s b hb
  | .oi c ns ds, _, _, ⟨a, C, dx, fs, fp', e1, e2, r, m, q, s⟩ => fun b hb => by
    rw [e2] at hb
    rcases List.mem_cons.mp hb with rfl | hb
    · exact ⟨_, r⟩
    · exact RepOs.there ds _ fp' s b hb
  | .sl _, _, _, h => h.elim
  | .xc _ _ _, _, _, h => h.elim
theorem RepOs.there : ∀ (ds : List D) (vs : List V) (fp : List Addr), RepOs F mg H ds vs fp → ∀ a ∈ fp, ∃ o, H a = some o
  | [], _, _, h => by rw [h.2]; simp
  | d :: ds, _, _, ⟨v, vs, f1, f2, e, e2, h1, h2⟩ => fun b hb => by
    rw [e2] at hb
    rcases List.mem_append.mp hb with hb | hb
    · exact RepO.there d v f1 h1 b hb
    · exact RepOs.there ds vs f2 h2 b hb
end
theorem Reps.length : ∀ {ds : List D} {vs : List V}, Reps F mg H ds vs → ds.length = vs.length
  | [], vs, h => by have e : vs = [] := h; subst e; rfl
  | d :: ds, _, ⟨v, vs, e, h1, h2⟩ => by rw [e]; simp [Reps.length h2]
theorem RepOs.length : ∀ {ds : List D} {vs : List V} {fp}, RepOs F mg H ds vs fp → ds.length = vs.length
  | [], vs, _, h => by have e : vs = [] := h.1; subst e; rfl
  | d :: ds, _, _, ⟨v, vs, _, _, e, _, h1, h2⟩ => by rw [e]; simp [RepOs.length h2]
theorem Reps.get : ∀ {ds : List D} {vs : List V} {i : Nat} {d : D}, Reps F mg H ds vs → ds[i]? = some d → ∃ v, vs[i]? = some v ∧ Rep F mg H d v
  | [], _, _, _, _, e => by simp at e
  | d :: ds, _, 0, _, ⟨v, vs, e1, h1, h2⟩, e => by simp at e; subst e; exact ⟨v, by rw [e1]; rfl, h1⟩
  | d :: ds, _, i + 1, _, ⟨v, vs, e1, h1, h2⟩, e => by
    obtain ⟨u, q, r⟩ := Reps.get (i := i) h2 (by simpa using e)
    exact ⟨u, by rw [e1]; simpa using q, r⟩
theorem Reps.append : ∀ {ds es : List D} {vs ws : List V}, Reps F mg H ds vs → Reps F mg H es ws → Reps F mg H (ds ++ es) (vs ++ ws)
  | [], _, _, _, h, h' => by rw [show _ = _ from h]; exact h'
  | d :: ds, _, _, _, ⟨v, vs, e1, h1, h2⟩, h' => ⟨v, _, by rw [e1]; rfl, h1, Reps.append h2 h'⟩
theorem RepOs.append : ∀ {ds es : List D} {vs ws : List V} {f g}, RepOs F mg H ds vs f → RepOs F mg H es ws g → RepOs F mg H (ds ++ es) (vs ++ ws) (f ++ g)
  | [], _, _, _, _, _, h, h' => by rw [show _ = _ from h.1, show _ = _ from h.2]; exact h'
  | d :: ds, _, _, _, _, _, ⟨v, vs, f1, f2, e1, e2, h1, h2⟩, h' => ⟨v, _, f1, _, by rw [e1]; rfl, by rw [e2, List.append_assoc], h1, RepOs.append h2 h'⟩
mutual
/-- the exception that is being handled does not matter for data -/
theorem Rep.cn {g : Cn} (e : Same g mg) : ∀ (d : D) (v : V), Rep F mg H d v → Rep F g H d v
  | .non, _, h => h
  | .bl _, _, h => h
  | .int _, _, h => h
  | .str _, _, h => h
  | .tup ds, _, ⟨a, vs, e1, f, r, s⟩ => ⟨a, vs, e1, f, r, Reps.cn e ds vs s⟩
  | .lst ds, _, ⟨a, vs, e1, f, r, s⟩ => ⟨a, vs, e1, f, r, Reps.cn e ds vs s⟩
  | .fz ds, _, ⟨a, vs, e1, r, s⟩ => ⟨a, vs, e1, by rw [e.2]; exact r, Reps.cn e ds vs s⟩
  | .rg _ _, _, ⟨a, e1, f, r⟩ => ⟨a, e1, f, r⟩
  | .dk ks ds, _, ⟨a, vs, e1, f, r, k, s⟩ => ⟨a, vs, e1, f, r, k, Reps.cn e ds _ s⟩
  | .ins c ns ds, _, ⟨a, C, dx, fs, e1, f, r, m, k, s⟩ => ⟨a, C, dx, fs, e1, f, r, by rw [e.1]; exact m, k, Reps.cn e ds _ s⟩
  | .xv c ns ds, _, ⟨a, C, dx, fs, e1, f, r, m, k, s⟩ => ⟨a, C, dx, fs, e1, f, r, by rw [e.1]; exact m, k, Reps.cn e ds _ s⟩
  | .xw c, _, ⟨a, C, e1, f, r, m⟩ => ⟨a, C, e1, f, r, by rw [e.1]; exact m⟩
  | .ol _, _, h => h
  | .od _ _, _, h => h
  | .oi _ _ _, _, h => h
  | .sl _, _, h => h
  | .xc _ _ _, _, h => h
theorem Reps.cn {g : Cn} (e : Same g mg) : ∀ (ds : List D) (vs : List V), Reps F mg H ds vs → Reps F g H ds vs
  | [], _, h => h
  | d :: ds, _, ⟨v, vs, e1, h1, h2⟩ => ⟨v, vs, e1, Rep.cn e d v h1, Reps.cn e ds vs h2⟩
end
mutual
theorem RepO.cn {g : Cn} (e : Same g mg) : ∀ (d : D) (v : V) (fp : List Addr), RepO F mg H d v fp → RepO F g H d v fp
  | .non, _, _, h => h
  | .bl _, _, _, h => h
  | .int _, _, _, h => h
  | .str _, _, _, h => h
  | .tup ds, _, _, ⟨h, e1⟩ => ⟨Rep.cn e (.tup ds) _ h, e1⟩
  | .lst ds, _, _, ⟨h, e1⟩ => ⟨Rep.cn e (.lst ds) _ h, e1⟩
  | .fz ds, _, _, ⟨h, e1⟩ => ⟨Rep.cn e (.fz ds) _ h, e1⟩
  | .rg lo hi, _, _, ⟨h, e1⟩ => ⟨Rep.cn e (.rg lo hi) _ h, e1⟩
  | .dk ks ds, _, _, ⟨h, e1⟩ => ⟨Rep.cn e (.dk ks ds) _ h, e1⟩
  | .ins c ns ds, _, _, ⟨h, e1⟩ => ⟨Rep.cn e (.ins c ns ds) _ h, e1⟩
  | .xv c ns ds, _, _, ⟨h, e1⟩ => ⟨Rep.cn e (.xv c ns ds) _ h, e1⟩
  | .xw c, _, _, ⟨h, e1⟩ => ⟨Rep.cn e (.xw c) _ h, e1⟩
  | .ol ds, _, _, ⟨a, vs, fp', e1, e2, r, s⟩ => ⟨a, vs, fp', e1, e2, r, RepOs.cn e ds vs fp' s⟩
  | .od ks ds, _, _, ⟨a, vs, fp', e1, e2, r, q, s⟩ => ⟨a, vs, fp', e1, e2, r, q, RepOs.cn e ds _ fp' s⟩
  | .oi c ns ds, _, _, ⟨a, C, dx, fs, fp', e1, e2, r, m, q, s⟩ => ⟨a, C, dx, fs, fp', e1, e2, r, by rw [e.1]; exact m, q, RepOs.cn e ds _ fp' s⟩
  | .sl _, _, _, h => h
  | .xc _ _ _, _, _, h => h
theorem RepOs.cn {g : Cn} (e : Same g mg) : ∀ (ds : List D) (vs : List V) (fp : List Addr), RepOs F mg H ds vs fp → RepOs F g H ds vs fp
  | [], _, _, h => h
  | d :: ds, _, _, ⟨v, vs, f1, f2, e1, e2, h1, h2⟩ => ⟨v, vs, f1, f2, e1, e2, RepO.cn e d v f1 h1, RepOs.cn e ds vs f2 h2⟩
end
end SV
end
section
set_option Elab.async false
set_option linter.all false
set_option maxRecDepth 100000
set_option maxHeartbeats 4000000
namespace SV
open PySem PySem.Spec L2
/-- a raised exception: its class by name, its own dict -/
def ExcAt (F : Addr → Prop) (mg : Cn) (H : Hp) (cls : Value) (dx : Option Addr) (c : Str) (fs : List (Str × D)) : Prop :=
  ∃ C d fv, cls = .ref C ∧ dx = some d ∧ mg.mg c = some (.ref C) ∧ F d ∧ H d = some (.xd fv) ∧ ∀ f y, fs.lookup f = some y → ∃ v, fv.lookup f = some v ∧ Rep F mg H y v
theorem ExcAt.mono {F F' : Addr → Prop} {mg : Cn} {H H' : Hp} {cls : Value} {dx : Option Addr} {c : Str} {fs : List (Str × D)} (g : Ag F H F' H') (x : ExcAt F mg H cls dx c fs) : ExcAt F' mg H' cls dx c fs := by
  obtain ⟨C, d, fv, e1, e2, e3, f, h, r⟩ := x
  exact ⟨C, d, fv, e1, e2, e3, g.f _ f, by rw [g.h _ f]; exact h, fun n y z => let ⟨v, q, w⟩ := r n y z; ⟨v, q, Rep.mono g _ _ w⟩⟩
abbrev Env := List (Option D)
def D.isX : D → Bool
  | .xc _ _ _ => true
  | _ => false
abbrev Tm := List (V × D)
section
variable (F B : Addr → Prop) (mg : Cn) (H : Hp)
/-- a value at hand: a thing of its own, or the thing in a slot -/
def RT (σ : St) : D → V → List Addr → Prop
  | .sl i, v, fp => σ[i]? = some (some v) ∧ fp = []
  | d, v, fp => RepO F mg H d v fp
def RTs (σ : St) : Tm → List Addr → Prop
  | [], fp => fp = []
  | x :: T, fp => ∃ f1 f2, fp = f1 ++ f2 ∧ RT F mg H σ x.2 x.1 f1 ∧ RTs σ T f2
/-- what a slot may hold besides: the exception that is being handled -/
def RX : D → V → List Addr → Prop
  | .xc c ns xs, v, fp => v = .ref mg.xa ∧ ExcAt F mg H mg.xc mg.xd c (ns.zip xs) ∧ fp = []
  | d, v, fp => RepO F mg H d v fp
def RS : St → Env → List Addr → Prop
  | [], [], fp => fp = []
  | _ :: σ, none :: ρ, fp => RS σ ρ fp
  | x :: σ, some d :: ρ, fp => ∃ v f1 f2, x = some v ∧ fp = f1 ++ f2 ∧ RX F mg H d v f1 ∧ RS σ ρ f2
  | _, _, _ => False
/-- the state: slots and the values at hand -/
structure Sat (σ : St) (ρ : Env) (T : Tm) : Prop where
  ex : ∃ o1 o2, RS F mg H σ ρ o1 ∧ RTs F mg H σ T o2 ∧ (o1 ++ o2).Nodup ∧ ∀ a ∈ o1 ++ o2, ¬ B a
  fb : ∀ a, F a → B a
  bt : ∀ a, B a → ∃ o, H a = some o
structure Ext (F' B' : Addr → Prop) (H' : Hp) : Prop where
  f : ∀ a, F a → F' a
  b : ∀ a, B a → B' a
  h : ∀ a, B a → H' a = H a
  n : ∀ a, F' a → F a ∨ ¬ B a
end
variable {F B F' B' F2 B2 : Addr → Prop} {mg : Cn} {H H' H2 : Hp} {σ : St} {ρ : Env} {T : Tm} {v : V} {d : D} {fp : List Addr}
theorem Ext.refl : Ext F B H F B H := ⟨fun _ h => h, fun _ h => h, fun _ _ => rfl, fun _ h => .inl h⟩
theorem Ext.trans (x : Ext F B H F' B' H') (y : Ext F' B' H' F2 B2 H2) : Ext F B H F2 B2 H2 :=
  ⟨fun a h => y.f a (x.f a h), fun a h => y.b a (x.b a h), fun a h => (y.h a (x.b a h)).trans (x.h a h), fun a h => by
    rcases y.n a h with q | q
    · exact x.n a q
    · exact .inr fun z => q (x.b a z)⟩
theorem Ext.ag (x : Ext F B H F' B' H') (fb : ∀ a, F a → B a) : Ag F H F' H' := ⟨x.f, fun a h => x.h a (fb a h)⟩
theorem RT.of (h : RepO F mg H d v fp) : RT F mg H σ d v fp := by
  cases d <;> first | exact h | exact h.elim
theorem RT.own (h : RT F mg H σ d v fp) (n : ∀ i, d ≠ .sl i) : RepO F mg H d v fp := by
  cases d <;> first | exact h | exact absurd rfl (n _)
theorem RT.mono (g : Ag F H F' H') (k : ∀ a ∈ fp, H' a = H a) (h : RT F mg H σ d v fp) : RT F' mg H' σ d v fp := by
  cases d <;> first | exact h | exact RepO.mono g _ _ _ k h
theorem RT.there (h : RT F mg H σ d v fp) : ∀ a ∈ fp, ∃ o, H a = some o := by
  cases d <;> first | exact RepO.there _ _ _ h | (rw [h.2]; simp)
theorem RX.of (h : RepO F mg H d v fp) : RX F mg H d v fp := by
  cases d <;> first | exact h | exact h.elim
theorem RX.own (h : RX F mg H d v fp) (n : d.isX = false) : RepO F mg H d v fp := by
  cases d <;> first | exact h | cases n
theorem RX.mono (g : Ag F H F' H') (k : ∀ a ∈ fp, H' a = H a) (h : RX F mg H d v fp) : RX F' mg H' d v fp := by
  cases d <;> first | exact RepO.mono g _ _ _ k h | exact ⟨h.1, h.2.1.mono g, h.2.2⟩
theorem RX.there (h : RX F mg H d v fp) : ∀ a ∈ fp, ∃ o, H a = some o := by
  cases d <;> first | exact RepO.there _ _ _ h | (rw [h.2.2]; simp)
theorem RTs.mono (g : Ag F H F' H') : ∀ {T : Tm} {fp : List Addr}, (∀ a ∈ fp, H' a = H a) → RTs F mg H σ T fp → RTs F' mg H' σ T fp
  | [], _, _, h => h
  | _ :: _, _, k, ⟨f1, f2, e, h1, h2⟩ => ⟨f1, f2, e, h1.mono g (fun a ha => k a (by rw [e]; simp [ha])), RTs.mono g (fun a ha => k a (by rw [e]; simp [ha])) h2⟩
theorem RTs.there : ∀ {T : Tm} {fp : List Addr}, RTs F mg H σ T fp → ∀ a ∈ fp, ∃ o, H a = some o
  | [], _, h => by rw [show _ = _ from h]; simp
  | _ :: _, _, ⟨f1, f2, e, h1, h2⟩ => fun a ha => by
    rw [e] at ha
    rcases List.mem_append.mp ha with ha | ha
    · exact h1.there a ha
    · exact RTs.there h2 a ha
theorem RTs.append : ∀ {T T' : Tm} {f g : List Addr}, RTs F mg H σ T f → RTs F mg H σ T' g → RTs F mg H σ (T ++ T') (f ++ g)
  | [], _, _, _, h, h' => by rw [show _ = _ from h]; exact h'
  | _ :: _, _, _, _, ⟨f1, f2, e, h1, h2⟩, h' => ⟨f1, _, by rw [e, List.append_assoc], h1, RTs.append h2 h'⟩
theorem RTs.split : ∀ {T T' : Tm} {f : List Addr}, RTs F mg H σ (T ++ T') f → ∃ f1 f2, f = f1 ++ f2 ∧ RTs F mg H σ T f1 ∧ RTs F mg H σ T' f2
  | [], _, _, h => ⟨[], _, rfl, rfl, h⟩
  | x :: T, T', f, h => by
    obtain ⟨f1, f2, e, h1, h2⟩ : ∃ f1 f2, f = f1 ++ f2 ∧ RT F mg H σ x.2 x.1 f1 ∧ RTs F mg H σ (T ++ T') f2 := h
    obtain ⟨g1, g2, e2, h3, h4⟩ := RTs.split h2
    exact ⟨f1 ++ g1, g2, by rw [e, e2, List.append_assoc], ⟨f1, g1, rfl, h1, h3⟩, h4⟩
theorem RTs.perm {T T' : Tm} (p : T.Perm T') : ∀ {f : List Addr}, RTs F mg H σ T f → ∃ f', f.Perm f' ∧ RTs F mg H σ T' f' := by
  induction p with
  | nil => exact fun h => ⟨_, .refl _, h⟩
  | cons x _ ih =>
    rintro f ⟨f1, f2, e, h1, h2⟩
    obtain ⟨g, q, h3⟩ := ih h2
    exact ⟨f1 ++ g, by rw [e]; exact .append_left _ q, f1, g, rfl, h1, h3⟩
  | swap x y l =>
    rintro f ⟨f1, f2, e, h1, g1, g2, e2, h2, h3⟩
    refine ⟨g1 ++ (f1 ++ g2), ?_, g1, _, rfl, h2, f1, g2, rfl, h1, h3⟩
    rw [e, e2, ← List.append_assoc, ← List.append_assoc]
    exact List.Perm.append_right _ List.perm_append_comm
  | trans _ _ ih1 ih2 =>
    intro f h
    obtain ⟨g, q, h1⟩ := ih1 h
    obtain ⟨g', q', h2⟩ := ih2 h1
    exact ⟨g', q.trans q', h2⟩
theorem RTs.mem : ∀ {T : Tm} {f : List Addr} {x : V × D}, RTs F mg H σ T f → x ∈ T → ∃ g, RT F mg H σ x.2 x.1 g
  | _ :: _, _, _, ⟨f1, f2, e, h1, h2⟩, hx => by
    rcases List.mem_cons.mp hx with rfl | hx
    · exact ⟨f1, h1⟩
    · exact RTs.mem h2 hx
theorem RS.mono (g : Ag F H F' H') : ∀ {σ : St} {ρ : Env} {fp : List Addr}, (∀ a ∈ fp, H' a = H a) → RS F mg H σ ρ fp → RS F' mg H' σ ρ fp
  | [], [], _, _, h => h
  | [], _ :: _, _, _, h => h.elim
  | _ :: _, [], _, _, h => h.elim
  | _ :: σ, none :: ρ, fp, k, h => RS.mono (σ := σ) (ρ := ρ) g k h
  | _ :: _, some _ :: _, _, k, ⟨v, f1, f2, e, e2, h1, h2⟩ => ⟨v, f1, f2, e, e2, h1.mono g (fun a ha => k a (by rw [e2]; simp [ha])), RS.mono g (fun a ha => k a (by rw [e2]; simp [ha])) h2⟩
theorem RS.there : ∀ {σ : St} {ρ : Env} {fp : List Addr}, RS F mg H σ ρ fp → ∀ a ∈ fp, ∃ o, H a = some o
  | [], [], _, h => by rw [show _ = _ from h]; simp
  | [], _ :: _, _, h => h.elim
  | _ :: _, [], _, h => h.elim
  | _ :: σ, none :: ρ, fp, h => RS.there (σ := σ) (ρ := ρ) h
  | _ :: _, some _ :: _, _, ⟨v, f1, f2, e, e2, h1, h2⟩ => fun a ha => by
    rw [e2] at ha
    rcases List.mem_append.mp ha with ha | ha
    · exact h1.there a ha
    · exact RS.there h2 a ha
theorem RS.length : ∀ {σ : St} {ρ : Env} {fp : List Addr}, RS F mg H σ ρ fp → σ.length = ρ.length
  | [], [], _, h => rfl
  | [], _ :: _, _, h => h.elim
  | _ :: _, [], _, h => h.elim
  | _ :: σ, none :: ρ, fp, h => by simpa using RS.length (σ := σ) (ρ := ρ) h
  | _ :: _, some _ :: _, _, ⟨v, f1, f2, e, e2, h1, h2⟩ => by simpa using RS.length h2
/-- a slot is read -/
theorem RS.get : ∀ {σ : St} {ρ : Env} {fp : List Addr} {i : Nat} {d : D}, RS F mg H σ ρ fp → ρ[i]? = some (some d) → ∃ v f, σ[i]? = some (some v) ∧ RX F mg H d v f
  | [], [], _, _, _, _, e => by simp at e
  | [], _ :: _, _, _, _, h, _ => h.elim
  | _ :: _, [], _, _, _, h, _ => h.elim
  | _ :: σ, none :: ρ, fp, 0, _, h, e => by simp at e
  | _ :: σ, none :: ρ, fp, i + 1, d, h, e => by
    obtain ⟨v, f, q, r⟩ := RS.get (σ := σ) (ρ := ρ) (i := i) (d := d) h (by simpa using e)
    exact ⟨v, f, by simpa using q, r⟩
  | _ :: _, some _ :: _, _, 0, _, ⟨v, f1, f2, e1, e2, h1, h2⟩, e => by simp at e; subst e; exact ⟨v, f1, by simp [e1], h1⟩
  | _ :: _, some _ :: _, _, i + 1, _, ⟨v, f1, f2, e1, e2, h1, h2⟩, e => by
    obtain ⟨v, f, q, r⟩ := RS.get (i := i) h2 (by simpa using e)
    exact ⟨v, f, by simpa using q, r⟩
/-- a slot's thing is taken out -/
theorem RS.take : ∀ {σ : St} {ρ : Env} {fp : List Addr} {i : Nat} {d : D}, RS F mg H σ ρ fp → ρ[i]? = some (some d) → ∃ v f g, fp.Perm (f ++ g) ∧ σ[i]? = some (some v) ∧ RX F mg H d v f ∧ RS F mg H σ (ρ.set i none) g
  | [], [], _, _, _, _, e => by simp at e
  | [], _ :: _, _, _, _, h, _ => h.elim
  | _ :: _, [], _, _, _, h, _ => h.elim
  | _ :: σ, none :: ρ, fp, 0, _, h, e => by simp at e
  | _ :: σ, none :: ρ, fp, i + 1, d, h, e => by
    obtain ⟨v, f, g, p, q, r, s⟩ := RS.take (σ := σ) (ρ := ρ) (i := i) (d := d) h (by simpa using e)
    exact ⟨v, f, g, p, by simpa using q, r, s⟩
  | _ :: _, some _ :: _, _, 0, _, ⟨v, f1, f2, e1, e2, h1, h2⟩, e => by simp at e; subst e; exact ⟨v, f1, f2, by rw [e2], by simp [e1], h1, h2⟩
  | _ :: _, some _ :: _, _, i + 1, _, ⟨v, f1, f2, e1, e2, h1, h2⟩, e => by
    obtain ⟨v', f, g, p, q, r, s⟩ := RS.take (i := i) h2 (by simpa using e)
    refine ⟨v', f, f1 ++ g, ?_, by simpa using q, r, v, f1, g, e1, rfl, h1, s⟩
    rw [e2]
    refine (List.Perm.append_left f1 p).trans ?_
    rw [← List.append_assoc, ← List.append_assoc]
    exact List.Perm.append_right _ List.perm_append_comm
/-- a slot is emptied, its value may be any -/
theorem RS.drop : ∀ {σ : St} {ρ : Env} {fp : List Addr} (i : Nat) (x : Option V), RS F mg H σ ρ fp → ∃ g, g.Sublist fp ∧ RS F mg H (σ.set i x) (ρ.set i none) g
  | [], [], fp, _, _, h => ⟨fp, .refl _, h⟩
  | [], _ :: _, _, _, _, h => h.elim
  | _ :: _, [], _, _, _, h => h.elim
  | _ :: σ, none :: ρ, fp, 0, _, h => ⟨fp, .refl _, h⟩
  | _ :: σ, none :: ρ, fp, i + 1, x, h => by
    obtain ⟨g, q, r⟩ := RS.drop (σ := σ) (ρ := ρ) i x h
    exact ⟨g, q, r⟩
  | _ :: _, some _ :: _, _, 0, _, ⟨v, f1, f2, e1, e2, h1, h2⟩ => ⟨f2, by rw [e2]; exact List.sublist_append_right _ _, h2⟩
  | _ :: _, some _ :: _, _, i + 1, x, ⟨v, f1, f2, e1, e2, h1, h2⟩ => by
    obtain ⟨g, q, r⟩ := RS.drop i x h2
    exact ⟨f1 ++ g, by rw [e2]; exact List.Sublist.append_left q f1, v, f1, g, e1, rfl, h1, r⟩
/-- an empty slot is filled -/
theorem RS.put : ∀ {σ : St} {ρ : Env} {fp f : List Addr} {i : Nat} {d : D} {v : V}, RS F mg H σ ρ fp → ρ[i]? = some none → RX F mg H d v f → ∃ g, g.Perm (f ++ fp) ∧ RS F mg H (σ.set i (some v)) (ρ.set i (some d)) g
  | [], [], _, _, _, _, _, _, e, _ => by simp at e
  | [], _ :: _, _, _, _, _, _, h, _, _ => h.elim
  | _ :: _, [], _, _, _, _, _, h, _, _ => h.elim
  | _ :: σ, none :: ρ, fp, f, 0, _, v, h, e, r => ⟨f ++ fp, .refl _, v, f, fp, rfl, rfl, r, h⟩
  | _ :: σ, none :: ρ, fp, f, i + 1, d, v, h, e, r => by
    obtain ⟨g, q, s⟩ := RS.put (σ := σ) (ρ := ρ) (i := i) h (by simpa using e) r
    exact ⟨g, q, s⟩
  | _ :: _, some _ :: _, _, _, 0, _, _, _, e, _ => by simp at e
  | _ :: _, some _ :: _, _, f, i + 1, d, v, ⟨v0, f1, f2, e1, e2, h1, h2⟩, e, r => by
    obtain ⟨g, q, s⟩ := RS.put (i := i) h2 (by simpa using e) r
    refine ⟨f1 ++ g, ?_, v0, f1, g, e1, rfl, h1, s⟩
    rw [e2]
    refine (List.Perm.append_left f1 q).trans ?_
    rw [← List.append_assoc, ← List.append_assoc]
    exact List.Perm.append_right _ List.perm_append_comm
/-! ### the state -/
theorem Sat.perm {T' : Tm} (S : Sat F B mg H σ ρ T) (p : T.Perm T') : Sat F B mg H σ ρ T' := by
  obtain ⟨⟨o1, o2, h1, h2, nd, nb⟩, fb, bt⟩ := S
  obtain ⟨o3, q, h3⟩ := h2.perm p
  have pp : (o1 ++ o2).Perm (o1 ++ o3) := .append_left _ q
  exact ⟨⟨o1, o3, h1, h3, pp.nodup_iff.mp nd, fun a ha => nb a (pp.mem_iff.mpr ha)⟩, fb, bt⟩
theorem Sat.sub {T' : Tm} (S : Sat F B mg H σ ρ (T' ++ T)) : Sat F B mg H σ ρ T := by
  obtain ⟨⟨o1, o2, h1, h2, nd, nb⟩, fb, bt⟩ := S
  obtain ⟨f1, f2, e, _, h3⟩ := h2.split
  subst e
  have s : (o1 ++ f2).Sublist (o1 ++ (f1 ++ f2)) := List.Sublist.append_left (List.sublist_append_right _ _) _
  exact ⟨⟨o1, f2, h1, h3, nd.sublist s, fun a ha => nb a (s.mem ha)⟩, fb, bt⟩
theorem Sat.pop {x : V × D} (S : Sat F B mg H σ ρ (x :: T)) : Sat F B mg H σ ρ T := Sat.sub (T' := [x]) S
theorem Sat.length (S : Sat F B mg H σ ρ T) : σ.length = ρ.length := by
  obtain ⟨⟨o1, o2, h1, h2, nd, nb⟩, fb, bt⟩ := S
  exact h1.length
theorem Sat.mem {x : V × D} (S : Sat F B mg H σ ρ T) (hx : x ∈ T) : ∃ g, RT F mg H σ x.2 x.1 g := by
  obtain ⟨⟨o1, o2, h1, h2, nd, nb⟩, fb, bt⟩ := S
  exact h2.mem hx
theorem Sat.top {x : V × D} (S : Sat F B mg H σ ρ (x :: T)) : ∃ g, RT F mg H σ x.2 x.1 g := S.mem (List.mem_cons_self ..)
theorem Sat.tru (S : Sat F B mg H σ ρ T) {a : Addr} (h : F a) : ∃ o, H a = some o := S.bt a (S.fb a h)
/-- the master step -/
theorem Sat.step {Ts Ts' : Tm} (S : Sat F B mg H σ ρ (Ts ++ T))
    (h : ∀ fs, RTs F mg H σ Ts fs → fs.Nodup → (∀ a ∈ fs, ¬ B a) → ∃ (F' : Addr → Prop) (fs' : List Addr), (∀ a, F a → F' a) ∧ (∀ a, a ∉ fs → (∃ o, H a = some o) → H' a = H a) ∧ RTs F' mg H' σ Ts' fs' ∧ fs'.Nodup ∧
      (∀ a ∈ fs', a ∈ fs ∨ H a = none) ∧ (∀ a, F' a → F a ∨ a ∈ fs ∨ H a = none) ∧ (∀ a ∈ fs', ¬ F' a) ∧ ∀ a, F' a → ∃ o, H' a = some o) :
    ∃ F' : Addr → Prop, Ext F B H F' (fun a => B a ∨ F' a) H' ∧ Sat F' (fun a => B a ∨ F' a) mg H' σ ρ (Ts' ++ T) := by
  obtain ⟨⟨o1, o2, h1, h2, nd, nb⟩, fb, bt⟩ := S
  obtain ⟨fs, f2, e, h3, h4⟩ := h2.split
  subst e
  have hd := List.nodup_append.mp nd
  have hd2 := List.nodup_append.mp hd.2.1
  obtain ⟨F', fs', g1, g2, g3, g4, g5, g6, g7, g8⟩ := h fs h3 hd2.1 fun a ha => nb a (by simp [ha])
  have gB : ∀ a, B a → H' a = H a := fun a ha => g2 a (fun z => nb a (by simp [z]) ha) (bt a ha)
  have ag : Ag F H F' H' := ⟨g1, fun a ha => gB a (fb a ha)⟩
  have k1 : ∀ a ∈ o1, a ∉ fs := fun a ha z => hd.2.2 a ha a (by simp [z]) rfl
  have k2 : ∀ a ∈ f2, a ∉ fs := fun a ha z => hd2.2.2 a z a ha rfl
  have t1 : ∀ a ∈ o1, ∃ o, H a = some o := h1.there
  have t2 : ∀ a ∈ f2, ∃ o, H a = some o := h4.there
  have nn : ∀ {a}, (∃ o, H a = some o) → H a ≠ none := fun ⟨o, e⟩ z => by rw [e] at z; cases z
  have d1 : ∀ a ∈ o1, a ∉ fs' := fun a ha z => (g5 a z).elim (k1 a ha) (nn (t1 a ha))
  have d2 : ∀ a ∈ f2, a ∉ fs' := fun a ha z => (g5 a z).elim (k2 a ha) (nn (t2 a ha))
  refine ⟨F', ⟨g1, fun a ha => .inl ha, gB, fun a ha => ?_⟩, ⟨o1, fs' ++ f2, h1.mono ag fun a ha => g2 a (k1 a ha) (t1 a ha), g3.append (h4.mono ag fun a ha => g2 a (k2 a ha) (t2 a ha)), ?_, fun a ha => ?_⟩, fun a ha => .inr ha, fun a ha => ?_⟩
  · rcases g6 a ha with z | z | z
    · exact .inl z
    · exact .inr (nb a (by simp [z]))
    · exact .inr fun y => nn (bt a y) z
  · refine List.nodup_append.mpr ⟨hd.1, List.nodup_append.mpr ⟨g4, hd2.2.1, fun a ha b hb z => d2 b hb (z ▸ ha)⟩, fun a ha b hb z => ?_⟩
    subst z
    rcases List.mem_append.mp hb with hb | hb
    · exact d1 a ha hb
    · exact hd.2.2 a ha a (by simp [hb]) rfl
  · have old : (a ∈ o1 ∨ a ∈ f2) → ¬ (B a ∨ F' a) := fun z y => by
      have m : a ∈ o1 ++ (fs ++ f2) := by rcases z with z | z <;> simp [z]
      have t : ∃ o, H a = some o := z.elim (t1 a) (t2 a)
      rcases y with y | y
      · exact nb a m y
      · rcases g6 a y with q | q | q
        · exact nb a m (fb a q)
        · exact z.elim (fun z => k1 a z q) fun z => k2 a z q
        · exact nn t q
    rcases List.mem_append.mp ha with ha | ha
    · exact old (.inl ha)
    · rcases List.mem_append.mp ha with ha | ha
      · rintro (y | y)
        · rcases g5 a ha with q | q
          · exact nb a (by simp [q]) y
          · exact nn (bt a y) q
        · exact g7 a ha y
      · exact old (.inr ha)
  · rcases ha with ha | ha
    · rw [gB a ha]; exact bt a ha
    · exact g8 a ha
/-- a slot's thing comes to hand -/
theorem Sat.take {i : Nat} (S : Sat F B mg H σ ρ T) (e : ρ[i]? = some (some d)) (nx : d.isX = false) : ∃ v, σ[i]? = some (some v) ∧ Sat F B mg H σ (ρ.set i none) ((v, d) :: T) := by
  obtain ⟨⟨o1, o2, h1, h2, nd, nb⟩, fb, bt⟩ := S
  obtain ⟨v, f, g, p, q, r, s⟩ := h1.take e
  have pp : (o1 ++ o2).Perm (g ++ (f ++ o2)) := by
    refine (List.Perm.append_right o2 p).trans ?_
    rw [← List.append_assoc]
    exact List.Perm.append_right _ List.perm_append_comm
  exact ⟨v, q, ⟨g, f ++ o2, s, ⟨f, o2, rfl, RT.of (r.own nx), h2⟩, pp.nodup_iff.mp nd, fun a ha => nb a (pp.mem_iff.mpr ha)⟩, fb, bt⟩
/-- .. and goes into a slot: its own one, or another -/
theorem Sat.put {i : Nat} (S : Sat F B mg H σ ρ ((v, d) :: T)) (n : ∀ j, d ≠ .sl j) (hi : i < ρ.length) (ht : σ[i]? = some (some v) ∨ ∀ x ∈ T, x.2 ≠ .sl i) : Sat F B mg H (σ.set i (some v)) (ρ.set i (some d)) T := by
  obtain ⟨⟨o1, o2, h1, h2, nd, nb⟩, fb, bt⟩ := S
  obtain ⟨f, o3, e, r, h3⟩ := h2
  subst e
  obtain ⟨g, sg, h4⟩ := h1.drop i (some v)
  have e0 : (ρ.set i none)[i]? = some none := by simp [hi]
  obtain ⟨g2, p2, h5⟩ := h4.put (i := i) e0 (RX.of (r.own n))
  simp only [List.set_set] at h5
  have tt : ∀ {T : Tm} {o3 : List Addr}, (σ[i]? = some (some v) ∨ ∀ x ∈ T, x.2 ≠ .sl i) → RTs F mg H σ T o3 → RTs F mg H (σ.set i (some v)) T o3 := by
    intro T
    induction T with
    | nil => exact fun _ h => h
    | cons x T ih =>
      rintro o3 hx ⟨f1, f2, e, k1, k2⟩
      refine ⟨f1, f2, e, ?_, ih (hx.imp_right fun z y hy => z y (List.mem_cons_of_mem _ hy)) k2⟩
      obtain ⟨xv, xd⟩ := x
      cases xd with
      | sl j =>
        obtain ⟨k3, k4⟩ := k1
        refine ⟨?_, k4⟩
        by_cases hj : i = j
        · subst hj
          rcases hx with hx | hx
          · rw [hx] at k3
            cases k3
            rw [List.getElem?_set_self (by rw [h1.length]; exact hi)]
          · exact absurd rfl (hx _ (List.mem_cons_self ..))
        · rw [List.getElem?_set_ne hj]
          exact k3
      | _ => exact k1
  have pp : (g2 ++ o3).Perm (g ++ (f ++ o3)) := by
    rw [← List.append_assoc]
    exact List.Perm.append_right _ (p2.trans List.perm_append_comm)
  have ss : (g ++ (f ++ o3)).Sublist (o1 ++ (f ++ o3)) := List.Sublist.append_right sg _
  exact ⟨⟨g2, o3, h5, tt ht h3, pp.nodup_iff.mpr (nd.sublist ss), fun a ha => nb a (ss.mem (pp.mem_iff.mp ha))⟩, fb, bt⟩
/-- a slot is forgotten -/
theorem Sat.forget (S : Sat F B mg H σ ρ T) (i : Nat) : Sat F B mg H σ (ρ.set i none) T := by
  obtain ⟨⟨o1, o2, h1, h2, nd, nb⟩, fb, bt⟩ := S
  by_cases hi : i < σ.length
  · obtain ⟨g, sg, h4⟩ := h1.drop i σ[i]
    rw [List.set_getElem_self] at h4
    have ss : (g ++ o2).Sublist (o1 ++ o2) := List.Sublist.append_right sg _
    exact ⟨⟨g, o2, h4, h2, nd.sublist ss, fun a ha => nb a (ss.mem ha)⟩, fb, bt⟩
  · rw [List.set_eq_of_length_le (by rw [← h1.length]; omega)]
    exact ⟨⟨o1, o2, h1, h2, nd, nb⟩, fb, bt⟩
theorem Sat.get {i : Nat} (S : Sat F B mg H σ ρ T) (e : ρ[i]? = some (some d)) (nx : d.isX = false) : ∃ v, σ[i]? = some (some v) ∧ ∃ f, RepO F mg H d v f := by
  obtain ⟨⟨o1, o2, h1, h2, nd, nb⟩, fb, bt⟩ := S
  obtain ⟨v, f, q, r⟩ := h1.get e
  exact ⟨v, q, f, r.own nx⟩
/-- a frozen value comes to hand -/
theorem Sat.push (S : Sat F B mg H σ ρ T) (h : Rep F mg H d v) : Sat F B mg H σ ρ ((v, d) :: T) := by
  obtain ⟨⟨o1, o2, h1, h2, nd, nb⟩, fb, bt⟩ := S
  exact ⟨⟨o1, o2, h1, ⟨[], o2, rfl, RT.of (Rep.owned _ _ h), h2⟩, nd, nb⟩, fb, bt⟩
theorem Sat.pushSl {i : Nat} (S : Sat F B mg H σ ρ T) (h : σ[i]? = some (some v)) : Sat F B mg H σ ρ ((v, .sl i) :: T) := by
  obtain ⟨⟨o1, o2, h1, h2, nd, nb⟩, fb, bt⟩ := S
  exact ⟨⟨o1, o2, h1, ⟨[], o2, rfl, ⟨h, rfl⟩, h2⟩, nd, nb⟩, fb, bt⟩
/-- the abstract heap grows by an object that nobody knows -/
theorem Sat.grow {p : Addr} {o : HO} (S : Sat F B mg H σ ρ T) (hp : H p = none) : Ext F B H F B (upd H p o) ∧ Sat F B mg (upd H p o) σ ρ T := by
  obtain ⟨⟨o1, o2, h1, h2, nd, nb⟩, fb, bt⟩ := S
  have k : ∀ {a}, (∃ o, H a = some o) → upd H p o a = H a := fun {a} ⟨u, e⟩ => upd_ne (ne_of_none e hp)
  have ag : Ag F H F (upd H p o) := ⟨fun _ h => h, fun a ha => k (bt a (fb a ha))⟩
  refine ⟨⟨fun _ h => h, fun _ h => h, fun a ha => k (bt a ha), fun _ h => .inl h⟩, ⟨o1, o2, h1.mono ag fun a ha => k (h1.there a ha), h2.mono ag fun a ha => k (h2.there a ha), nd, nb⟩, fb, fun a ha => ?_⟩
  rw [k (bt a ha)]
  exact bt a ha
end SV
end
section
set_option Elab.async false
set_option linter.all false
set_option maxRecDepth 100000
set_option maxHeartbeats 4000000
namespace SV
open PySem PySem.Spec L2
/-! ### what is reckoned -/
inductive Res (α : Type) where
  | ok (a : α) | exc (c : Str) (fs : List (Str × D))
abbrev M (α : Type) := Env → Option (Res α × Env)
def bnd {α β : Type} (m : M α) (k : α → M β) : M β := fun ρ => match m ρ with
  | some (.ok a, ρ1) => k a ρ1
  | some (.exc c fs, ρ1) => some (.exc c fs, ρ1)
  | none => none
def ret {α : Type} (a : α) : M α := fun ρ => some (.ok a, ρ)
def stuck {α : Type} : M α := fun _ => none
section
variable (mg : Cn) (W : WX)
/-- where an exception goes -/
def PX {α : Type} (σ : St) (T : Tm) (F B : Addr → Prop) (H : Hp) (ρ' : Env) (r : Res α) : Prop := ∀ c fs, r = .exc c fs → ∀ F' B' H' cls dx, Ext F B H F' B' H' → Sat F' B' mg H' σ ρ' T → ExcAt F' mg H' cls dx c fs → W cls dx σ H'
def SimE (t : TE) (m : M D) : Prop := ∀ (F B : Addr → Prop) (H : Hp) (σ : St) (ρ : Env) (T : Tm) (Q : VK) (r : Res D) (ρ' : Env), Sat F B mg H σ ρ T → m ρ = some (r, ρ') → PX mg W σ T F B H ρ' r →
  (∀ d, r = .ok d → ∀ F' B' H' v, Ext F B H F' B' H' → Sat F' B' mg H' σ ρ' ((v, d) :: T) → Q v H') → t σ H Q
def SimT (t : TT) (m : M Bool) : Prop := ∀ (F B : Addr → Prop) (H : Hp) (σ : St) (ρ : Env) (T : Tm) (Q : Bool → Hp → Prop) (r : Res Bool) (ρ' : Env), Sat F B mg H σ ρ T → m ρ = some (r, ρ') → PX mg W σ T F B H ρ' r →
  (∀ b, r = .ok b → ∀ F' B' H', Ext F B H F' B' H' → Sat F' B' mg H' σ ρ' T → Q b H') → t σ H Q
/-- arguments: they lie at hand in their order -/
def SimA (t : TA) (m : M (List D)) : Prop := ∀ (F B : Addr → Prop) (H : Hp) (σ : St) (ρ : Env) (T : Tm) (Q : List V → Hp → Prop) (r : Res (List D)) (ρ' : Env), Sat F B mg H σ ρ T → m ρ = some (r, ρ') → PX mg W σ T F B H ρ' r →
  (∀ ds, r = .ok ds → ∀ F' B' H' vs, Ext F B H F' B' H' → vs.length = ds.length → Sat F' B' mg H' σ ρ' (vs.zip ds ++ T) → Q vs H') → t σ H Q
/-- a rule for two values, one value, several -/
def SimR (r : R2) (f : D → D → M D) : Prop := ∀ (F B : Addr → Prop) (H : Hp) (σ : St) (ρ : Env) (T : Tm) (x y : V) (dx dy : D) (Q : VK) (res : Res D) (ρ' : Env), Sat F B mg H σ ρ ((y, dy) :: (x, dx) :: T) → f dx dy ρ = some (res, ρ') → PX mg W σ T F B H ρ' res →
  (∀ d, res = .ok d → ∀ F' B' H' v, Ext F B H F' B' H' → Sat F' B' mg H' σ ρ' ((v, d) :: T) → Q v H') → r x y H Q
def SimU (r : V → Hp → VK → Prop) (f : D → M D) : Prop := ∀ (F B : Addr → Prop) (H : Hp) (σ : St) (ρ : Env) (T : Tm) (x : V) (dx : D) (Q : VK) (res : Res D) (ρ' : Env), Sat F B mg H σ ρ ((x, dx) :: T) → f dx ρ = some (res, ρ') → PX mg W σ T F B H ρ' res →
  (∀ d, res = .ok d → ∀ F' B' H' v, Ext F B H F' B' H' → Sat F' B' mg H' σ ρ' ((v, d) :: T) → Q v H') → r x H Q
def SimC (r : List V → Hp → VK → Prop) (f : List D → M D) : Prop := ∀ (F B : Addr → Prop) (H : Hp) (σ : St) (ρ : Env) (T : Tm) (xs : List V) (ds : List D) (Q : VK) (res : Res D) (ρ' : Env), xs.length = ds.length → Sat F B mg H σ ρ (xs.zip ds ++ T) → f ds ρ = some (res, ρ') → PX mg W σ T F B H ρ' res →
  (∀ d, res = .ok d → ∀ F' B' H' v, Ext F B H F' B' H' → Sat F' B' mg H' σ ρ' ((v, d) :: T) → Q v H') → r xs H Q
end
section
variable {F B F' B' : Addr → Prop} {mg : Cn} {W : WX} {H H' : Hp} {σ : St} {ρ ρ' : Env} {T : Tm} {v : V} {d : D}
theorem PX.shift {α : Type} {r : Res α} (x : Ext F B H F' B' H') (p : PX mg W σ T F B H ρ' r) : PX mg W σ T F' B' H' ρ' r := fun c fs e F2 B2 H2 cls dx y S z => p c fs e F2 B2 H2 cls dx (x.trans y) S z
theorem PX.more {α : Type} {r : Res α} {T' : Tm} (p : PX mg W σ T F B H ρ' r) : PX mg W σ (T' ++ T) F B H ρ' r := fun c fs e F2 B2 H2 cls dx y S z => p c fs e F2 B2 H2 cls dx y S.sub z
theorem PX.cons {α : Type} {r : Res α} {x : V × D} (p : PX mg W σ T F B H ρ' r) : PX mg W σ (x :: T) F B H ρ' r := fun c fs e F2 B2 H2 cls dx y S z => p c fs e F2 B2 H2 cls dx y S.pop z
theorem PX.cast {α β : Type} {c : Str} {fs : List (Str × D)} (p : PX (α := α) mg W σ T F B H ρ' (.exc c fs)) : PX (α := β) mg W σ T F B H ρ' (.exc c fs) := fun c' fs' e => by
  cases e
  exact p c fs rfl
theorem PX.ok {α : Type} {a : α} : PX mg W σ T F B H ρ' (.ok a) := fun c' fs' e => by cases e
/-- one thing after another -/
theorem SimE.bind {β : Type} {ta : TE} {ma : M D} (ha : SimE mg W ta ma) {k : D → M β} {r : Res β} {R : V → Hp → Prop} (S : Sat F B mg H σ ρ T) (e : bnd ma k ρ = some (r, ρ')) (px : PX mg W σ T F B H ρ' r)
    (h : ∀ d ρ1 F1 B1 H1 v, k d ρ1 = some (r, ρ') → Ext F B H F1 B1 H1 → Sat F1 B1 mg H1 σ ρ1 ((v, d) :: T) → R v H1) : ta σ H R := by
  unfold bnd at e
  split at e
  · rename_i a ρ1 e1
    exact ha F B H σ ρ T R (.ok a) ρ1 S e1 PX.ok fun d hd F1 B1 H1 v x S1 => by cases hd; exact h a ρ1 F1 B1 H1 v e x S1
  · rename_i c fs ρ1 e1
    cases e
    exact ha F B H σ ρ T R (.exc c fs) _ S e1 px.cast fun d hd => by cases hd
  · cases e
theorem SimT.bind {β : Type} {ta : TT} {ma : M Bool} (ha : SimT mg W ta ma) {k : Bool → M β} {r : Res β} {R : Bool → Hp → Prop} (S : Sat F B mg H σ ρ T) (e : bnd ma k ρ = some (r, ρ')) (px : PX mg W σ T F B H ρ' r)
    (h : ∀ d ρ1 F1 B1 H1, k d ρ1 = some (r, ρ') → Ext F B H F1 B1 H1 → Sat F1 B1 mg H1 σ ρ1 T → R d H1) : ta σ H R := by
  unfold bnd at e
  split at e
  · rename_i a ρ1 e1
    exact ha F B H σ ρ T R (.ok a) ρ1 S e1 PX.ok fun d hd F1 B1 H1 x S1 => by cases hd; exact h a ρ1 F1 B1 H1 e x S1
  · rename_i c fs ρ1 e1
    cases e
    exact ha F B H σ ρ T R (.exc c fs) _ S e1 px.cast fun d hd => by cases hd
  · cases e
theorem SimA.bind {β : Type} {ta : TA} {ma : M (List D)} (ha : SimA mg W ta ma) {k : List D → M β} {r : Res β} {R : List V → Hp → Prop} (S : Sat F B mg H σ ρ T) (e : bnd ma k ρ = some (r, ρ')) (px : PX mg W σ T F B H ρ' r)
    (h : ∀ ds ρ1 F1 B1 H1 vs, k ds ρ1 = some (r, ρ') → Ext F B H F1 B1 H1 → vs.length = ds.length → Sat F1 B1 mg H1 σ ρ1 (vs.zip ds ++ T) → R vs H1) : ta σ H R := by
  unfold bnd at e
  split at e
  · rename_i a ρ1 e1
    exact ha F B H σ ρ T R (.ok a) ρ1 S e1 PX.ok fun d hd F1 B1 H1 v x l S1 => by cases hd; exact h a ρ1 F1 B1 H1 v e x l S1
  · rename_i c fs ρ1 e1
    cases e
    exact ha F B H σ ρ T R (.exc c fs) _ S e1 px.cast fun d hd => by cases hd
  · cases e
/-- the end: a value that is frozen already -/
theorem fin {Q : VK} {r : Res D} (S : Sat F B mg H σ ρ T) (h : ∀ d, r = .ok d → ∀ F' B' H' v, Ext F B H F' B' H' → Sat F' B' mg H' σ ρ ((v, d) :: T) → Q v H') (e : r = .ok d) (rp : Rep F mg H d v) : Q v H :=
  h d e F B H v Ext.refl (S.push rp)
/-! ### names and constants -/
theorem sim_int (i : Int) : SimE mg W (tC (.int i)) (ret (.int i)) := fun F B H σ ρ T Q r ρ' S e px h => by
  cases e
  exact fin S h rfl (by rfl)
theorem sim_bl (b : Bool) : SimE mg W (tC (.bl b)) (ret (.bl b)) := fun F B H σ ρ T Q r ρ' S e px h => by
  cases e
  exact fin S h rfl (by rfl)
theorem sim_str (x : Str) : SimE mg W (tC (.str x)) (ret (.str x)) := fun F B H σ ρ T Q r ρ' S e px h => by
  cases e
  exact fin S h rfl (by rfl)
theorem sim_non : SimE mg W (tC .non) (ret .non) := fun F B H σ ρ T Q r ρ' S e px h => by
  cases e
  exact fin S h rfl (by rfl)
def mVar (i : Nat) : M D := fun ρ => match ρ[i]? with
  | some (some d) => if d.own = true then some (.ok (.sl i), ρ) else if d.isX = true then none else some (.ok d, ρ)
  | _ => none
theorem sim_var (i : Nat) : SimE mg W (tVar i) (mVar i) := fun F B H σ ρ T Q r ρ' S e px h => by
  unfold mVar at e
  split at e
  · rename_i d e1
    split at e
    · rename_i n
      obtain ⟨v, hv, f, hr⟩ := S.get e1 (by cases d <;> first | rfl | cases n)
      cases e
      exact ⟨v, hv, h _ rfl F B H v Ext.refl (S.pushSl hv)⟩
    · rename_i n
      split at e
      · cases e
      · rename_i n2
        obtain ⟨v, hv, f, hr⟩ := S.get e1 (by simpa using n2)
        cases e
        exact ⟨v, hv, fin S h rfl (hr.plain (by simpa using n)).1⟩
  · cases e
/-! ### operators -/
def mOp (f : D → D → M D) (ma mb : M D) : M D := bnd ma fun x => bnd mb fun y => f x y
theorem sim_op {r : R2} {f : D → D → M D} {ta tb : TE} {ma mb : M D} (hr : SimR mg W r f) (ha : SimE mg W ta ma) (hb : SimE mg W tb mb) : SimE mg W (tOp r ta tb) (mOp f ma mb) := fun F B H σ ρ T Q res ρ' S e px h => by
  refine ha.bind S e px fun dx ρ1 F1 B1 H1 x e1 x1 S1 => ?_
  refine hb.bind S1 e1 (px.shift x1).cons fun dy ρ2 F2 B2 H2 y e2 x2 S2 => ?_
  exact hr F2 B2 H2 σ ρ2 T x y dx dy Q res ρ' S2 e2 (px.shift (x1.trans x2)) fun d hd F' B' H' v x3 S3 => h d hd F' B' H' v ((x1.trans x2).trans x3) S3
def mUn (f : D → M D) (ma : M D) : M D := bnd ma f
theorem sim_un {r : V → Hp → VK → Prop} {f : D → M D} {ta : TE} {ma : M D} (hr : SimU mg W r f) (ha : SimE mg W ta ma) : SimE mg W (tUn r ta) (mUn f ma) := fun F B H σ ρ T Q res ρ' S e px h => by
  refine ha.bind S e px fun dx ρ1 F1 B1 H1 x e1 x1 S1 => ?_
  exact hr F1 B1 H1 σ ρ1 T x dx Q res ρ' S1 e1 (px.shift x1) fun d hd F' B' H' v x3 S3 => h d hd F' B' H' v (x1.trans x3) S3
/-- ints in, a scalar out -/
def fII (p : Int → Int → Bool) (g : Int → Int → D) : D → D → M D
  | .int i, .int j => if p i j = true then ret (g i j) else stuck
  | _, _ => stuck
theorem fII_some {p : Int → Int → Bool} {g : Int → Int → D} {x y : D} {ρ : Env} {z : Res D × Env} (e : fII p g x y ρ = some z) : ∃ i j, x = .int i ∧ y = .int j ∧ p i j = true ∧ z = (.ok (g i j), ρ) := by
  unfold fII at e
  split at e
  · rename_i i j
    split at e
    · rename_i c
      cases e
      exact ⟨i, j, rfl, rfl, c, rfl⟩
    · cases e
  · cases e
/-- the scalars as values -/
def D.sv : D → Option V
  | .non => some .non | .bl b => some (.bl b) | .int i => some (.int i) | .str x => some (.str x) | _ => none
theorem rep_sv {F : Addr → Prop} {mg : Cn} {H : Hp} {d : D} {v : V} (h : d.sv = some v) : Rep F mg H d v := by
  cases d <;> first | (cases h; rfl) | cases h
theorem rt_int {f : List Addr} {i : Int} (h : RT F mg H σ (.int i) v f) : v = .int i := h.1
theorem rt_str {f : List Addr} {i : Str} (h : RT F mg H σ (.str i) v f) : v = .str i := h.1
theorem rt_bl {f : List Addr} {i : Bool} (h : RT F mg H σ (.bl i) v f) : v = .bl i := h.1
theorem rt_non {f : List Addr} (h : RT F mg H σ .non v f) : v = .non := h.1
theorem simr_I0 {g : Int → Int → V} {gd : Int → Int → D} (hg : ∀ i j, (gd i j).sv = some (g i j)) : SimR mg W (rI0 g) (fII (fun _ _ => true) gd) := fun F B H σ ρ T x y dx dy Q res ρ' S e px h => by
  obtain ⟨i, j, rfl, rfl, _, z⟩ := fII_some e
  cases z
  obtain ⟨_, ry⟩ := S.top
  obtain ⟨_, rx⟩ := S.pop.top
  cases rt_int ry
  cases rt_int rx
  exact ⟨i, j, rfl, rfl, fin S.pop.pop h rfl (rep_sv (hg i j))⟩
theorem simr_I {C : Int → Int → Prop} {p : Int → Int → Bool} {g : Int → Int → V} {gd : Int → Int → D} (hp : ∀ i j, p i j = true → C i j) (hg : ∀ i j, (gd i j).sv = some (g i j)) : SimR mg W (rI C g) (fII p gd) := fun F B H σ ρ T x y dx dy Q res ρ' S e px h => by
  obtain ⟨i, j, rfl, rfl, c, z⟩ := fII_some e
  cases z
  obtain ⟨_, ry⟩ := S.top
  obtain ⟨_, rx⟩ := S.pop.top
  cases rt_int ry
  cases rt_int rx
  exact ⟨i, j, rfl, rfl, hp i j c, fin S.pop.pop h rfl (rep_sv (hg i j))⟩
abbrev fAdd := fII (fun _ _ => true) fun i j => .int (i + j)
abbrev fSub := fII (fun _ _ => true) fun i j => .int (i - j)
abbrev fLt := fII (fun _ _ => true) fun i j => .bl (decide (i < j))
abbrev fLe := fII (fun _ _ => true) fun i j => .bl (decide (i ≤ j))
abbrev fGt := fII (fun _ _ => true) fun i j => .bl (decide (j < i))
abbrev fGe := fII (fun _ _ => true) fun i j => .bl (decide (j ≤ i))
abbrev fMul := fII (fun i j => (decide (-(2 ^ 64) < i) && decide (i < 2 ^ 64)) || (decide (-(2 ^ 64) < j) && decide (j < 2 ^ 64))) fun i j => .int (i * j)
abbrev fDiv := fII (fun _ j => decide (0 < j) && decide (j.natAbs.log2 < 9000)) fun i j => .int (i / j)
abbrev fMod := fII (fun _ j => decide (0 < j)) fun i j => .int (i % j)
abbrev fPow := fII (fun i j => decide (0 ≤ j) && (decide (j ≤ 1000000) && decide (i.natAbs < 2 ^ 64))) fun i j => .int (i ^ j.toNat)
theorem r_add : SimR mg W (rI0 fun i j => .int (i + j)) fAdd := simr_I0 fun _ _ => rfl
theorem r_sub : SimR mg W (rI0 fun i j => .int (i - j)) fSub := simr_I0 fun _ _ => rfl
theorem r_lt : SimR mg W (rI0 fun i j => .bl (decide (i < j))) fLt := simr_I0 fun _ _ => rfl
theorem r_le : SimR mg W (rI0 fun i j => .bl (decide (i ≤ j))) fLe := simr_I0 fun _ _ => rfl
theorem r_gt : SimR mg W (rI0 fun i j => .bl (decide (j < i))) fGt := simr_I0 fun _ _ => rfl
theorem r_ge : SimR mg W (rI0 fun i j => .bl (decide (j ≤ i))) fGe := simr_I0 fun _ _ => rfl
theorem r_mul : SimR mg W (rI CMul fun i j => .int (i * j)) fMul := simr_I (fun i j h => by
  simp only [Bool.or_eq_true, Bool.and_eq_true, decide_eq_true_eq] at h
  exact h) fun _ _ => rfl
theorem r_div : SimR mg W (rI CDivW fun i j => .int (i / j)) fDiv := simr_I (fun i j h => by
  simp only [Bool.and_eq_true, decide_eq_true_eq] at h
  exact h) fun _ _ => rfl
theorem r_mod : SimR mg W (rI (fun _ j => 0 < j) fun i j => .int (i % j)) fMod := simr_I (fun i j h => by simpa using h) fun _ _ => rfl
theorem r_pow : SimR mg W (rI CPow fun i j => .int (i ^ j.toNat)) fPow := simr_I (fun i j h => by
  simp only [Bool.and_eq_true, decide_eq_true_eq] at h
  exact h) fun _ _ => rfl
def fNeg : D → M D
  | .int i => ret (.int (-i))
  | _ => stuck
theorem u_neg : SimU mg W (rU fun i => .int (-i)) fNeg := fun F B H σ ρ T x dx Q res ρ' S e px h => by
  unfold fNeg at e
  split at e
  · rename_i i
    cases e
    obtain ⟨_, rx⟩ := S.top
    cases rt_int rx
    exact ⟨i, rfl, fin S.pop h rfl (by rfl)⟩
  · cases e
/-! ### tests -/
/-- a value that is a bool, as a test -/
def mTb (m : M D) : M Bool := bnd m fun d => match d with
  | .bl b => ret b
  | _ => stuck
theorem sim_tb {t : TE} {m : M D} (hm : SimE mg W t m) : SimT mg W (tB t) (mTb m) := fun F B H σ ρ T Q r ρ' S e px h => by
  refine hm.bind S e px fun d ρ1 F1 B1 H1 v e1 x1 S1 => ?_
  split at e1
  · rename_i b
    cases e1
    obtain ⟨_, rx⟩ := S1.top
    exact ⟨b, rt_bl rx, h b rfl F1 B1 H1 x1 S1.pop⟩
  · cases e1
theorem sim_test {t : TE} {m : M D} (hm : SimE mg W t m) : SimT mg W (tTest t) (mTb m) := sim_tb hm
def mAnd (a b : M Bool) : M Bool := bnd a fun c => if c = true then b else ret false
def mOr (a b : M Bool) : M Bool := bnd a fun c => if c = true then ret true else b
def mNot (a : M Bool) : M Bool := bnd a fun c => ret (!c)
theorem sim_and {t u : TT} {a b : M Bool} (ha : SimT mg W t a) (hb : SimT mg W u b) : SimT mg W (tAnd t u) (mAnd a b) := fun F B H σ ρ T Q r ρ' S e px h => by
  refine ha.bind S e px fun c ρ1 F1 B1 H1 e1 x1 S1 => ?_
  cases c with
  | true => exact hb F1 B1 H1 σ ρ1 T Q r ρ' S1 e1 (px.shift x1) fun b hb F' B' H' x S' => h b hb F' B' H' (x1.trans x) S'
  | false => cases e1; exact h false rfl F1 B1 H1 x1 S1
theorem sim_or {t u : TT} {a b : M Bool} (ha : SimT mg W t a) (hb : SimT mg W u b) : SimT mg W (tOr t u) (mOr a b) := fun F B H σ ρ T Q r ρ' S e px h => by
  refine ha.bind S e px fun c ρ1 F1 B1 H1 e1 x1 S1 => ?_
  cases c with
  | false => exact hb F1 B1 H1 σ ρ1 T Q r ρ' S1 e1 (px.shift x1) fun b hb F' B' H' x S' => h b hb F' B' H' (x1.trans x) S'
  | true => cases e1; exact h true rfl F1 B1 H1 x1 S1
theorem sim_not {t : TT} {a : M Bool} (ha : SimT mg W t a) : SimT mg W (tNot t) (mNot a) := fun F B H σ ρ T Q r ρ' S e px h => by
  refine ha.bind S e px fun c ρ1 F1 B1 H1 e1 x1 S1 => ?_
  cases e1
  exact h (!c) rfl F1 B1 H1 x1 S1
def mAndV (a b : M D) : M D := bnd a fun c => match c with
  | .bl k => if k = true then b else ret (.bl false)
  | _ => stuck
def mOrV (a b : M D) : M D := bnd a fun c => match c with
  | .bl k => if k = true then ret (.bl true) else b
  | _ => stuck
def mNotV (a : M D) : M D := bnd a fun c => match c with
  | .bl k => ret (.bl !k)
  | _ => stuck
theorem sim_andV {t u : TE} {a b : M D} (ha : SimE mg W t a) (hb : SimE mg W u b) : SimE mg W (tAndV t u) (mAndV a b) := fun F B H σ ρ T Q r ρ' S e px h => by
  refine ha.bind S e px fun c ρ1 F1 B1 H1 v e1 x1 S1 => ?_
  split at e1
  · rename_i k
    obtain ⟨_, rx⟩ := S1.top
    refine ⟨k, rt_bl rx, ?_⟩
    cases k with
    | true => exact hb F1 B1 H1 σ ρ1 T Q r ρ' S1.pop e1 (px.shift x1) fun b hb F' B' H' v x S' => h b hb F' B' H' v (x1.trans x) S'
    | false => cases e1; exact h _ rfl F1 B1 H1 _ x1 (S1.pop.push (by rfl))
  · cases e1
theorem sim_orV {t u : TE} {a b : M D} (ha : SimE mg W t a) (hb : SimE mg W u b) : SimE mg W (tOrV t u) (mOrV a b) := fun F B H σ ρ T Q r ρ' S e px h => by
  refine ha.bind S e px fun c ρ1 F1 B1 H1 v e1 x1 S1 => ?_
  split at e1
  · rename_i k
    obtain ⟨_, rx⟩ := S1.top
    refine ⟨k, rt_bl rx, ?_⟩
    cases k with
    | false => exact hb F1 B1 H1 σ ρ1 T Q r ρ' S1.pop e1 (px.shift x1) fun b hb F' B' H' v x S' => h b hb F' B' H' v (x1.trans x) S'
    | true => cases e1; exact h _ rfl F1 B1 H1 _ x1 (S1.pop.push (by rfl))
  · cases e1
theorem sim_notV {t : TE} {a : M D} (ha : SimE mg W t a) : SimE mg W (tNotV t) (mNotV a) := fun F B H σ ρ T Q r ρ' S e px h => by
  refine ha.bind S e px fun c ρ1 F1 B1 H1 v e1 x1 S1 => ?_
  split at e1
  · rename_i k
    cases e1
    obtain ⟨_, rx⟩ := S1.top
    exact ⟨k, rt_bl rx, h _ rfl F1 B1 H1 _ x1 (S1.pop.push (by rfl))⟩
  · cases e1
def mIfE (c : M Bool) (a b : M D) : M D := bnd c fun k => if k = true then a else b
theorem sim_ifE {tc : TT} {t u : TE} {c : M Bool} {a b : M D} (hc : SimT mg W tc c) (ha : SimE mg W t a) (hb : SimE mg W u b) : SimE mg W (tIf tc t u) (mIfE c a b) := fun F B H σ ρ T Q r ρ' S e px h => by
  refine hc.bind S e px fun k ρ1 F1 B1 H1 e1 x1 S1 => ?_
  cases k with
  | true => exact ha F1 B1 H1 σ ρ1 T Q r ρ' S1 e1 (px.shift x1) fun b hb F' B' H' v x S' => h b hb F' B' H' v (x1.trans x) S'
  | false => exact hb F1 B1 H1 σ ρ1 T Q r ρ' S1 e1 (px.shift x1) fun b hb F' B' H' v x S' => h b hb F' B' H' v (x1.trans x) S'
/-! ### what stands there -/
def dr (ρ : Env) : D → Option D
  | .sl i => (match ρ[i]? with
    | some (some d) => if d.isX = true then none else some d
    | _ => none)
  | d => some d
theorem Sat.look {d' : D} (S : Sat F B mg H σ ρ T) (hx : (v, d) ∈ T) (e : dr ρ d = some d') : ∃ f, RepO F mg H d' v f := by
  obtain ⟨g, r⟩ := S.mem hx
  cases d with
  | sl i =>
    have e : (match ρ[i]? with
      | some (some d) => if d.isX = true then none else some d
      | _ => none) = some d' := e
    split at e
    · rename_i d2 e1
      split at e
      · cases e
      · rename_i nx
        cases e
        obtain ⟨v', hv, f, hr⟩ := S.get e1 (by simpa using nx)
        have hs : σ[i]? = some (some v) := r.1
        rw [hs] at hv
        cases hv
        exact ⟨f, hr⟩
    · cases e
  | _ => cases e; exact ⟨g, r⟩
theorem Sat.look1 {d' : D} (S : Sat F B mg H σ ρ ((v, d) :: T)) (e : dr ρ d = some d') : ∃ f, RepO F mg H d' v f := S.look (List.mem_cons_self ..) e
theorem repO_non {f : List Addr} (h : RepO F mg H d v f) : v = .non ↔ d = .non := by
  cases d with
  | non => exact ⟨fun _ => rfl, fun _ => h.1⟩
  | bl b => exact ⟨fun z => (by rw [show v = .bl b from h.1] at z; cases z), fun z => by cases z⟩
  | int b => exact ⟨fun z => (by rw [show v = .int b from h.1] at z; cases z), fun z => by cases z⟩
  | str b => exact ⟨fun z => (by rw [show v = .str b from h.1] at z; cases z), fun z => by cases z⟩
  | tup b => obtain ⟨⟨a, vs, e, _⟩, _⟩ := h; exact ⟨fun z => (by rw [e] at z; cases z), fun z => by cases z⟩
  | lst b => obtain ⟨⟨a, vs, e, _⟩, _⟩ := h; exact ⟨fun z => (by rw [e] at z; cases z), fun z => by cases z⟩
  | fz b => obtain ⟨⟨a, vs, e, _⟩, _⟩ := h; exact ⟨fun z => (by rw [e] at z; cases z), fun z => by cases z⟩
  | rg lo hi => obtain ⟨⟨a, e, _⟩, _⟩ := h; exact ⟨fun z => (by rw [e] at z; cases z), fun z => by cases z⟩
  | dk b _ => obtain ⟨⟨a, vs, e, _⟩, _⟩ := h; exact ⟨fun z => (by rw [e] at z; cases z), fun z => by cases z⟩
  | ins _ _ _ => obtain ⟨⟨a, _, _, vs, e, _⟩, _⟩ := h; exact ⟨fun z => (by rw [e] at z; cases z), fun z => by cases z⟩
  | xv _ _ _ => obtain ⟨⟨a, _, _, vs, e, _⟩, _⟩ := h; exact ⟨fun z => (by rw [e] at z; cases z), fun z => by cases z⟩
  | xw _ => obtain ⟨⟨a, _, e, _⟩, _⟩ := h; exact ⟨fun z => (by rw [e] at z; cases z), fun z => by cases z⟩
  | ol b => obtain ⟨a, vs, _, e, _⟩ := h; exact ⟨fun z => (by rw [e] at z; cases z), fun z => by cases z⟩
  | od b _ => obtain ⟨a, vs, _, e, _⟩ := h; exact ⟨fun z => (by rw [e] at z; cases z), fun z => by cases z⟩
  | oi _ _ _ => obtain ⟨a, _, _, vs, _, e, _⟩ := h; exact ⟨fun z => (by rw [e] at z; cases z), fun z => by cases z⟩
  | sl i => exact h.elim
  | xc _ _ _ => exact h.elim
/-! ### is None -/
def D.isNon : D → Bool
  | .non => true
  | _ => false
theorem repO_isNon {f : List Addr} (h : RepO F mg H d v f) : decide (v = .non) = d.isNon := by
  have k := repO_non h
  cases d <;> first
    | (rw [decide_eq_true (k.mpr rfl)]; rfl)
    | (rw [decide_eq_false (fun z => by have := k.mp z; cases this)]; rfl)
/-- look and answer -/
def fLook (g : D → Option D) : D → M D := fun d ρ => match dr ρ d with
  | some x => (match g x with
    | some y => some (.ok y, ρ)
    | none => none)
  | none => none
theorem fLook_some {g : D → Option D} {ρ : Env} {z : Res D × Env} (e : fLook g d ρ = some z) : ∃ x y, dr ρ d = some x ∧ g x = some y ∧ z = (.ok y, ρ) := by
  unfold fLook at e
  split at e
  · rename_i x e1
    split at e
    · rename_i y e2
      cases e
      exact ⟨x, y, e1, e2, rfl⟩
    · cases e
  · cases e
/-- a rule that looks at one value and gives a scalar -/
theorem simU_look {r : V → Hp → VK → Prop} {g : D → Option D} (hr : ∀ (F B : Addr → Prop) (H : Hp) (x : V) (d y : D) (f : List Addr) (Q : VK), RepO F mg H d x f → g d = some y → (∀ u, Rep F mg H y u → Q u H) → r x H Q) : SimU mg W r (fLook g) := fun F B H σ ρ T x dx Q res ρ' S e px h => by
  obtain ⟨d, y, e1, e2, z⟩ := fLook_some e
  cases z
  obtain ⟨f, rp⟩ := S.look1 e1
  exact hr F B H x d y f Q rp e2 fun u ru => fin S.pop h rfl ru
def mIsN (a : M D) : M D := mUn (fLook fun d => some (.bl d.isNon)) a
def mNotN (a : M D) : M D := mUn (fLook fun d => some (.bl !d.isNon)) a
theorem sim_isN {t : TE} {a : M D} (ha : SimE mg W t a) : SimE mg W (tIsN t) (mIsN a) :=
  sim_un (r := fun x H1 Q => Q (.bl (decide (x = .non))) H1) (simU_look fun F B H x d y f Q rp e q => by cases e; exact q _ (by rw [repO_isNon rp]; rfl)) ha
theorem sim_notN {t : TE} {a : M D} (ha : SimE mg W t a) : SimE mg W (tNotN t) (mNotN a) :=
  sim_un (r := fun x H1 Q => Q (.bl (!decide (x = .non))) H1) (simU_look fun F B H x d y f Q rp e q => by cases e; exact q _ (by rw [repO_isNon rp]; rfl)) ha
/-! ### arguments -/
def mNil : M (List D) := ret []
def mCons (a : M D) (r : M (List D)) : M (List D) := bnd a fun x => bnd r fun xs => ret (x :: xs)
theorem sim_nil : SimA mg W tNil mNil := fun F B H σ ρ T Q r ρ' S e px h => by
  cases e
  exact h [] rfl F B H [] Ext.refl rfl S
theorem sim_cons {t : TE} {u : TA} {a : M D} {b : M (List D)} (ha : SimE mg W t a) (hb : SimA mg W u b) : SimA mg W (tCons t u) (mCons a b) := fun F B H σ ρ T Q r ρ' S e px h => by
  refine ha.bind S e px fun d ρ1 F1 B1 H1 v e1 x1 S1 => ?_
  refine hb.bind S1 e1 (px.shift x1).cons fun ds ρ2 F2 B2 H2 vs e2 x2 l S2 => ?_
  cases e2
  refine h (d :: ds) rfl F2 B2 H2 (v :: vs) (x1.trans x2) (by simp [l]) (S2.perm ?_)
  simpa using List.perm_middle
end
end SV
end
section
set_option Elab.async false
set_option linter.all false
set_option maxRecDepth 100000
set_option maxHeartbeats 4000000
namespace SV
open PySem PySem.Spec L2
abbrev lim : Nat := 16777216
theorem lim_eq : sizeLine = lim := sizeLine_eq
section
variable {F B F' B' : Addr → Prop} {mg : Cn} {W : WX} {H H' : Hp} {σ : St} {ρ ρ' : Env} {T : Tm} {v : V} {d : D}
/-! ### freezing -/
theorem RTs.nilT {fs : List Addr} (h : RTs F mg H σ [] fs) : fs = [] := h
theorem RTs.one {fs : List Addr} (h : RTs F mg H σ [(v, d)] fs) : RT F mg H σ d v fs := by
  obtain ⟨f1, f2, e, h1, h2⟩ := h
  have h2 : f2 = [] := h2
  subst h2
  rw [e, List.append_nil]
  exact h1
theorem frz_nsl {d : D} (n : ∀ i, d ≠ .sl i) : ∀ i, d.frz ≠ .sl i := fun i => by
  cases d <;> first | exact absurd rfl (n _) | (intro z; cases z)
/-- the thing at hand is frozen -/
theorem Sat.freeze (S : Sat F B mg H σ ρ ((v, d) :: T)) (n : ∀ i, d ≠ .sl i) : ∃ F' B', Ext F B H F' B' H ∧ Sat F' B' mg H σ ρ ((v, d.frz) :: T) ∧ Rep F' mg H d.frz v := by
  have key : ∃ F' : Addr → Prop, Ext F B H F' (fun a => B a ∨ F' a) H ∧ Sat F' (fun a => B a ∨ F' a) mg H σ ρ ([(v, d.frz)] ++ T) :=
    Sat.step (Ts := [(v, d)]) S fun fs hr _ hb => by
      have ro := hr.one.own n
      have t := RepO.there _ _ _ ro
      have rf : Rep (fun a => F a ∨ a ∈ fs) mg H d.frz v := RepO.frz (fun a h => .inl h) d v fs (fun a h => .inr h) ro
      refine ⟨fun a => F a ∨ a ∈ fs, [], fun a h => .inl h, fun _ _ _ => rfl, ⟨[], [], rfl, RT.of (Rep.owned _ _ rf), rfl⟩, List.nodup_nil, fun a h => by simp at h, fun a h => h.elim .inl fun z => .inr (.inl z), fun a h => by simp at h, fun a h => ?_⟩
      rcases h with h | h
      · exact S.tru h
      · exact t a h
  obtain ⟨F', x, S'⟩ := key
  have hf := frz_nsl n
  obtain ⟨g, r⟩ := S'.top
  have hno : d.frz.own = false := by cases d <;> rfl
  exact ⟨F', _, x, S', (RepO.plain (r.own hf) hno).1⟩
def fFrz : D → M D := fun d ρ => match d with
  | .sl i => (match ρ[i]? with
    | some (some c) => if c.isX = true then none else some (.ok c.frz, ρ.set i (some c.frz))
    | _ => none)
  | d => some (.ok d.frz, ρ)
theorem Sat.fFrz {z : Res D × Env} (S : Sat F B mg H σ ρ ((v, d) :: T)) (e : fFrz d ρ = some z) : ∃ d', z.1 = .ok d' ∧ ∃ F' B', Ext F B H F' B' H ∧ Sat F' B' mg H σ z.2 ((v, d') :: T) ∧ Rep F' mg H d' v := by
  cases d with
  | sl i =>
    have e : (match ρ[i]? with
      | some (some c) => if c.isX = true then none else some (Res.ok c.frz, ρ.set i (some c.frz))
      | _ => none) = some z := e
    split at e
    · rename_i c e1
      split at e
      · cases e
      rename_i nx
      have nx : c.isX = false := by simpa using nx
      cases e
      obtain ⟨g, r⟩ := S.top
      have hs : σ[i]? = some (some v) := r.1
      have hi : i < ρ.length := (List.getElem?_eq_some_iff.mp e1).1
      obtain ⟨v', hv', S1⟩ := S.pop.take e1 nx
      rw [hs] at hv'
      cases hv'
      have hc : ∀ j, c ≠ .sl j := fun j z => by
        obtain ⟨_, r⟩ := S1.top
        obtain ⟨_, _, _, r2⟩ := S.get e1 nx
        rw [z] at r2
        exact r2.elim
      obtain ⟨F', B', x, S2, rf⟩ := S1.freeze hc
      have hf := frz_nsl hc
      have S3 := S2.put (i := i) hf (by simpa using hi) (.inl hs)
      rw [List.set_set] at S3
      have es : σ.set i (some v) = σ := by
        apply List.ext_getElem?
        intro j
        by_cases hj : i = j
        · subst hj
          rw [List.getElem?_set_self (List.getElem?_eq_some_iff.mp hs).1, hs]
        · rw [List.getElem?_set_ne hj]
      rw [es] at S3
      exact ⟨c.frz, rfl, F', B', x, S3.push rf, rf⟩
    · cases e
  | _ =>
    cases e
    obtain ⟨F', B', x, S', rf⟩ := S.freeze (fun i z => by cases z)
    exact ⟨_, rfl, F', B', x, S', rf⟩
/-- all the things at hand are frozen -/
def fFrzs : List D → M (List D)
  | [] => ret []
  | d :: ds => bnd (fFrz d) fun x => bnd (fFrzs ds) fun xs => ret (x :: xs)
theorem fFrz_ok {z : Res D × Env} (e : fFrz d ρ = some z) : ∃ d', z.1 = .ok d' := by
  cases d with
  | sl i =>
    have e : (match ρ[i]? with
      | some (some c) => if c.isX = true then none else some (Res.ok c.frz, ρ.set i (some c.frz))
      | _ => none) = some z := e
    split at e
    · split at e
      · cases e
      · cases e; exact ⟨_, rfl⟩
    · cases e
  | _ => cases e; exact ⟨_, rfl⟩
theorem bnd_ok {α β : Type} {m : M α} {k : α → M β} {ρ ρ1 : Env} {a : α} (h : m ρ = some (.ok a, ρ1)) : bnd m k ρ = k a ρ1 := by unfold bnd; rw [h]
theorem bnd_some {α β : Type} {m : M α} {k : α → M β} {ρ : Env} {z : Res β × Env} (e : bnd m k ρ = some z) : (∃ a ρ1, m ρ = some (.ok a, ρ1) ∧ k a ρ1 = some z) ∨ ∃ c fs, m ρ = some (.exc c fs, z.2) ∧ z.1 = .exc c fs := by
  unfold bnd at e
  split at e
  · rename_i a ρ1 e1
    exact .inl ⟨a, ρ1, e1, e⟩
  · rename_i c fs ρ1 e1
    cases e
    exact .inr ⟨c, fs, e1, rfl⟩
  · cases e
theorem Sat.fFrzs : ∀ {ds : List D} {vs : List V} {F B : Addr → Prop} {ρ : Env} {T : Tm} {z : Res (List D) × Env}, vs.length = ds.length → Sat F B mg H σ ρ (vs.zip ds ++ T) → fFrzs ds ρ = some z →
    ∃ ds', z.1 = .ok ds' ∧ ∃ F' B', Ext F B H F' B' H ∧ Sat F' B' mg H σ z.2 T ∧ Reps F' mg H ds' vs
  | [], vs, F, B, ρ, T, z, l, S, e => by
    cases e
    have hv : vs = [] := List.length_eq_zero_iff.mp l
    subst hv
    exact ⟨[], rfl, F, B, Ext.refl, S, rfl⟩
  | d :: ds, [], F, B, ρ, T, z, l, S, e => by simp at l
  | d :: ds, v :: vs, F, B, ρ, T, z, l, S, e => by
    have S : Sat F B mg H σ ρ ((v, d) :: (vs.zip ds ++ T)) := S
    rcases bnd_some e with ⟨x, ρ1, e1, e2⟩ | ⟨c, fs, e1, e2⟩
    · obtain ⟨d', hd', F1, B1, x1, S1, r1⟩ := S.fFrz e1
      cases hd'
      rcases bnd_some e2 with ⟨xs, ρ2, e3, e4⟩ | ⟨c, fs, e3, e4⟩
      · cases e4
        obtain ⟨ds', hds', F2, B2, x2, S2, r2⟩ := Sat.fFrzs (by simpa using l) S1.pop e3
        cases hds'
        exact ⟨_, rfl, F2, B2, x1.trans x2, S2, v, vs, rfl, Rep.mono (x2.ag S1.fb) _ _ r1, r2⟩
      · obtain ⟨ds', hds', _⟩ := Sat.fFrzs (by simpa using l) S1.pop e3
        cases hds'
    · obtain ⟨d', h⟩ := fFrz_ok e1
      cases h
/-- what is put into a list: owned things stay owned -/
def fOwn : D → M D := fun d ρ => match d with
  | .sl i => fFrz (.sl i) ρ
  | d => some (.ok d, ρ)
def fOwns : List D → M (List D)
  | [] => ret []
  | d :: ds => bnd (fOwn d) fun x => bnd (fOwns ds) fun xs => ret (x :: xs)
theorem Sat.fOwn {z : Res D × Env} (S : Sat F B mg H σ ρ ((v, d) :: T)) (e : fOwn d ρ = some z) : ∃ d', z.1 = .ok d' ∧ (∀ i, d' ≠ .sl i) ∧ ∃ F' B', Ext F B H F' B' H ∧ Sat F' B' mg H σ z.2 ((v, d') :: T) := by
  cases d with
  | sl i =>
    obtain ⟨d', h, F', B', x, S', r⟩ := S.fFrz (show SV.fFrz (.sl i) ρ = some z from e)
    exact ⟨d', h, fun j q => by rw [q] at r; exact r.elim, F', B', x, S'⟩
  | _ => cases e; exact ⟨_, rfl, fun i q => (by cases q), F, B, Ext.refl, S⟩
/-- things at hand that are no slots' -/
theorem RTs.repOs : ∀ {ds : List D} {vs : List V} {fs : List Addr}, vs.length = ds.length → (∀ d ∈ ds, ∀ i, d ≠ .sl i) → RTs F mg H σ (vs.zip ds) fs → RepOs F mg H ds vs fs
  | [], vs, fs, l, _, h => by
    have hv : vs = [] := List.length_eq_zero_iff.mp l
    subst hv
    exact ⟨rfl, h⟩
  | d :: ds, [], _, l, _, _ => by simp at l
  | d :: ds, v :: vs, fs, l, n, ⟨f1, f2, e, h1, h2⟩ => ⟨v, vs, f1, f2, rfl, e, h1.own (n d (List.mem_cons_self ..)), RTs.repOs (by simpa using l) (fun x hx => n x (List.mem_cons_of_mem _ hx)) h2⟩
theorem RepOs.rts : ∀ {ds : List D} {vs : List V} {fs : List Addr}, RepOs F mg H ds vs fs → RTs F mg H σ (vs.zip ds) fs
  | [], vs, fs, h => by rw [h.1, h.2]; rfl
  | d :: ds, _, _, ⟨v, vs, f1, f2, e, e2, h1, h2⟩ => by
    subst e
    exact ⟨f1, f2, e2, RT.of h1, RepOs.rts h2⟩
theorem Sat.fOwns : ∀ {ds : List D} {vs : List V} {F B : Addr → Prop} {ρ : Env} {T : Tm} {z : Res (List D) × Env}, vs.length = ds.length → Sat F B mg H σ ρ (vs.zip ds ++ T) → fOwns ds ρ = some z →
    ∃ ds', z.1 = .ok ds' ∧ vs.length = ds'.length ∧ (∀ d ∈ ds', ∀ i, d ≠ .sl i) ∧ ∃ F' B', Ext F B H F' B' H ∧ Sat F' B' mg H σ z.2 (vs.zip ds' ++ T)
  | [], vs, F, B, ρ, T, z, l, S, e => by
    cases e
    have hv : vs = [] := List.length_eq_zero_iff.mp l
    subst hv
    exact ⟨[], rfl, rfl, by simp, F, B, Ext.refl, S⟩
  | d :: ds, [], F, B, ρ, T, z, l, S, e => by simp at l
  | d :: ds, v :: vs, F, B, ρ, T, z, l, S, e => by
    have S : Sat F B mg H σ ρ ((v, d) :: (vs.zip ds ++ T)) := S
    rcases bnd_some e with ⟨x, ρ1, e1, e2⟩ | ⟨c, fs, e1, e2⟩
    · obtain ⟨d', hd', n1, F1, B1, x1, S1⟩ := S.fOwn e1
      cases hd'
      rcases bnd_some e2 with ⟨xs, ρ2, e3, e4⟩ | ⟨c, fs, e3, e4⟩
      · cases e4
        have S1' : Sat F1 B1 mg H σ ρ1 (vs.zip ds ++ ((v, x) :: T)) := S1.perm (List.perm_middle.symm)
        obtain ⟨ds', hds', l', n2, F2, B2, x2, S2⟩ := Sat.fOwns (by simpa using l) S1' e3
        cases hds'
        refine ⟨_, rfl, by simp [l'], ?_, F2, B2, x1.trans x2, S2.perm List.perm_middle⟩
        intro d hd
        rcases List.mem_cons.mp hd with rfl | hd
        · exact n1
        · exact n2 d hd
      · obtain ⟨ds', hds', _⟩ := Sat.fOwns (by simpa using l) (S1.perm (List.perm_middle.symm)) e3
        cases hds'
    · obtain ⟨d', h, _⟩ := S.fOwn e1
      cases h
/-! ### new objects -/
/-- a new frozen object of frozen things -/
theorem Sat.newF {p : Addr} {o : HO} (S : Sat F B mg H σ ρ T) (hp : H p = none) : ∃ F' B', Ext F B H F' B' (upd H p o) ∧ Sat F' B' mg (upd H p o) σ ρ T ∧ F' p := by
  obtain ⟨⟨o1, o2, h1, h2, nd, nb⟩, fb, bt⟩ := id S
  have k : ∀ {a}, (∃ o, H a = some o) → upd H p o a = H a := fun {a} ⟨u, e⟩ => upd_ne (ne_of_none e hp)
  have ag : Ag F H (fun a => F a ∨ a = p) (upd H p o) := ⟨fun _ h => .inl h, fun a ha => k (bt a (fb a ha))⟩
  have np : ∀ a ∈ o1 ++ o2, a ≠ p := fun a ha z => by
    have t : ∃ o, H a = some o := (List.mem_append.mp ha).elim (h1.there a) (h2.there a)
    obtain ⟨u, e⟩ := t
    rw [z, hp] at e
    cases e
  refine ⟨fun a => F a ∨ a = p, fun a => B a ∨ (F a ∨ a = p), ⟨fun _ h => .inl h, fun _ h => .inl h, fun a ha => k (bt a ha), fun a h => ?_⟩, ⟨⟨o1, o2, h1.mono ag fun a ha => k (h1.there a ha), h2.mono ag fun a ha => k (h2.there a ha), nd, fun a ha z => ?_⟩, fun a h => .inr h, fun a h => ?_⟩, .inr rfl⟩
  · rcases h with h | h
    · exact .inl h
    · refine .inr fun z => ?_
      obtain ⟨u, e⟩ := bt a z
      rw [h, hp] at e
      cases e
  · rcases z with z | z | z
    · exact nb a ha z
    · exact nb a ha (fb a z)
    · exact np a ha z
  · rcases h with h | h | h
    · rw [k (bt a h)]; exact bt a h
    · rw [k (bt a (fb a h))]; exact bt a (fb a h)
    · rw [h]; exact ⟨o, upd_same⟩
/-- a new list of the things at hand, owned -/
theorem Sat.newL {p : Addr} {ds : List D} {vs : List V} (l : vs.length = ds.length) (n : ∀ d ∈ ds, ∀ i, d ≠ .sl i) (S : Sat F B mg H σ ρ (vs.zip ds ++ T)) (hp : H p = none) :
    ∃ F' B', Ext F B H F' B' (upd H p (.lst vs)) ∧ Sat F' B' mg (upd H p (.lst vs)) σ ρ ((.ref p, .ol ds) :: T) := by
  obtain ⟨F', x, S'⟩ := Sat.step (Ts' := [(.ref p, .ol ds)]) (H' := upd H p (.lst vs)) S fun fs hr nd hb => by
    have ro := RTs.repOs l n hr
    have t := hr.there
    have k : ∀ {a}, (∃ o, H a = some o) → upd H p (.lst vs) a = H a := fun {a} ⟨u, e⟩ => upd_ne (ne_of_none e hp)
    have ag : Ag F H F (upd H p (.lst vs)) := ⟨fun _ h => h, fun a ha => k (S.tru ha)⟩
    have np : ∀ a, (∃ o, H a = some o) → a ≠ p := fun a ⟨u, e⟩ z => by rw [z, hp] at e; cases e
    refine ⟨F, p :: fs, fun _ h => h, fun a _ h => k h, ⟨p :: fs, [], by simp, ⟨p, vs, fs, rfl, rfl, upd_same, RepOs.mono ag _ _ _ (fun a ha => k (t a ha)) ro⟩, rfl⟩, List.nodup_cons.mpr ⟨fun z => np p (t p z) rfl, nd⟩, fun a h => ?_, fun a h => .inl h, fun a h => ?_, fun a h => ?_⟩
    · rcases List.mem_cons.mp h with h | h
      · exact .inr (h ▸ hp)
      · exact .inl h
    · rcases List.mem_cons.mp h with h | h
      · rw [h]; exact fun z => np p (S.tru z) rfl
      · exact fun z => hb a h (S.fb a z)
    · rw [k (S.tru h)]; exact S.tru h
  exact ⟨F', _, x, S'⟩
def mTup (a : M (List D)) : M D := bnd a fun ds => bnd (fFrzs ds) fun xs => if xs.length ≤ lim then ret (.tup xs) else stuck
theorem sim_tup {t : TA} {a : M (List D)} (ha : SimA mg W t a) : SimE mg W (tTup t) (mTup a) := fun F B H σ ρ T Q r ρ' S e px h => by
  refine ha.bind S e px fun ds ρ1 F1 B1 H1 vs e1 x1 l S1 => ?_
  rcases bnd_some e1 with ⟨xs, ρ2, e2, e3⟩ | ⟨c, fs, e2, e3⟩
  · obtain ⟨ds', hd, F2, B2, x2, S2, r2⟩ := S1.fFrzs l e2
    cases hd
    split at e3
    · rename_i hl
      cases e3
      refine ⟨by rw [lim_eq, ← r2.length]; exact hl, fun p hp => ?_⟩
      obtain ⟨F3, B3, x3, S3, fp⟩ := S2.newF (o := .tup vs) hp
      exact h _ rfl F3 B3 _ (.ref p) ((x1.trans x2).trans x3) (S3.push ⟨p, vs, rfl, fp, upd_same, Reps.mono (x3.ag S2.fb) _ _ r2⟩)
    · cases e3
  · obtain ⟨ds', hd, _⟩ := S1.fFrzs l e2
    cases hd
def mLst (a : M (List D)) : M D := bnd a fun ds => bnd (fOwns ds) fun xs => if xs.length ≤ lim then ret (.ol xs) else stuck
theorem sim_lst {t : TA} {a : M (List D)} (ha : SimA mg W t a) : SimE mg W (tLst t) (mLst a) := fun F B H σ ρ T Q r ρ' S e px h => by
  refine ha.bind S e px fun ds ρ1 F1 B1 H1 vs e1 x1 l S1 => ?_
  rcases bnd_some e1 with ⟨xs, ρ2, e2, e3⟩ | ⟨c, fs, e2, e3⟩
  · obtain ⟨ds', hd, l2, n2, F2, B2, x2, S2⟩ := S1.fOwns l e2
    cases hd
    split at e3
    · rename_i hl
      cases e3
      refine ⟨by rw [lim_eq, l2]; exact hl, fun p hp => ?_⟩
      obtain ⟨F3, B3, x3, S3⟩ := S2.newL l2 n2 hp
      exact h _ rfl F3 B3 _ (.ref p) ((x1.trans x2).trans x3) S3
    · cases e3
  · obtain ⟨ds', hd, _⟩ := S1.fOwns l e2
    cases hd
/-! ### sequences -/
/-- a list or a tuple, and whether it is a tuple -/
def D.seq : D → Option (Bool × List D)
  | .tup xs => some (true, xs)
  | .lst xs => some (false, xs)
  | .ol xs => some (false, xs)
  | _ => none
theorem RepO.seq {f : List Addr} {b : Bool} {xs : List D} (K : PySem.W.Frag) (h : RepO F mg H d v f) (e : d.seq = some (b, xs)) : ∃ a vs f', v = .ref a ∧ RepOs F mg H xs vs f' ∧ (if b = true then SqT K H a vs else SqL K H a vs) := by
  cases d with
  | tup ys =>
    cases e
    obtain ⟨⟨a, vs, e1, _, r, s⟩, _⟩ := h
    exact ⟨a, vs, _, e1, Reps.owned _ _ s, .inl (.inl r)⟩
  | lst ys =>
    cases e
    obtain ⟨⟨a, vs, e1, _, r, s⟩, _⟩ := h
    exact ⟨a, vs, _, e1, Reps.owned _ _ s, .inl (.inl r)⟩
  | ol ys =>
    cases e
    obtain ⟨a, vs, f', e1, _, r, s⟩ := h
    exact ⟨a, vs, f', e1, s, .inl (.inl r)⟩
  | _ => cases e
def plain (xs : List D) : Bool := xs.all fun d => !d.own
theorem RepOs.reps : ∀ {xs : List D} {vs : List V} {f : List Addr}, plain xs = true → RepOs F mg H xs vs f → Reps F mg H xs vs
  | [], _, _, _, h => h.1
  | d :: xs, _, _, p, ⟨v, vs, f1, f2, e, _, h1, h2⟩ => by
    have p' : (!d.own) = true ∧ plain xs = true := Bool.and_eq_true_iff.mp p
    exact ⟨v, vs, e, (h1.plain (by simpa using p'.1)).1, RepOs.reps p'.2 h2⟩
theorem RepOs.get : ∀ {xs : List D} {vs : List V} {f : List Addr} {i : Nat} {d : D}, RepOs F mg H xs vs f → xs[i]? = some d → ∃ v f', vs[i]? = some v ∧ RepO F mg H d v f'
  | [], _, _, _, _, _, e => by simp at e
  | d :: ds, _, _, 0, _, ⟨v, vs, f1, f2, e1, e2, h1, h2⟩, e => by simp at e; subst e; exact ⟨v, f1, by rw [e1]; rfl, h1⟩
  | d :: ds, _, _, i + 1, _, ⟨v, vs, f1, f2, e1, e2, h1, h2⟩, e => by
    obtain ⟨u, f', q, r⟩ := RepOs.get (i := i) h2 (by simpa using e)
    exact ⟨u, f', by rw [e1]; simpa using q, r⟩
end
end SV
end
section
set_option Elab.async false
set_option linter.all false
set_option maxRecDepth 100000
set_option maxHeartbeats 4000000
namespace SV
open PySem PySem.Spec L2
section
variable {F B F' B' : Addr → Prop} {mg : Cn} {W : WX} {H H' : Hp} {σ : St} {ρ ρ' : Env} {T : Tm} {v : V} {d : D} {K : PySem.W.Frag}
/-! ### rules by looking -/
def fLook2 (g : D → D → Option D) : D → D → M D := fun dx dy ρ => match dr ρ dx with
  | some x => (match dr ρ dy with
    | some y => (match g x y with
      | some z => some (.ok z, ρ)
      | none => none)
    | none => none)
  | none => none
theorem fLook2_some {g : D → D → Option D} {dx dy : D} {z : Res D × Env} (e : fLook2 g dx dy ρ = some z) : ∃ x y w, dr ρ dx = some x ∧ dr ρ dy = some y ∧ g x y = some w ∧ z = (.ok w, ρ) := by
  unfold fLook2 at e
  split at e
  · rename_i x e1
    split at e
    · rename_i y e2
      split at e
      · rename_i w e3
        cases e
        exact ⟨x, y, w, e1, e2, e3, rfl⟩
      · cases e
    · cases e
  · cases e
theorem simR_look {r : R2} {g : D → D → Option D} (hr : ∀ (F B : Addr → Prop) (H : Hp) (x y : V) (dx dy d : D) (f f' : List Addr) (Q : VK), RepO F mg H dx x f → RepO F mg H dy y f' → g dx dy = some d → (∀ u, Rep F mg H d u → Q u H) → r x y H Q) : SimR mg W r (fLook2 g) := fun F B H σ ρ T x y dx dy Q res ρ' S e px h => by
  obtain ⟨cx, cy, w, e1, e2, e3, z⟩ := fLook2_some e
  cases z
  obtain ⟨f', ry⟩ := S.look1 e2
  obtain ⟨f, rx⟩ := S.pop.look1 e1
  exact hr F B H x y cx cy w f f' Q rx ry e3 fun u ru => fin S.pop.pop h rfl ru
/-! ### calls of built-ins -/
def fC1 (g : D → M D) : List D → M D
  | [d] => g d
  | _ => stuck
def fC2 (g : D → D → M D) : List D → M D
  | [a, b] => g a b
  | _ => stuck
theorem simC1 {r : List V → Hp → VK → Prop} {g : D → M D} (h : SimU mg W (fun x H Q => r [x] H Q) g) : SimC mg W r (fC1 g) := fun F B H σ ρ T xs ds Q res ρ' l S e px hk => by
  unfold fC1 at e
  split at e
  · rename_i d
    obtain ⟨x, rfl⟩ : ∃ x, xs = [x] := List.length_eq_one_iff.mp l
    exact h F B H σ ρ T x d Q res ρ' S e px hk
  · cases e
theorem simC2 {r : List V → Hp → VK → Prop} {g : D → D → M D} (h : SimR mg W (fun x y H Q => r [x, y] H Q) g) : SimC mg W r (fC2 g) := fun F B H σ ρ T xs ds Q res ρ' l S e px hk => by
  unfold fC2 at e
  split at e
  · rename_i a b
    obtain ⟨x, y, rfl⟩ : ∃ x y, xs = [x, y] := by
      match xs, l with
      | [x, y], _ => exact ⟨x, y, rfl⟩
    exact h F B H σ ρ T x y a b Q res ρ' (S.perm (List.Perm.swap _ _ _)) e px hk
  · cases e
def mCB (f : List D → M D) (a : M (List D)) : M D := bnd a f
theorem sim_CB {r : List V → Hp → VK → Prop} {f : List D → M D} {t : TA} {a : M (List D)} (hr : SimC mg W r f) (ha : SimA mg W t a) : SimE mg W (tCB r t) (mCB f a) := fun F B H σ ρ T Q res ρ' S e px h => by
  refine ha.bind S e px fun ds ρ1 F1 B1 H1 vs e1 x1 l S1 => ?_
  exact hr F1 B1 H1 σ ρ1 T vs ds Q res ρ' l S1 e1 (px.shift x1) fun d hd F' B' H' v x3 S3 => h d hd F' B' H' v (x1.trans x3) S3
/-- the length -/
def gLen : D → Option D
  | .str y => if y.length ≤ lim then some (.int y.length) else none
  | .fz xs => some (.int xs.length)
  | d => (match d.seq with
    | some (_, xs) => some (.int xs.length)
    | none => none)
theorem gLen_ok {f : List Addr} {n : D} (hK : mg.K = K) (h : RepO F mg H d v f) (e : gLen d = some n) : ∃ k : Nat, n = .int k ∧ LenV K v H k := by
  unfold gLen at e
  split at e
  · rename_i y
    split at e
    · rename_i hl
      cases e
      have hv : v = .str y := h.1
      subst hv
      exact ⟨_, rfl, by rw [lim_eq]; exact hl, rfl⟩
    · cases e
  · rename_i xs
    cases e
    obtain ⟨⟨a, vs, rfl, q, s⟩, _⟩ := h
    refine ⟨_, rfl, ?_⟩
    rw [s.length]
    subst hK
    rcases q with ⟨_, o, q⟩ | q
    · exact .inl ⟨vs, .inl (.inr ⟨o, q⟩), rfl⟩
    · exact .inl ⟨vs, .inr q, rfl⟩
  · split at e
    · rename_i b xs hs
      cases e
      obtain ⟨a, vs, f', rfl, s, q⟩ := h.seq K hs
      refine ⟨_, rfl, ?_⟩
      rw [s.length]
      cases b with
      | true => exact .inr ⟨vs, q, rfl⟩
      | false => exact .inl ⟨vs, q, rfl⟩
    · cases e
theorem c_len (hK : mg.K = K) : SimC mg W (fun xs H Q => ∃ x n, xs = [x] ∧ LenV K x H n ∧ Q (.int n) H) (fC1 (fLook gLen)) := simC1 (simU_look fun F B H x d y f Q rp e q => by
  obtain ⟨k, rfl, hk⟩ := gLen_ok (K := K) hK rp e
  exact ⟨x, k, rfl, hk, q _ (by rfl)⟩)
/-- truth -/
def D.tru : D → Option Bool
  | .non => some false
  | .bl b => some b
  | .int i => some (i != 0)
  | .str y => if y.length ≤ lim then some ((y.length : Int) != 0) else none
  | .tup xs => some (!xs.isEmpty)
  | .lst xs => some (!xs.isEmpty)
  | .ol xs => some (!xs.isEmpty)
  | .dk ks _ => some (!ks.isEmpty)
  | .od ks _ => some (!ks.isEmpty)
  | _ => none
theorem isE_of {α β : Type} : ∀ {xs : List α} {ys : List β}, xs.length = ys.length → xs.isEmpty = ys.isEmpty
  | [], [], _ => rfl
  | _ :: _, _ :: _, _ => rfl
  | [], _ :: _, h => by simp at h
  | _ :: _, [], h => by simp at h
theorem tru_ok' {f : List Addr} {b : Bool} (h : RepO F mg H d v f) (e : d.tru = some b) : TruV K v H b := by
  cases d with
  | non => cases e; rw [show v = .non from h.1]; rfl
  | bl c => rw [show v = .bl c from h.1]; cases e; rfl
  | int c => cases e; rw [show v = .int c from h.1]; rfl
  | str y =>
    have e : (if y.length ≤ lim then some ((y.length : Int) != 0) else none) = some b := e
    split at e
    · rename_i hl
      cases e
      rw [show v = .str y from h.1]
      exact ⟨by rw [lim_eq]; exact hl, rfl⟩
    · cases e
  | tup xs =>
    cases e
    obtain ⟨⟨a, vs, rfl, _, r, s⟩, _⟩ := h
    exact .inr (.inl ⟨vs, .inl (.inl r), by rw [isE_of s.length]⟩)
  | lst xs =>
    cases e
    obtain ⟨⟨a, vs, rfl, _, r, s⟩, _⟩ := h
    exact .inl ⟨vs, .inl (.inl r), by rw [isE_of s.length]⟩
  | ol xs =>
    cases e
    obtain ⟨a, vs, _, rfl, _, r, s⟩ := h
    exact .inl ⟨vs, .inl (.inl r), by rw [isE_of s.length]⟩
  | dk ks xs =>
    cases e
    obtain ⟨⟨a, vs, rfl, _, r, k, s⟩, _⟩ := h
    exact .inr (.inr ⟨vs, r, by rw [← k, isE_of (show (vs.map (·.1)).length = vs.length by simp)]⟩)
  | od ks xs =>
    cases e
    obtain ⟨a, vs, _, rfl, _, r, k, s⟩ := h
    exact .inr (.inr ⟨vs, r, by rw [← k, isE_of (show (vs.map (·.1)).length = vs.length by simp)]⟩)
  | _ => cases e
def mTru (a : M D) : M Bool := bnd a fun d ρ => match dr ρ d with
  | some x => (match x.tru with
    | some b => some (.ok b, ρ)
    | none => none)
  | none => none
theorem sim_tru {t : TE} {a : M D} (ha : SimE mg W t a) : SimT mg W (fun σ H Q => t σ H fun x H' => ∃ k, TruV K x H' k ∧ Q k H') (mTru a) := fun F B H σ ρ T Q r ρ' S e px h => by
  refine ha.bind S e px fun d ρ1 F1 B1 H1 v e1 x1 S1 => ?_
  split at e1
  · rename_i x e2
    split at e1
    · rename_i b e3
      cases e1
      obtain ⟨f, rp⟩ := S1.look1 e2
      exact ⟨b, tru_ok' rp e3, h b rfl F1 B1 H1 x1 S1.pop⟩
    · cases e1
  · cases e1
/-! ### subscripts -/
def gIx : D → D → Option D
  | .str z, .int i => if z.length ≤ lim then (match atI z.cps.toList i with
    | some c => some (.str ⟨#[c]⟩)
    | none => none) else none
  | x, .int i => (match x.seq with
    | some (_, xs) => (match atI xs i with
      | some d => if d.own = true then none else some d
      | none => none)
    | none => none)
  | _, _ => none
theorem atI_map {α β : Type} {xs : List α} {ys : List β} {i : Int} {d : α} (l : xs.length = ys.length) (h : atI xs i = some d) : ∃ j, ixN ys.length i = some j ∧ xs[j]? = some d := by
  unfold atI at h
  obtain ⟨j, h1, h2⟩ := Option.bind_eq_some_iff.mp h
  exact ⟨j, by rw [← l]; exact h1, h2⟩
theorem RepOs.at_ {xs : List D} {vs : List V} {f : List Addr} {i : Int} {d : D} (s : RepOs F mg H xs vs f) (h : atI xs i = some d) : ∃ u f', atI vs i = some u ∧ RepO F mg H d u f' := by
  obtain ⟨j, h1, h2⟩ := atI_map s.length h
  obtain ⟨u, f', h3, h4⟩ := s.get h2
  exact ⟨u, f', by unfold atI; rw [h1]; exact h3, h4⟩
theorem r_ix : SimR mg W (rIx K) (fLook2 gIx) := simR_look fun F B H x y dx dy d f f' Q rx ry e q => by
  unfold gIx at e
  split at e
  · rename_i z i
    split at e
    · rename_i hl
      split at e
      · rename_i c hc
        cases e
        rw [show x = .str z from rx.1, show y = .int i from ry.1]
        exact .inr (.inr ⟨z, i, c, rfl, rfl, by rw [lim_eq]; exact hl, hc, q _ (by rfl)⟩)
      · cases e
    · cases e
  · rename_i i _
    split at e
    · rename_i b xs hs
      split at e
      · rename_i c hc
        split at e
        · cases e
        · rename_i hn
          cases e
          obtain ⟨a, vs, g, rfl, s, k⟩ := rx.seq K hs
          obtain ⟨u, f2, h1, h2⟩ := s.at_ hc
          rw [show y = .int i from ry.1]
          have hq := q u (h2.plain (by simpa using hn)).1
          cases b with
          | true => exact .inr (.inl ⟨a, vs, i, u, rfl, rfl, k, h1, hq⟩)
          | false => exact .inl ⟨a, vs, i, u, rfl, rfl, k, h1, hq⟩
      · cases e
    · cases e
  · cases e
/-! ### == over data -/
mutual
def D.py : D → Option PyData
  | .non => some .none
  | .bl b => some (.bool b)
  | .int i => some (.int i)
  | .str x => some (.str x)
  | .tup xs => (match D.pys xs with
    | some ys => some (.tuple ys)
    | none => none)
  | .lst xs => (match D.pys xs with
    | some ys => some (.list ys)
    | none => none)
  | .ol xs => (match D.pys xs with
    | some ys => some (.list ys)
    | none => none)
  | _ => none
def D.pys : List D → Option (List PyData)
  | [] => some []
  | d :: ds => (match D.py d with
    | some y => (match D.pys ds with
      | some ys => some (y :: ys)
      | none => none)
    | none => none)
end
mutual
theorem RepO.dp : ∀ (d : D) (v : V) (f : List Addr) (p : PyData), RepO F mg H d v f → d.py = some p → Dp K H v p
  | .non, v, _, p, h, e => by cases e; rw [show v = .non from h.1]; exact .non
  | .bl b, v, _, p, h, e => by cases e; rw [show v = .bl b from h.1]; exact .bl b
  | .int b, v, _, p, h, e => by cases e; rw [show v = .int b from h.1]; exact .int b
  | .str b, v, _, p, h, e => by cases e; rw [show v = .str b from h.1]; exact .str b
  | .tup xs, v, _, p, h, e => by
    obtain ⟨⟨a, vs, e1, _, r, s⟩, _⟩ := h
    rw [D.py] at e
    split at e
    · rename_i ys hy
      cases e
      subst e1
      exact .tup (.inl (.inl r)) (RepOs.dp xs vs _ ys (Reps.owned _ _ s) hy)
    · cases e
  | .lst xs, v, _, p, h, e => by
    obtain ⟨⟨a, vs, e1, _, r, s⟩, _⟩ := h
    rw [D.py] at e
    split at e
    · rename_i ys hy
      cases e
      subst e1
      exact .lst (.inl (.inl r)) (RepOs.dp xs vs _ ys (Reps.owned _ _ s) hy)
    · cases e
  | .ol xs, v, _, p, h, e => by
    obtain ⟨a, vs, f', e1, _, r, s⟩ := h
    rw [D.py] at e
    split at e
    · rename_i ys hy
      cases e
      subst e1
      exact .lst (.inl (.inl r)) (RepOs.dp xs vs f' ys s hy)
    · cases e
  | .fz _, _, _, _, _, e => by simp [D.py] at e
  | .rg _ _, _, _, _, _, e => by simp [D.py] at e
  | .dk _ _, _, _, _, _, e => by simp [D.py] at e
  | .ins _ _ _, _, _, _, _, e => by simp [D.py] at e
  | .xv _ _ _, _, _, _, _, e => by simp [D.py] at e
  | .xw _, _, _, _, _, e => by simp [D.py] at e
  | .od _ _, _, _, _, _, e => by simp [D.py] at e
  | .oi _ _ _, _, _, _, _, e => by simp [D.py] at e
  | .sl _, _, _, _, _, e => by simp [D.py] at e
  | .xc _ _ _, _, _, _, _, e => by simp [D.py] at e
theorem RepOs.dp : ∀ (ds : List D) (vs : List V) (f : List Addr) (ps : List PyData), RepOs F mg H ds vs f → D.pys ds = some ps → DpAll K H vs ps
  | [], vs, _, ps, h, e => by cases e; rw [show vs = [] from h.1]; exact .nil
  | d :: ds, _, _, ps, ⟨v, vs, f1, f2, e1, _, h1, h2⟩, e => by
    rw [D.pys] at e
    split at e
    · rename_i y hy
      split at e
      · rename_i ys hys
        cases e
        subst e1
        exact .cons (RepO.dp d v f1 y h1 hy) (RepOs.dp ds vs f2 ys h2 hys)
      · cases e
    · cases e
end
def gEq (neg : Bool) : D → D → Option D := fun x y => match x.py with
  | some p => (match y.py with
    | some q => if SeqAt.shaped p = true ∧ SeqAt.shaped q = true then some (.bl (if neg = true then !PyData.eqv p q else PyData.eqv p q)) else none
    | none => none)
  | none => none
theorem gEq_ok {neg : Bool} {x y : V} {dx dy d : D} {f f' : List Addr} {Q : VK} (rx : RepO F mg H dx x f) (ry : RepO F mg H dy y f') (e : gEq neg dx dy = some d) (q : ∀ u, Rep F mg H d u → Q u H) :
    ∃ p r, Dp K H x p ∧ Dp K H y r ∧ SeqAt.shaped p = true ∧ SeqAt.shaped r = true ∧ Q (.bl (if neg = true then !PyData.eqv p r else PyData.eqv p r)) H := by
  unfold gEq at e
  split at e
  · rename_i p hp
    split at e
    · rename_i r hr
      split at e
      · rename_i hs
        cases e
        exact ⟨p, r, RepO.dp _ _ _ _ rx hp, RepO.dp _ _ _ _ ry hr, hs.1, hs.2, q _ (by rfl)⟩
      · cases e
    · cases e
  · cases e
theorem r_eq : SimR mg W (rEqD K) (fLook2 (gEq false)) := simR_look fun F B H x y dx dy d f f' Q rx ry e q => gEq_ok rx ry e q
theorem r_ne : SimR mg W (rNeD K) (fLook2 (gEq true)) := simR_look fun F B H x y dx dy d f f' Q rx ry e q => gEq_ok rx ry e q
/-! ### in -/
def D.fl : D → Bool
  | .non => true | .bl _ => true | .int _ => true | .str _ => true | _ => false
def D.eqf : D → D → Bool
  | .non, .non => true
  | .bl a, .bl b => a == b
  | .bl a, .int b => (if a then 1 else 0) == b
  | .int a, .bl b => a == (if b then 1 else 0)
  | .int a, .int b => a == b
  | .str a, .str b => a == b
  | _, _ => false
theorem fl_v {f : List Addr} (h : RepO F mg H d v f) (e : d.fl = true) : flatV v = true ∧ ∀ {d' : D} {v' : V} {f' : List Addr}, RepO F mg H d' v' f' → d'.fl = true → eqV v v' = D.eqf d d' := by
  cases d with
  | non =>
    rw [show v = .non from h.1]
    exact ⟨rfl, fun {d' v' f'} h' e' => by cases d' <;> first | (rw [show v' = _ from h'.1]; rfl) | cases e'⟩
  | bl b =>
    rw [show v = .bl b from h.1]
    exact ⟨rfl, fun {d' v' f'} h' e' => by cases d' <;> first | (rw [show v' = _ from h'.1]; rfl) | cases e'⟩
  | int b =>
    rw [show v = .int b from h.1]
    exact ⟨rfl, fun {d' v' f'} h' e' => by cases d' <;> first | (rw [show v' = _ from h'.1]; rfl) | cases e'⟩
  | str b =>
    rw [show v = .str b from h.1]
    exact ⟨rfl, fun {d' v' f'} h' e' => by cases d' <;> first | (rw [show v' = _ from h'.1]; rfl) | cases e'⟩
  | _ => cases e
theorem fls_v : ∀ {xs : List D} {vs : List V} {f : List Addr}, RepOs F mg H xs vs f → xs.all D.fl = true → vs.all flatV = true ∧ ∀ {d' : D} {v' : V} {f' : List Addr}, RepO F mg H d' v' f' → d'.fl = true → inV v' vs = xs.any fun y => D.eqf y d'
  | [], vs, _, h, _ => by
    rw [show vs = [] from h.1]
    exact ⟨rfl, fun {d' v' f'} _ _ => rfl⟩
  | d :: xs, _, _, ⟨v, vs, f1, f2, e, _, h1, h2⟩, p => by
    subst e
    have p' : d.fl = true ∧ xs.all D.fl = true := Bool.and_eq_true_iff.mp p
    obtain ⟨a, b⟩ := fls_v h2 p'.2
    obtain ⟨a1, b1⟩ := fl_v h1 p'.1
    exact ⟨Bool.and_eq_true_iff.mpr ⟨a1, a⟩, fun {d' v' f'} h' e' => by
      unfold inV at b ⊢
      rw [List.any_cons, List.any_cons, b1 h' e', b h' e']⟩
def gIn (neg : Bool) : D → D → Option D := fun x y => match y.seq with
  | some (_, xs) => if x.fl = true ∧ xs.all D.fl = true then some (.bl (if neg = true then !(xs.any fun z => D.eqf z x) else xs.any fun z => D.eqf z x)) else none
  | none => none
theorem r_in (neg : Bool) : SimR mg W (rIn K neg) (fLook2 (gIn neg)) := simR_look fun F B H x y dx dy d f f' Q rx ry e q => by
  unfold gIn at e
  split at e
  · rename_i b xs hs
    split at e
    · rename_i hc
      cases e
      obtain ⟨a, vs, g, rfl, s, k⟩ := ry.seq K hs
      obtain ⟨h1, h2⟩ := fls_v s hc.2
      refine ⟨a, vs, rfl, ?_, (fl_v rx hc.1).1, h1, ?_⟩
      · cases b with
        | true => exact .inr k
        | false => exact .inl k
      · refine q _ ?_
        show _ = _
        rw [h2 rx hc.1]
    · cases e
  · cases e
/-! ### int, abs, min, max -/
def gInt : D → Option D
  | .int i => some (.int i)
  | .bl k => some (.int (if k then 1 else 0))
  | _ => none
theorem c_int : SimC mg W (fun xs H Q => (∃ i, xs = [.int i] ∧ Q (.int i) H) ∨ ∃ k, xs = [.bl k] ∧ Q (.int (if k then 1 else 0)) H) (fC1 (fLook gInt)) := simC1 (simU_look fun F B H x d y f Q rp e q => by
  unfold gInt at e
  split at e
  · rename_i i
    cases e
    rw [show x = .int i from rp.1]
    exact .inl ⟨i, rfl, q _ (by rfl)⟩
  · rename_i i
    cases e
    rw [show x = .bl i from rp.1]
    exact .inr ⟨i, rfl, q _ (by rfl)⟩
  · cases e)
def gAbs : D → Option D
  | .int i => some (.int (if i < 0 then -i else i))
  | _ => none
theorem c_abs : SimC mg W (fun xs H Q => ∃ i, xs = [.int i] ∧ Q (.int (if i < 0 then -i else i)) H) (fC1 (fLook gAbs)) := simC1 (simU_look fun F B H x d y f Q rp e q => by
  unfold gAbs at e
  split at e
  · rename_i i
    cases e
    rw [show x = .int i from rp.1]
    exact ⟨i, rfl, q _ (by rfl)⟩
  · cases e)
def gMin2 : D → D → Option D
  | .int i, .int j => some (.int (if j < i then j else i))
  | _, _ => none
def gMax2 : D → D → Option D
  | .int i, .int j => some (.int (if j > i then j else i))
  | _, _ => none
theorem c_min2 : SimC mg W (fun xs H Q => ∃ i j, xs = [.int i, .int j] ∧ Q (.int (if j < i then j else i)) H) (fC2 (fLook2 gMin2)) := simC2 (simR_look fun F B H x y dx dy d f f' Q rx ry e q => by
  unfold gMin2 at e
  split at e
  · rename_i i j
    cases e
    rw [show x = .int i from rx.1, show y = .int j from ry.1]
    exact ⟨i, j, rfl, q _ (by rfl)⟩
  · cases e)
theorem c_max2 : SimC mg W (fun xs H Q => ∃ i j, xs = [.int i, .int j] ∧ Q (.int (if j > i then j else i)) H) (fC2 (fLook2 gMax2)) := simC2 (simR_look fun F B H x y dx dy d f f' Q rx ry e q => by
  unfold gMax2 at e
  split at e
  · rename_i i j
    cases e
    rw [show x = .int i from rx.1, show y = .int j from ry.1]
    exact ⟨i, j, rfl, q _ (by rfl)⟩
  · cases e)
end
end SV
end
section
set_option Elab.async false
set_option linter.all false
set_option maxRecDepth 100000
set_option maxHeartbeats 4000000
namespace SV
open PySem PySem.Spec L2
section
variable {F B F' B' : Addr → Prop} {mg : Cn} {W : WX} {H H' : Hp} {σ : St} {ρ ρ' : Env} {T : Tm} {v : V} {d : D} {K : PySem.W.Frag}
theorem Sat.pushs : ∀ {ds : List D} {vs : List V}, Sat F B mg H σ ρ T → Reps F mg H ds vs → Sat F B mg H σ ρ (vs.zip ds ++ T)
  | [], vs, S, h => by rw [show vs = [] from h]; exact S
  | d :: ds, _, S, ⟨v, vs, e, h1, h2⟩ => by subst e; exact (S.pushs h2).push h1
theorem Reps.nsl : ∀ {ds : List D} {vs : List V}, Reps F mg H ds vs → ∀ d ∈ ds, ∀ i, d ≠ .sl i
  | [], vs, h, d, hd => by simp at hd
  | d :: ds, _, ⟨v, vs, e, h1, h2⟩, x, hx => by
    rcases List.mem_cons.mp hx with rfl | hx
    · intro i z; rw [z] at h1; exact h1.elim
    · exact Reps.nsl h2 x hx
/-- a new list of frozen things -/
theorem Sat.newLF {p : Addr} {ds : List D} {vs : List V} (S : Sat F B mg H σ ρ T) (r : Reps F mg H ds vs) (hp : H p = none) :
    ∃ F' B', Ext F B H F' B' (upd H p (.lst vs)) ∧ Sat F' B' mg (upd H p (.lst vs)) σ ρ ((.ref p, .ol ds) :: T) :=
  (S.pushs r).newL r.length.symm r.nsl hp
/-- a new tuple of frozen things -/
theorem Sat.newTF {p : Addr} {ds : List D} {vs : List V} (S : Sat F B mg H σ ρ T) (r : Reps F mg H ds vs) (hp : H p = none) :
    ∃ F' B', Ext F B H F' B' (upd H p (.tup vs)) ∧ Sat F' B' mg (upd H p (.tup vs)) σ ρ ((.ref p, .tup ds) :: T) := by
  obtain ⟨F3, B3, x3, S3, fp⟩ := S.newF (o := .tup vs) hp
  exact ⟨F3, B3, x3, S3.push ⟨p, vs, rfl, fp, upd_same, Reps.mono (x3.ag S.fb) _ _ r⟩⟩
/-- the items of a sequence at hand, frozen: a fresh list is frozen whole -/
def fItems : D → M (Bool × List D)
  | .ol xs => ret (false, D.frzs xs)
  | d => fun ρ => match dr ρ d with
    | some x => (match x.seq with
      | some (b, xs) => if plain xs = true then some (.ok (b, xs), ρ) else none
      | none => none)
    | none => none
theorem Sat.items {z : Res (Bool × List D) × Env} (S : Sat F B mg H σ ρ ((v, d) :: T)) (e : fItems d ρ = some z) :
    ∃ b xs, z = (.ok (b, xs), ρ) ∧ ∃ F' B', Ext F B H F' B' H ∧ Sat F' B' mg H σ ρ T ∧ ∃ a vs, v = .ref a ∧ Reps F' mg H xs vs ∧ (if b = true then SqT K H a vs else SqL K H a vs) ∧ (b = true → ∃ y, dr ρ d = some y ∧ Rep F' mg H y v ∧ y = .tup xs) := by
  have gen : ∀ z, (match dr ρ d with
    | some x => (match x.seq with
      | some (b, xs) => if plain xs = true then some (Res.ok (b, xs), ρ) else none
      | none => none)
    | none => none) = some z → ∃ b xs, z = (.ok (b, xs), ρ) ∧ ∃ F' B', Ext F B H F' B' H ∧ Sat F' B' mg H σ ρ T ∧ ∃ a vs, v = .ref a ∧ Reps F' mg H xs vs ∧ (if b = true then SqT K H a vs else SqL K H a vs) ∧ (b = true → ∃ y, dr ρ d = some y ∧ Rep F' mg H y v ∧ y = .tup xs) := by
    intro z e
    split at e
    · rename_i x e1
      split at e
      · rename_i b xs hs
        split at e
        · rename_i hp
          cases e
          obtain ⟨f, rp⟩ := S.look1 e1
          obtain ⟨a, vs, f', rfl, s, q⟩ := rp.seq K hs
          refine ⟨b, xs, rfl, F, B, Ext.refl, S.pop, a, vs, rfl, s.reps hp, q, fun hb => ?_⟩
          subst hb
          refine ⟨x, e1, ?_⟩
          cases x <;> first | (cases hs; exact ⟨rp.1, rfl⟩) | cases hs
        · cases e
      · cases e
    · cases e
  cases d with
  | ol xs =>
    cases e
    obtain ⟨F', B', x, S', rf⟩ := S.freeze (fun i z => by cases z)
    obtain ⟨a, vs, e1, f, r, s⟩ := rf
    exact ⟨false, _, rfl, F', B', x, S'.pop, a, vs, e1, s, .inl (.inl r), fun hb => by cases hb⟩
  | _ => exact gen z e
/-- tuple(x), list(x) -/
def fTupOf : D → M D := fun d => bnd (fItems d) fun z => ret (.tup z.2)
def fLstOf : D → M D := fun d => bnd (fItems d) fun z => ret (.ol z.2)
theorem c_tuple : SimC mg W (fun xs H Q => ∃ p ys, xs = [.ref p] ∧ ((SqL K H p ys ∧ ∀ l, H l = none → Q (.ref l) (upd H l (.tup ys))) ∨ (SqT K H p ys ∧ Q (.ref p) H))) (fC1 fTupOf) := simC1 fun F B H σ ρ T x dx Q res ρ' S e px h => by
  rcases bnd_some e with ⟨z, ρ1, e1, e2⟩ | ⟨c, fs, e1, e2⟩
  · obtain ⟨b, xs, ez, F1, B1, x1, S1, a, vs, rfl, r, q, hb⟩ := S.items (K := K) e1
    cases ez
    cases e2
    refine ⟨a, vs, rfl, ?_⟩
    cases b with
    | true =>
      obtain ⟨y, _, ry, ey⟩ := hb rfl
      subst ey
      exact .inr ⟨q, h _ rfl F1 B1 H _ x1 (S1.push ry)⟩
    | false =>
      refine .inl ⟨q, fun l hl => ?_⟩
      obtain ⟨F2, B2, x2, S2⟩ := S1.newTF r hl
      exact h _ rfl F2 B2 _ _ (x1.trans x2) S2
  · obtain ⟨b, xs, ez, _⟩ := S.items (K := K) e1
    cases ez
theorem c_list : SimC mg W (fun xs H Q => ∃ p ys, xs = [.ref p] ∧ (SqL K H p ys ∨ SqT K H p ys) ∧ ∀ l, H l = none → Q (.ref l) (upd H l (.lst ys))) (fC1 fLstOf) := simC1 fun F B H σ ρ T x dx Q res ρ' S e px h => by
  rcases bnd_some e with ⟨z, ρ1, e1, e2⟩ | ⟨c, fs, e1, e2⟩
  · obtain ⟨b, xs, ez, F1, B1, x1, S1, a, vs, rfl, r, q, hb⟩ := S.items (K := K) e1
    cases ez
    cases e2
    refine ⟨a, vs, rfl, ?_, fun l hl => ?_⟩
    · cases b with
      | true => exact .inr q
      | false => exact .inl q
    · obtain ⟨F2, B2, x2, S2⟩ := S1.newLF r hl
      exact h _ rfl F2 B2 _ _ (x1.trans x2) S2
  · obtain ⟨b, xs, ez, _⟩ := S.items (K := K) e1
    cases ez
/-! ### slices -/
def SimO (mg : Cn) (W : WX) (t : TO) (m : M (Option Int)) : Prop := ∀ (F B : Addr → Prop) (H : Hp) (σ : St) (ρ : Env) (T : Tm) (Q : Option Int → Hp → Prop) (r : Res (Option Int)) (ρ' : Env), Sat F B mg H σ ρ T → m ρ = some (r, ρ') → PX mg W σ T F B H ρ' r →
  (∀ b, r = .ok b → ∀ F' B' H', Ext F B H F' B' H' → Sat F' B' mg H' σ ρ' T → Q b H') → t σ H Q
def mPart (a : M D) : M (Option Int) := bnd a fun d => match d with
  | .int i => ret (some i)
  | _ => stuck
theorem sim_opart {t : TE} {a : M D} (ha : SimE mg W t a) : SimO mg W (tPart t) (mPart a) := fun F B H σ ρ T Q r ρ' S e px h => by
  refine ha.bind S e px fun d ρ1 F1 B1 H1 v e1 x1 S1 => ?_
  split at e1
  · rename_i i
    cases e1
    obtain ⟨_, rx⟩ := S1.top
    exact ⟨i, rt_int rx, h _ rfl F1 B1 H1 x1 S1.pop⟩
  · cases e1
theorem sim_onone : SimO mg W tNoPart (ret none) := fun F B H σ ρ T Q r ρ' S e px h => by
  cases e
  exact h _ rfl F B H Ext.refl S
theorem SimO.bind {β : Type} {ta : TO} {ma : M (Option Int)} (ha : SimO mg W ta ma) {k : Option Int → M β} {r : Res β} {R : Option Int → Hp → Prop} (S : Sat F B mg H σ ρ T) (e : bnd ma k ρ = some (r, ρ')) (px : PX mg W σ T F B H ρ' r)
    (h : ∀ d ρ1 F1 B1 H1, k d ρ1 = some (r, ρ') → Ext F B H F1 B1 H1 → Sat F1 B1 mg H1 σ ρ1 T → R d H1) : ta σ H R := by
  unfold bnd at e
  split at e
  · rename_i a ρ1 e1
    exact ha F B H σ ρ T R (.ok a) ρ1 S e1 PX.ok fun d hd F1 B1 H1 x S1 => by cases hd; exact h a ρ1 F1 B1 H1 e x S1
  · rename_i c fs ρ1 e1
    cases e
    exact ha F B H σ ρ T R (.exc c fs) _ S e1 px.cast fun d hd => by cases hd
  · cases e
def cut (xs : List D) (lo hi : Option Int) : List D := (xs.drop (HT.sIx xs.length 0 lo)).take (HT.sIx xs.length xs.length hi - HT.sIx xs.length 0 lo)
theorem Reps.drop : ∀ {ds : List D} {vs : List V} (n : Nat), Reps F mg H ds vs → Reps F mg H (ds.drop n) (vs.drop n)
  | _, _, 0, h => h
  | [], vs, n + 1, h => by rw [show vs = [] from h]; rfl
  | d :: ds, _, n + 1, ⟨v, vs, e, h1, h2⟩ => by subst e; exact Reps.drop n h2
theorem Reps.take : ∀ {ds : List D} {vs : List V} (n : Nat), Reps F mg H ds vs → Reps F mg H (ds.take n) (vs.take n)
  | _, _, 0, h => rfl
  | [], vs, n + 1, h => by rw [show vs = [] from h]; rfl
  | d :: ds, _, n + 1, ⟨v, vs, e, h1, h2⟩ => by subst e; exact ⟨v, _, rfl, h1, Reps.take n h2⟩
theorem Reps.cut {ds : List D} {vs : List V} (lo hi : Option Int) (h : Reps F mg H ds vs) : Reps F mg H (SV.cut ds lo hi) (cutV vs lo hi) := by
  unfold SV.cut cutV
  rw [h.length]
  exact Reps.take _ (Reps.drop _ h)
/-- a slice of a list or a tuple -/
def rSlLT (K : PySem.W.Frag) : V → Option Int → Option Int → Hp → VK → Prop := fun x lo hi H Q => rSlL K x lo hi H Q ∨ rSlA K x lo hi H Q
def fCut (d : D) (lo hi : Option Int) : M D := bnd (fItems d) fun z => if z.1 = true then ret (.tup (cut z.2 lo hi)) else ret (.ol (cut z.2 lo hi))
def mSl (a : M D) (lo hi : M (Option Int)) : M D := bnd a fun d => bnd lo fun l => bnd hi fun u => fCut d l u
theorem cut_whole {α : Type} {xs : List α} {lo hi : Option Int} (h : HT.sIx xs.length 0 lo = 0 ∧ HT.sIx xs.length xs.length hi = xs.length) : (xs.drop (HT.sIx xs.length 0 lo)).take (HT.sIx xs.length xs.length hi - HT.sIx xs.length 0 lo) = xs := by
  rw [h.1, h.2]
  simp
theorem sim_sl {t : TE} {tl th : TO} {a : M D} {lo hi : M (Option Int)} (ha : SimE mg W t a) (hl : SimO mg W tl lo) (hh : SimO mg W th hi) : SimE mg W (tSl (rSlLT K) t tl th) (mSl a lo hi) := fun F B H σ ρ T Q res ρ' S e px h => by
  refine ha.bind S e px fun d ρ1 F1 B1 H1 v e1 x1 S1 => ?_
  refine hl.bind S1 e1 (px.shift x1).cons fun l ρ2 F2 B2 H2 e2 x2 S2 => ?_
  refine hh.bind S2 e2 (px.shift (x1.trans x2)).cons fun u ρ3 F3 B3 H3 e3 x3 S3 => ?_
  have x123 := (x1.trans x2).trans x3
  unfold fCut at e3
  rcases bnd_some e3 with ⟨z, ρ4, e4, e5⟩ | ⟨c, fs, e4, e5⟩
  · obtain ⟨b, xs, ez, F4, B4, x4, S4, a, vs, rfl, r, q, hb⟩ := S3.items (K := K) e4
    cases ez
    cases b with
    | true =>
      cases e5
      refine .inr ⟨a, vs, rfl, q, fun hw => ?_, fun hw p hp => ?_⟩
      · obtain ⟨y, _, ry, ey⟩ := hb rfl
        subst ey
        have ec : SV.cut xs l u = xs := by
          unfold SV.cut
          exact cut_whole (by rw [r.length]; exact hw)
        refine h _ rfl F4 B4 H3 _ (x123.trans x4) ?_
        show Sat F4 B4 mg H3 σ _ ((.ref a, .tup (SV.cut xs l u)) :: T)
        rw [ec]
        exact S4.push ry
      · obtain ⟨F5, B5, x5, S5⟩ := S4.newTF (r.cut l u) hp
        exact h _ rfl F5 B5 _ _ ((x123.trans x4).trans x5) S5
    | false =>
      cases e5
      refine .inl ⟨a, vs, rfl, q, fun p hp => ?_⟩
      obtain ⟨F5, B5, x5, S5⟩ := S4.newLF (r.cut l u) hp
      exact h _ rfl F5 B5 _ _ ((x123.trans x4).trans x5) S5
  · obtain ⟨b, xs, ez, _⟩ := S3.items (K := K) e4
    cases ez
/-! ### + of any kind -/
def rAddA (K : PySem.W.Frag) : R2 := fun x y H Q => rI0 (fun i j => .int (i + j)) x y H Q ∨ rCat x y H Q ∨ rCatA K x y H Q ∨ (∃ i j, x = .str i ∧ y = .str j ∧ i.length + j.length ≤ sizeLine ∧ Q (.str (i ++ j)) H)
theorem op_addA {X : Cx} : OpR X (binaryOp .Add) (rAddA X.K) := op_add.or (op_cat.or (op_catA.or op_add_str))
end
end SV
end
section
set_option Elab.async false
set_option linter.all false
set_option maxRecDepth 100000
set_option maxHeartbeats 4000000
namespace SV
open PySem PySem.Spec L2
section
variable {F B F' B' : Addr → Prop} {mg : Cn} {W : WX} {H H' : Hp} {σ : St} {ρ ρ' : Env} {T : Tm} {v : V} {d : D} {K : PySem.W.Frag}
theorem RepOs.cutAt : ∀ {ds : List D} {vs : List V} {f : List Addr} (k : Nat), RepOs F mg H ds vs f → ∃ f1 f2, f = f1 ++ f2 ∧ RepOs F mg H (ds.take k) (vs.take k) f1 ∧ RepOs F mg H (ds.drop k) (vs.drop k) f2
  | ds, vs, f, 0, h => ⟨[], f, rfl, ⟨rfl, rfl⟩, h⟩
  | [], vs, f, k + 1, h => ⟨[], [], by rw [h.2]; rfl, by rw [show vs = [] from h.1]; exact ⟨rfl, rfl⟩, by rw [show vs = [] from h.1]; exact ⟨rfl, rfl⟩⟩
  | d :: ds, _, _, k + 1, ⟨v, vs, g1, g2, e, e2, h1, h2⟩ => by
    subst e
    obtain ⟨f1, f2, e3, h3, h4⟩ := RepOs.cutAt k h2
    exact ⟨g1 ++ f1, f2, by rw [e2, e3, List.append_assoc], ⟨v, _, g1, f1, rfl, rfl, h1, h3⟩, h4⟩
/-- a list at hand takes and gives -/
theorem Sat.updL {a : Addr} {ds es nd od : List D} {ws nv ov : List V} {vs : List V} (lw : ws.length = es.length) (ne : ∀ d ∈ es, ∀ i, d ≠ .sl i) (S : Sat F B mg H σ ρ ((.ref a, .ol ds) :: (ws.zip es ++ T))) (ha : H a = some (.lst vs))
    (hk : ∀ f g, RepOs F mg H ds vs f → RepOs F mg H es ws g → ∃ f' g' j, RepOs F mg H nd nv f' ∧ RepOs F mg H od ov g' ∧ (f ++ g).Perm ((f' ++ g') ++ j)) :
    ∃ F' B', Ext F B H F' B' (upd H a (.lst nv)) ∧ Sat F' B' mg (upd H a (.lst nv)) σ ρ ((.ref a, .ol nd) :: (ov.zip od ++ T)) := by
  have S0 : Sat F B mg H σ ρ (((.ref a, .ol ds) :: ws.zip es) ++ T) := S
  obtain ⟨F', x, S'⟩ := Sat.step (Ts' := (.ref a, .ol nd) :: ov.zip od) (H' := upd H a (.lst nv)) S0 fun fs hr nd' hB => by
    obtain ⟨f1, g, e, h1, h2⟩ := hr
    obtain ⟨a', vs', f, e1, e2, e3, h3⟩ := (h1.own (fun i z => by cases z) : RepO F mg H (.ol ds) (.ref a) f1)
    cases e1
    rw [ha] at e3
    cases e3
    have h4 := RTs.repOs lw ne h2
    obtain ⟨f', g', j, h5, h6, pm⟩ := hk f g h3 h4
    subst e e2
    have nn := List.nodup_cons.mp (show (a :: (f ++ g)).Nodup from nd')
    have sub : ∀ b, b ∈ f' ++ g' → b ∈ f ++ g := fun b hb => pm.mem_iff.mpr (List.mem_append_left _ hb)
    have na : ∀ b ∈ f' ++ g', b ≠ a := fun b hb z => nn.1 (z ▸ sub b hb)
    have nF : ¬ F a := fun z => hB a (by simp) (S.fb a z)
    have ag : Ag F H F (upd H a (.lst nv)) := ⟨fun _ h => h, fun b hb => upd_ne fun z => nF (z ▸ hb)⟩
    have k5 := RepOs.mono ag _ _ _ (fun b hb => upd_ne (na b (List.mem_append_left _ hb))) h5
    have k6 := RepOs.mono ag _ _ _ (fun b hb => upd_ne (na b (List.mem_append_right _ hb))) h6
    refine ⟨F, (a :: f') ++ g', fun _ h => h, fun b hb _ => upd_ne fun z => hb (by rw [z]; simp), ⟨a :: f', g', rfl, ⟨a, nv, f', rfl, rfl, upd_same, k5⟩, k6.rts⟩, ?_, fun b hb => ?_, fun b hb => .inl hb, fun b hb z => ?_, fun b hb => ?_⟩
    · have n2 : (f' ++ g').Nodup := (List.nodup_append.mp (pm.nodup_iff.mp nn.2)).1
      exact List.nodup_cons.mpr ⟨fun z => na a z rfl, n2⟩
    · refine .inl ?_
      rcases List.mem_cons.mp (show b ∈ a :: (f' ++ g') from hb) with z | z
      · rw [z]; simp
      · exact List.mem_cons_of_mem _ (sub b z)
    · rcases List.mem_cons.mp (show b ∈ a :: (f' ++ g') from hb) with y | y
      · exact nF (y ▸ z)
      · exact hB b (List.mem_cons_of_mem _ (sub b y)) (S.fb b z)
    · obtain ⟨o, e⟩ := S.tru hb
      exact ⟨o, by rw [upd_ne (show b ≠ a by rintro rfl; exact nF hb)]; exact e⟩
  exact ⟨F', _, x, S'⟩
/-- the slot's own thing, changed -/
theorem Sat.putBack {i : Nat} {u : V} (S : Sat F B mg H σ (ρ.set i none) ((u, d) :: T)) (n : ∀ j, d ≠ .sl j) (hi : i < ρ.length) (hs : σ[i]? = some (some u)) : Sat F B mg H σ (ρ.set i (some d)) T := by
  have S3 := S.put (i := i) n (by simpa using hi) (.inl hs)
  rw [List.set_set] at S3
  have es : σ.set i (some u) = σ := by
    apply List.ext_getElem?
    intro j
    by_cases hj : i = j
    · subst hj
      rw [List.getElem?_set_self (List.getElem?_eq_some_iff.mp hs).1, hs]
    · rw [List.getElem?_set_ne hj]
  rw [es] at S3
  exact S3
/-- what a list's method makes of the items and the arguments: the new items, and what is handed back -/
abbrev LMeth := List D → List D → Option (List D × D)
/-- a method of the list in slot i -/
def mLM (f : LMeth) (i : Nat) (a : M (List D)) : M D := fun ρ => match ρ[i]? with
  | some (some (.ol _)) => (bnd a fun es => bnd (fOwns es) fun xs ρ1 => match ρ1[i]? with
    | some (some (.ol ds)) => (match f ds xs with
      | some (nd, y) => some (.ok y, ρ1.set i (some (.ol nd)))
      | none => none)
    | _ => none) ρ
  | _ => none
/-- the rule r does what f says -/
def LRule (mg : Cn) (r : V → List V → Hp → VK → Prop) (f : LMeth) : Prop := ∀ (F : Addr → Prop) (H : Hp) (a : Addr) (ds es nd : List D) (y : D) (vs ws : List V) (Q : VK), f ds es = some (nd, y) → H a = some (.lst vs) → (∃ f0, RepOs F mg H ds vs f0) → (∃ g0, RepOs F mg H es ws g0) →
  ∃ nv w, (∀ f0 g0, RepOs F mg H ds vs f0 → RepOs F mg H es ws g0 → ∃ f' g' j, RepOs F mg H nd nv f' ∧ RepO F mg H y w g' ∧ (f0 ++ g0).Perm ((f' ++ g') ++ j)) ∧ (Q w (upd H a (.lst nv)) → r (.ref a) ws H Q)
theorem sim_LM {r : V → List V → Hp → VK → Prop} {f : LMeth} (hr : LRule mg r f) (i : Nat) {t : TA} {a : M (List D)} (ha : SimA mg W t a) : SimE mg W (tBM K "list" r (tVar i) t) (mLM f i a) := fun F B H σ ρ T Q res ρ' S e px h => by
  unfold mLM at e
  split at e
  · rename_i ds0 e0
    obtain ⟨v0, hv0, f0, r0⟩ := S.get e0 rfl
    obtain ⟨p, vs0, _, rfl, _, hp0, _⟩ := r0
    refine ⟨_, hv0, .inl ⟨rfl, vs0, .inl (.inl hp0)⟩, ?_⟩
    refine ha.bind S e px fun es ρ1 F1 B1 H1 ws e1 x1 l S1 => ?_
    rcases bnd_some e1 with ⟨xs, ρ2, e2, e3⟩ | ⟨c, fs, e2, e3⟩
    · obtain ⟨es', hd, l2, n2, F2, B2, x2, S2⟩ := S1.fOwns l e2
      cases hd
      split at e3
      · rename_i ds e4
        split at e3
        · rename_i nd y e5
          cases e3
          obtain ⟨v', hv', S3⟩ := S2.take e4 rfl
          rw [hv0] at hv'
          cases hv'
          have hi : i < ρ2.length := (List.getElem?_eq_some_iff.mp e4).1
          have S3' : Sat F2 B2 mg H1 σ (ρ2.set i none) ((.ref p, .ol ds) :: (ws.zip xs ++ T)) := S3
          obtain ⟨⟨o1, o2, k1, k2, _, _⟩, _, _⟩ := id S3'
          obtain ⟨f1, f2, _, k3, k4⟩ := k2
          obtain ⟨p', vs, f3, e6, _, hp, k5⟩ := (k3.own (fun i z => by cases z) : RepO F2 mg H1 (.ol ds) (.ref p) f1)
          cases e6
          obtain ⟨g1, g2, _, k6, _⟩ := RTs.split k4
          obtain ⟨nv, w, k7, k8⟩ := hr F2 H1 p ds xs nd y vs ws Q e5 hp ⟨_, k5⟩ ⟨_, RTs.repOs l2 n2 k6⟩
          refine k8 ?_
          have ny : ∀ j, y ≠ .sl j := fun j z => by
            obtain ⟨_, _, _, _, q, _⟩ := k7 _ _ k5 (RTs.repOs l2 n2 k6)
            rw [z] at q
            exact q
          obtain ⟨F3, B3, x3, S4⟩ := Sat.updL (od := [y]) (ov := [w]) l2 n2 S3' hp fun f0 g0 q1 q2 => by
            obtain ⟨f', g', j, q3, q4, q5⟩ := k7 f0 g0 q1 q2
            exact ⟨f', g', j, q3, ⟨w, [], g', [], rfl, by simp, q4, rfl, rfl⟩, q5⟩
          exact h y rfl F3 B3 _ w ((x1.trans x2).trans x3) (S4.putBack (fun j z => by cases z) hi hv0)
        · cases e3
      · cases e3
    · obtain ⟨ds', hd, _⟩ := S1.fOwns l e2
      cases hd
  · cases e
theorem RepOs.two {ds es : List D} {vs ws : List V} {f g : List Addr} (h : RepOs F mg H ds vs f) (h' : RepOs F mg H es ws g) : RepOs F mg H (ds ++ es) (vs ++ ws) (f ++ g) := h.append h'
/-! ### append -/
def lAppend : LMeth := fun ds es => match es with
  | [e] => if ds.length < lim then some (ds ++ [e], .non) else none
  | _ => none
theorem lr_append : LRule mg rAppend lAppend := fun F H a ds es nd y vs ws Q e hp ⟨f0, h0⟩ ⟨g0, h1⟩ => by
  unfold lAppend at e
  split at e
  · rename_i d
    split at e
    · rename_i hl
      cases e
      obtain ⟨w, ws', f1, f2, rfl, _, _, hw, _⟩ := h1
      have hw : ws' = [] := hw
      subst hw
      exact ⟨vs ++ [w], .non, fun f0 g0 q1 q2 => ⟨f0 ++ g0, [], [], q1.append q2, ⟨rfl, rfl⟩, by simp⟩, fun q => ⟨a, vs, w, rfl, rfl, hp, by rw [lim_eq, ← h0.length]; exact hl, q⟩⟩
    · cases e
  · cases e
/-! ### insert -/
def lInsert : LMeth := fun ds es => match es with
  | [.int i, e] => if ds.length < lim ∧ 0 ≤ i ∧ i < 2 ^ 63 then some (ds.take i.toNat ++ [e] ++ ds.drop i.toNat, .non) else none
  | _ => none
theorem lr_insert : LRule mg (fun x vs H Q => ∃ (l : Addr) (xs : List V) (i : Int) (y : V), x = .ref l ∧ vs = [.int i, y] ∧ H l = some (.lst xs) ∧ xs.length < sizeLine ∧ 0 ≤ i ∧ i < 2 ^ 63 ∧
    Q .non (upd H l (.lst (xs.take i.toNat ++ [y] ++ xs.drop i.toNat)))) lInsert := fun F H a ds es nd y vs ws Q e hp ⟨f0, h0⟩ ⟨g0, h1⟩ => by
  unfold lInsert at e
  split at e
  · rename_i i d _
    split at e
    · rename_i hl
      cases e
      obtain ⟨w0, ws', f1, f2, rfl, _, r0, w, ws2, f3, f4, rfl, _, r1, hw, _⟩ := h1
      have hw : ws2 = [] := hw
      subst hw
      obtain rfl : w0 = .int i := r0.1
      refine ⟨vs.take i.toNat ++ [w] ++ vs.drop i.toNat, .non, fun f0 g0 q1 q2 => ?_, fun q => ⟨a, vs, i, w, rfl, rfl, hp, by rw [lim_eq, ← h0.length]; exact hl.1, hl.2.1, hl.2.2, q⟩⟩
      obtain ⟨k1, k2, ek, a1, a2⟩ := q1.cutAt i.toNat
      obtain ⟨_, _, g1, g2, eq1, eg, ⟨_, e0⟩, q4⟩ := q2
      cases eq1
      subst e0
      have eg : g0 = g2 := eg
      subst eg
      refine ⟨(k1 ++ g0) ++ k2, [], [], (a1.append q4).append a2, ⟨rfl, rfl⟩, ?_⟩
      rw [ek]
      simp only [List.nil_append, List.append_nil, List.append_assoc]
      exact List.Perm.append_left _ List.perm_append_comm
    · cases e
  · cases e
/-! ### pop -/
def lPop : LMeth := fun ds es => match es with
  | [] => (match ds[ds.length - 1]? with
    | some y => some (ds.dropLast, y)
    | none => none)
  | [.int i] => if -(2 ^ 63) ≤ i ∧ i < 2 ^ 63 then (match seqIndex? i ds.length with
    | some k => (match ds[k]? with
      | some y => some (ds.eraseIdx k, y)
      | none => none)
    | none => none) else none
  | _ => none
theorem RepOs.erase : ∀ {ds : List D} {vs : List V} {f : List Addr} {k : Nat} {y : D}, RepOs F mg H ds vs f → ds[k]? = some y → ∃ w f' g', vs[k]? = some w ∧ RepOs F mg H (ds.eraseIdx k) (vs.eraseIdx k) f' ∧ RepO F mg H y w g' ∧ f.Perm (f' ++ g')
  | [], _, _, _, _, _, e => by simp at e
  | d :: ds, _, _, 0, y, ⟨v, vs, f1, f2, e1, e2, h1, h2⟩, e => by
    simp at e
    subst e e1 e2
    exact ⟨v, f2, f1, rfl, h2, h1, List.perm_append_comm⟩
  | d :: ds, _, _, k + 1, y, ⟨v, vs, f1, f2, e1, e2, h1, h2⟩, e => by
    subst e1 e2
    obtain ⟨w, f', g', q1, q2, q3, q4⟩ := RepOs.erase (k := k) h2 (by simpa using e)
    exact ⟨w, f1 ++ f', g', by simpa using q1, ⟨v, _, f1, f', rfl, rfl, h1, q2⟩, q3, by rw [List.append_assoc]; exact List.Perm.append_left _ q4⟩
theorem erase_last {α : Type} (xs : List α) (h : xs ≠ []) : xs.eraseIdx (xs.length - 1) = xs.dropLast := by
  rw [List.eraseIdx_eq_take_drop_succ, List.dropLast_eq_take]
  have : xs.length - 1 + 1 = xs.length := by
    have := List.length_pos_iff.mpr h
    omega
  rw [this, List.drop_length, List.append_nil]
theorem lr_pop : LRule mg (fun x vs H Q => rPop x vs H Q ∨ rPopAt x vs H Q) lPop := fun F H a ds es nd y vs ws Q e hp ⟨f0, h0⟩ ⟨g0, h1⟩ => by
  unfold lPop at e
  split at e
  · split at e
    · rename_i d hd
      cases e
      have hw : ws = [] := h1.1
      subst hw
      obtain ⟨w, _, _, hw, _⟩ := h0.erase hd
      have hne : ds ≠ [] := fun z => by rw [z] at hd; simp at hd
      have hnv : vs ≠ [] := fun z => by rw [z] at hw; simp at hw
      have hl := h0.length
      refine ⟨vs.dropLast, w, fun f0 g0 q1 q2 => ?_, fun q => .inl ⟨a, vs, w, rfl, rfl, hp, by rw [← hl]; exact hw, q⟩⟩
      obtain ⟨w', f', g', p1, p2, p3, p4⟩ := q1.erase hd
      rw [hw] at p1
      cases p1
      rw [erase_last _ hne] at p2
      rw [hl, erase_last _ hnv] at p2
      have eg : g0 = [] := q2.2
      subst eg
      exact ⟨f', g', [], p2, p3, by simpa using p4⟩
    · cases e
  · rename_i i _
    split at e
    · rename_i hb
      split at e
      · rename_i k hk
        split at e
        · rename_i d hd
          cases e
          obtain ⟨w0, ws', f1, f2, rfl, _, r0, hw, _⟩ := h1
          have hw : ws' = [] := hw
          subst hw
          obtain rfl : w0 = .int i := r0.1
          obtain ⟨w, _, _, hw, _⟩ := h0.erase hd
          refine ⟨vs.eraseIdx k, w, fun f0 g0 q1 q2 => ?_, fun q => .inr ⟨a, vs, i, k, w, rfl, rfl, hp, hb.1, hb.2, by rw [← h0.length]; exact hk, hw, q⟩⟩
          obtain ⟨w', f', g', p1, p2, p3, p4⟩ := q1.erase hd
          rw [hw] at p1
          cases p1
          exact ⟨f', g', g0, p2, p3, List.Perm.append_right _ p4⟩
        · cases e
      · cases e
    · cases e
  · cases e
end
end SV
end
section
set_option Elab.async false
set_option linter.all false
set_option maxRecDepth 100000
set_option maxHeartbeats 4000000
namespace SV
open PySem PySem.Spec L2
/-! ### judgements: a piece of syntax and what it reckons -/
section
variable (g : Cn) (W : WX)
def TEof (m : M D) : TE := fun σ H Q => ∃ (F B : Addr → Prop) (ρ : Env) (T : Tm) (r : Res D) (ρ' : Env), Sat F B g H σ ρ T ∧ m ρ = some (r, ρ') ∧ PX g W σ T F B H ρ' r ∧ ∀ d, r = .ok d → ∀ F' B' H' v, Ext F B H F' B' H' → Sat F' B' g H' σ ρ' ((v, d) :: T) → Q v H'
def TTof (m : M Bool) : TT := fun σ H Q => ∃ (F B : Addr → Prop) (ρ : Env) (T : Tm) (r : Res Bool) (ρ' : Env), Sat F B g H σ ρ T ∧ m ρ = some (r, ρ') ∧ PX g W σ T F B H ρ' r ∧ ∀ b, r = .ok b → ∀ F' B' H', Ext F B H F' B' H' → Sat F' B' g H' σ ρ' T → Q b H'
def TAof (m : M (List D)) : TA := fun σ H Q => ∃ (F B : Addr → Prop) (ρ : Env) (T : Tm) (r : Res (List D)) (ρ' : Env), Sat F B g H σ ρ T ∧ m ρ = some (r, ρ') ∧ PX g W σ T F B H ρ' r ∧ ∀ ds, r = .ok ds → ∀ F' B' H' vs, Ext F B H F' B' H' → vs.length = ds.length → Sat F' B' g H' σ ρ' (vs.zip ds ++ T) → Q vs H'
def TOof (m : M (Option Int)) : TO := fun σ H Q => ∃ (F B : Addr → Prop) (ρ : Env) (T : Tm) (r : Res (Option Int)) (ρ' : Env), Sat F B g H σ ρ T ∧ m ρ = some (r, ρ') ∧ PX g W σ T F B H ρ' r ∧ ∀ b, r = .ok b → ∀ F' B' H', Ext F B H F' B' H' → Sat F' B' g H' σ ρ' T → Q b H'
end
theorem selfE {g : Cn} {W : WX} {m : M D} : SimE g W (TEof g W m) m := fun F B H σ ρ T Q r ρ' S e px h => ⟨F, B, ρ, T, r, ρ', S, e, px, h⟩
theorem selfT {g : Cn} {W : WX} {m : M Bool} : SimT g W (TTof g W m) m := fun F B H σ ρ T Q r ρ' S e px h => ⟨F, B, ρ, T, r, ρ', S, e, px, h⟩
theorem selfA {g : Cn} {W : WX} {m : M (List D)} : SimA g W (TAof g W m) m := fun F B H σ ρ T Q r ρ' S e px h => ⟨F, B, ρ, T, r, ρ', S, e, px, h⟩
theorem selfO {g : Cn} {W : WX} {m : M (Option Int)} : SimO g W (TOof g W m) m := fun F B H σ ρ T Q r ρ' S e px h => ⟨F, B, ρ, T, r, ρ', S, e, px, h⟩
def VE (X : Cx) (g : Cn) (W : WX) (e : Expr) (m : M D) : Prop := PE X e (TEof g W m)
def VT (X : Cx) (g : Cn) (W : WX) (e : Expr) (m : M Bool) : Prop := PT X e (TTof g W m)
def VW (X : Cx) (g : Cn) (W : WX) (e : Expr) (m : M Bool) : Prop := PW X e (TTof g W m)
def VA (X : Cx) (g : Cn) (W : WX) (es : List Expr) (m : M (List D)) : Prop := PA X es (TAof g W m)
def VO (X : Cx) (g : Cn) (W : WX) (e : Option Expr) (m : M (Option Int)) : Prop := PO X e (TOof g W m)
section
variable {X : Cx} {g : Cn} {W : WX}
theorem VE.mk {e : Expr} {t : TE} {m : M D} (h : PE X e t) (s : SimE g W t m) : VE X g W e m := ⟨fun pins st σ H Q I ⟨F, B, ρ, T, r, ρ', S, e1, px, k⟩ => h.run pins st σ H Q I (s F B H σ ρ T Q r ρ' S e1 px k)⟩
theorem VT.mk {e : Expr} {t : TT} {m : M Bool} (h : PT X e t) (s : SimT g W t m) : VT X g W e m := ⟨fun pins st σ H Q I ⟨F, B, ρ, T, r, ρ', S, e1, px, k⟩ => h.run pins st σ H Q I (s F B H σ ρ T Q r ρ' S e1 px k)⟩
theorem VW.mk {e : Expr} {t : TT} {m : M Bool} (h : PW X e t) (s : SimT g W t m) : VW X g W e m := ⟨fun wh pins st σ H Q I ⟨F, B, ρ, T, r, ρ', S, e1, px, k⟩ => h.run wh pins st σ H Q I (s F B H σ ρ T Q r ρ' S e1 px k)⟩
theorem VA.mk {e : List Expr} {t : TA} {m : M (List D)} (h : PA X e t) (s : SimA g W t m) : VA X g W e m := ⟨fun pos pins st σ H Q I ⟨F, B, ρ, T, r, ρ', S, e1, px, k⟩ => h.run pos pins st σ H Q I (s F B H σ ρ T Q r ρ' S e1 px k)⟩
theorem VO.mk {e : Option Expr} {t : TO} {m : M (Option Int)} (h : PO X e t) (s : SimO g W t m) : VO X g W e m := ⟨fun pins st σ H Q I ⟨F, B, ρ, T, r, ρ', S, e1, px, k⟩ => h.run pins st σ H Q I (s F B H σ ρ T Q r ρ' S e1 px k)⟩
variable {a b c : Expr} {ma mb mc : M D} {pos : Pos} {rest : List Expr}
theorem v_int {i : Int} {j pos} : VE X g W (.Constant (.int i) j pos) (ret (.int i)) := .mk pe_int (sim_int i)
theorem v_bl {i : Bool} {j pos} : VE X g W (.Constant (.bool i) j pos) (ret (.bl i)) := .mk pe_bl (sim_bl i)
theorem v_str {i : Str} {j pos} : VE X g W (.Constant (.str i) j pos) (ret (.str i)) := .mk pe_str (sim_str i)
theorem v_non {j pos} : VE X g W (.Constant .none j pos) (ret .non) := .mk pe_non sim_non
theorem v_var {i : Nat} {x : Str} {pos : Pos} (hN : X.N[i]? = some x) (hv : Vis X.env.scope x) (hd : (x == ("__debug__" : Str)) = false := by decide) (hcd : (x == ("__classdict__" : Str)) = false := by decide) : VE X g W (.Name x pos) (mVar i) := .mk (pe_var hN hv hd hcd) (sim_var i)
/-- a module's int -/
theorem v_gint {x : Str} {i : Int} {t : Tok} {pos : Pos} (hg : Gl X x) (hm : X.mg x = some (.int i t)) (hd : (x == ("__debug__" : Str)) = false := by decide) : VE X g W (.Name x pos) (ret (.int i)) := .mk (pe_glob (v := .int i) hg hm ⟨t, rfl⟩ hd) (sim_int i)
theorem v_op {op : Operator} {r : R2} {f : D → D → M D} (ho : OpR X (binaryOp op) r) (hr : SimR g W r f) (ha : VE X g W a ma) (hb : VE X g W b mb) : VE X g W (.BinOp a op b pos) (mOp f ma mb) := .mk (pe_op ho ha hb) (sim_op hr selfE selfE)
theorem v_un {op : UnaryOp} {r : V → Hp → VK → Prop} {f : D → M D} (ho : UnR X (unaryOp op) r) (hr : SimU g W r f) (ha : VE X g W a ma) : VE X g W (.UnaryOp op a pos) (mUn f ma) := .mk (pe_un ho ha) (sim_un hr selfE)
theorem v_cmp {op : CmpOp} {r : R2} {f : D → D → M D} (ho : OpR X (compareOp op) r) (hr : SimR g W r f) (ha : VE X g W a ma) (hb : VE X g W b mb) (hm : behindInMarks op b = false) : VE X g W (.Compare a [op] [b] pos) (mOp f ma mb) := .mk (pe_cmpR ho ha hb hm) (sim_op hr selfE selfE)
theorem vt_cmp {op : CmpOp} {r : R2} {f : D → D → M D} (ho : OpR X (compareOp op) r) (hr : SimR g W r f) (ha : VE X g W a ma) (hb : VE X g W b mb) (hm : behindInMarks op b = false) : VT X g W (.Compare a [op] [b] pos) (mTb (mOp f ma mb)) := .mk (pt_cmpR ho ha hb hm) (sim_test (sim_op hr selfE selfE))
/-- a op b op' c -/
def mChain (f f' : D → D → M D) (ma mb mc : M D) : M D := bnd ma fun x => bnd mb fun y => bnd (f x y) fun k => match k with
  | .bl kb => if kb = true then (if y.sv.isSome = true then bnd mc fun z => f' y z else stuck) else ret (.bl false)
  | _ => stuck
theorem sim_chain {r r' : R2} {f f' : D → D → M D} {ta tb tc : TE} (hr : SimR g W r f) (hr' : SimR g W r' f') (ha : SimE g W ta ma) (hb : SimE g W tb mb) (hc : SimE g W tc mc) : SimE g W (tChain r r' ta tb tc) (mChain f f' ma mb mc) := fun F B H σ ρ T Q res ρ' S e px h => by
  refine ha.bind S e px fun dx ρ1 F1 B1 H1 x e1 x1 S1 => ?_
  refine hb.bind S1 e1 (px.shift x1).cons fun dy ρ2 F2 B2 H2 y e2 x2 S2 => ?_
  have x12 := x1.trans x2
  rcases bnd_some e2 with ⟨k, ρ3, e3, e4⟩ | ⟨c, fs, e3, e4⟩
  · refine hr F2 B2 H2 σ ρ2 T x y dx dy _ (.ok k) ρ3 S2 e3 PX.ok fun d hd F3 B3 H3 z x3 S3 => ?_
    cases hd
    split at e4
    · rename_i kb
      obtain ⟨_, rz⟩ := S3.top
      refine ⟨kb, rt_bl rz, ?_⟩
      cases kb with
      | false =>
        cases e4
        rw [if_neg Bool.false_ne_true]
        exact h _ rfl F3 B3 H3 _ (x12.trans x3) (S3.pop.push (by rfl))
      | true =>
      rw [if_pos rfl] at e4 ⊢
      split at e4
      · rename_i hw
        obtain ⟨w, hw⟩ := Option.isSome_iff_exists.mp hw
        obtain ⟨_, ry⟩ := S2.top
        have ryv : y = w := by
          cases dy <;> first
            | (cases hw; first | exact rt_int ry | exact rt_bl ry | exact rt_str ry | exact rt_non ry)
            | cases hw
        subst ryv
        refine SimE.bind (T := (y, dy) :: T) (ρ' := ρ') hc (S3.pop.push (rep_sv hw)) e4 ((px.shift (x12.trans x3)).cons) fun dz ρ4 F4 B4 H4 u e5 x4 S4 => ?_
        exact hr' F4 B4 H4 σ ρ4 T y u dy dz Q res ρ' S4 e5 (px.shift ((x12.trans x3).trans x4)) fun d hd F' B' H' v x5 S5 => h d hd F' B' H' v (((x12.trans x3).trans x4).trans x5) S5
      · cases e4
    · cases e4
  · cases res with
    | ok d => cases e4
    | exc c' fs' =>
      cases e4
      exact hr F2 B2 H2 σ ρ2 T x y dx dy _ (.exc c fs) _ S2 e3 (px.shift x12) fun d hd => by cases hd
theorem v_chain {op op' : CmpOp} {r r' : R2} {f f' : D → D → M D} (ho : OpR X (compareOp op) r) (hr : SimR g W r f) (ho' : OpR X (compareOp op') r') (hr' : SimR g W r' f') (ha : VE X g W a ma) (hb : VE X g W b mb) (hc : VE X g W c mc)
    (hm : lastMarks [op, op'] [b, c] = false := by with_unfolding_all rfl) : VE X g W (.Compare a [op, op'] [b, c] pos) (mChain f f' ma mb mc) := .mk (pe_chain ho ho' ha hb hc hm) (sim_chain hr hr' selfE selfE selfE)
theorem vt_chain {op op' : CmpOp} {r r' : R2} {f f' : D → D → M D} (ho : OpR X (compareOp op) r) (hr : SimR g W r f) (ho' : OpR X (compareOp op') r') (hr' : SimR g W r' f') (ha : VE X g W a ma) (hb : VE X g W b mb) (hc : VE X g W c mc)
    (hm : lastMarks [op, op'] [b, c] = false := by with_unfolding_all rfl) : VT X g W (.Compare a [op, op'] [b, c] pos) (mTb (mChain f f' ma mb mc)) := .mk (pt_chain ho ho' ha hb hc hm) (sim_test (sim_chain hr hr' selfE selfE selfE))
theorem v_isN {j pos'} (ha : VE X g W a ma) : VE X g W (.Compare a [.Is] [.Constant .none j pos'] pos) (mIsN ma) := .mk (pe_cmp (pc_isN ha)) (sim_isN selfE)
theorem v_notN {j pos'} (ha : VE X g W a ma) : VE X g W (.Compare a [.IsNot] [.Constant .none j pos'] pos) (mNotN ma) := .mk (pe_cmp (pc_notN ha)) (sim_notN selfE)
theorem vt_isN {j pos'} (ha : VE X g W a ma) : VT X g W (.Compare a [.Is] [.Constant .none j pos'] pos) (mTb (mIsN ma)) := .mk (pt_cmp (pc_isN ha)) (sim_tb (sim_isN selfE))
theorem vt_notN {j pos'} (ha : VE X g W a ma) : VT X g W (.Compare a [.IsNot] [.Constant .none j pos'] pos) (mTb (mNotN ma)) := .mk (pt_cmp (pc_notN ha)) (sim_tb (sim_notN selfE))
/-- an expression whose value is a bool, as a test (he: by intro _; rfl) -/
theorem vt_val (ha : VE X g W a ma) (he : ∀ whole, isTrue a X.env whole = (do let v ← whole; standAt a.pos; holding [v] (truthy v)) := by intro _; rfl) : VT X g W a (mTb ma) := .mk (pt_val ha he) (sim_tb selfE)
theorem vt_tru (ha : VE X g W a ma) (he : ∀ whole, isTrue a X.env whole = (do let v ← whole; standAt a.pos; holding [v] (truthy v)) := by intro _; rfl) : VT X g W a (mTru ma) := .mk (pt_truth ha he) (sim_tru selfE)
variable {na nb : M Bool}
theorem vt_not (ha : VT X g W a na) : VT X g W (.UnaryOp .Not a pos) (mNot na) := .mk (pt_not ha) (sim_not selfT)
theorem vw_and1 (ha : VT X g W a na) : VW X g W (.BoolOp .And [a] pos) na := pw_and1 ha
theorem vw_or1 (ha : VT X g W a na) : VW X g W (.BoolOp .Or [a] pos) na := pw_or1 ha
theorem vw_and (ha : VT X g W a na) (hb : VW X g W (.BoolOp .And (b :: rest) pos) nb) : VW X g W (.BoolOp .And (a :: b :: rest) pos) (mAnd na nb) := .mk (pw_and ha hb) (sim_and selfT selfT)
theorem vw_or (ha : VT X g W a na) (hb : VW X g W (.BoolOp .Or (b :: rest) pos) nb) : VW X g W (.BoolOp .Or (a :: b :: rest) pos) (mOr na nb) := .mk (pw_or ha hb) (sim_or selfT selfT)
theorem VW.vt (h : VW X g W a na) : VT X g W a na := PW.pt h
theorem v_one {op} (h : VE X g W a ma) : VE X g W (.BoolOp op [a] pos) ma := pe_one h
theorem v_and (ha : VE X g W a ma) (hb : VE X g W (.BoolOp .And (b :: rest) pos) mb) : VE X g W (.BoolOp .And (a :: b :: rest) pos) (mAndV ma mb) := .mk (pe_and ha hb) (sim_andV selfE selfE)
theorem v_or (ha : VE X g W a ma) (hb : VE X g W (.BoolOp .Or (b :: rest) pos) mb) : VE X g W (.BoolOp .Or (a :: b :: rest) pos) (mOrV ma mb) := .mk (pe_or ha hb) (sim_orV selfE selfE)
theorem v_not (ha : VE X g W a ma) : VE X g W (.UnaryOp .Not a pos) (mNotV ma) := .mk (pe_not ha) (sim_notV selfE)
theorem v_ifE (hc : VT X g W c na) (ha : VE X g W a ma) (hb : VE X g W b mb) : VE X g W (.IfExp c a b pos) (mIfE na ma mb) := .mk (pe_ifExp hc ha hb) (sim_ifE selfT selfE selfE)
variable {es : List Expr} {ms : M (List D)}
theorem va_nil : VA X g W [] mNil := .mk pa_nil sim_nil
theorem va_cons (ha : VE X g W a ma) (hr : VA X g W es ms) (hs : starEach (a :: es) X.env = (false, eval a X.env) :: starEach es X.env := by rfl) : VA X g W (a :: es) (mCons ma ms) := .mk (pa_cons ha hr hs) (sim_cons selfE selfA)
theorem v_tup {x1} (h : VA X g W es ms) : VE X g W (.Tuple es x1 pos) (mTup ms) := .mk (pe_tup h) (sim_tup selfA)
theorem v_lst (h : VA X g W es ms) : VE X g W (.List es pos) (mLst ms) := .mk (pe_lst h) (sim_lst selfA)
theorem v_ix (ha : VE X g W a ma) (hb : VE X g W b mb) (hs : PlainIx b) : VE X g W (.Subscript a b pos) (mOp (fLook2 gIx) ma mb) := .mk (pe_ix ix_seq ha hb hs) (sim_op r_ix selfE selfE)
variable {id : String} {x : Str} {p apos : Pos}
theorem v_bi {r : List V → Hp → VK → Prop} {f : List D → M D} (hc : CallR X (.builtin id) r) (hr : SimC g W r f) (hg : Gl X x) (hm : X.mg x = none) (hv : bootBuiltins x = some (.builtin id)) (ha : VA X g W (a :: es) ms) (hn : x ≠ "__name__" := by decide) (hdb : (x == ("__debug__" : Str)) = false := by decide)
    (he : starEach (a :: es) X.env = (false, eval a X.env) :: starEach es X.env := by rfl) (hpl : (backTo pos (starEach es X.env)).any (·.1) = false := by rfl) : VE X g W (.Call (.Name x p) (a :: es) [] pos) (mCB f ms) := .mk (pe_callB hc hg hm hv ha hn hdb he hpl) (sim_CB hr selfA)
theorem v_ty {r : List V → Hp → VK → Prop} {f : List D → M D} (hc : CallR X (.type id) r) (hr : SimC g W r f) (hg : Gl X x) (hm : X.mg x = none) (hv : bootBuiltins x = some (.type id)) (ha : VA X g W (a :: es) ms) (hn : x ≠ "__name__" := by decide) (hdb : (x == ("__debug__" : Str)) = false := by decide)
    (he : starEach (a :: es) X.env = (false, eval a X.env) :: starEach es X.env := by rfl) (hpl : (backTo pos (starEach es X.env)).any (·.1) = false := by rfl) : VE X g W (.Call (.Name x p) (a :: es) [] pos) (mCB f ms) := .mk (pe_callTy hc hg hm hv ha hn hdb he hpl) (sim_CB hr selfA)
theorem vo_none : VO X g W none (ret none) := .mk po_none sim_onone
theorem vo_some (h : VE X g W a ma) : VO X g W (some a) (mPart ma) := .mk (po_some h) (sim_opart selfE)
theorem v_sl {lo hi : Option Expr} {ml mh : M (Option Int)} {p2 : Pos} (ha : VE X g W a ma) (hl : VO X g W lo ml) (hh : VO X g W hi mh) : VE X g W (.Subscript a (.Slice lo hi none p2) pos) (mSl ma ml mh) := .mk (pe_slice (sl_list.or sl_tupA) ha hl hh) (sim_sl selfE selfO selfO)
end
end SV
end
section
set_option Elab.async false
set_option linter.all false
set_option maxRecDepth 100000
set_option maxHeartbeats 4000000
namespace SV
open PySem PySem.Spec L2
/-! ### statements -/
inductive Fl where
  | nx | ret (d : D) | brk | ct | exc (c : Str) (fs : List (Str × D))
abbrev SM := Env → Option (Fl × Env)
section
variable (g : Cn) (W : WX) (P : List Nat)
/-- what is wanted behind a statement, by how it ends; the slots P are never stored into -/
structure FP (Dn : Ends) (F B : Addr → Prop) (H : Hp) (σ : St) (ρ' : Env) (fl : Fl) : Prop where
  nx : fl = .nx → ∀ F' B' H' σ', Ext F B H F' B' H' → (∀ i ∈ P, σ'[i]? = σ[i]?) → Sat F' B' g H' σ' ρ' [] → Dn.nx σ' H'
  bk : fl = .brk → ∀ F' B' H' σ', Ext F B H F' B' H' → (∀ i ∈ P, σ'[i]? = σ[i]?) → Sat F' B' g H' σ' ρ' [] → Dn.bk σ' H'
  ct : fl = .ct → ∀ F' B' H' σ', Ext F B H F' B' H' → (∀ i ∈ P, σ'[i]? = σ[i]?) → Sat F' B' g H' σ' ρ' [] → Dn.ct σ' H'
  rt : ∀ d, fl = .ret d → ∀ F' B' H' σ' v, Ext F B H F' B' H' → (∀ i ∈ P, σ'[i]? = σ[i]?) → (∀ i, d ≠ .sl i) → Sat F' B' g H' σ' ρ' [(v, d)] → Dn.rt v H'
  xc : ∀ c fs, fl = .exc c fs → ∀ F' B' H' σ' cls dx, Ext F B H F' B' H' → (∀ i ∈ P, σ'[i]? = σ[i]?) → Sat F' B' g H' σ' ρ' [] → ExcAt F' g H' cls dx c fs → W cls dx σ' H'
def SimS (t : TS) (m : SM) : Prop := ∀ (F B : Addr → Prop) (H : Hp) (σ : St) (ρ : Env) (Dn : Ends) (fl : Fl) (ρ' : Env), Sat F B g H σ ρ [] → m ρ = some (fl, ρ') → FP g W P Dn F B H σ ρ' fl → t Dn σ H
def TSof (m : SM) : TS := fun Dn σ H => ∃ (F B : Addr → Prop) (ρ : Env) (fl : Fl) (ρ' : Env), Sat F B g H σ ρ [] ∧ m ρ = some (fl, ρ') ∧ FP g W P Dn F B H σ ρ' fl
end
theorem selfS {g : Cn} {W : WX} {P : List Nat} {m : SM} : SimS g W P (TSof g W P m) m := fun F B H σ ρ Dn fl ρ' S e h => ⟨F, B, ρ, fl, ρ', S, e, h⟩
def VS (X : Cx) (g : Cn) (W : WX) (P : List Nat) (st : Stmt) (m : SM) : Prop := PS X st (TSof g W P m)
def VSs (X : Cx) (g : Cn) (W : WX) (P : List Nat) (st : List Stmt) (m : SM) : Prop := PSs X st (TSof g W P m)
/-- an expression, then a statement's end -/
def bndS {α : Type} (m : M α) (k : α → SM) : SM := fun ρ => match m ρ with
  | some (.ok a, ρ1) => k a ρ1
  | some (.exc c fs, ρ1) => some (.exc c fs, ρ1)
  | none => none
def endS (fl : Fl) : SM := fun ρ => some (fl, ρ)
def stuckS : SM := fun _ => none
section
variable {X : Cx} {g : Cn} {W : WX} {P : List Nat} {F B F' B' : Addr → Prop} {H H' : Hp} {σ σ' : St} {ρ ρ' : Env} {T : Tm} {v : V} {d : D} {Dn : Ends} {fl : Fl}
theorem FP.shift (x : Ext F B H F' B' H') (hP : ∀ i ∈ P, σ'[i]? = σ[i]?) (p : FP g W P Dn F B H σ ρ' fl) : FP g W P Dn F' B' H' σ' ρ' fl where
  nx := fun e F2 B2 H2 σ2 y q S => p.nx e F2 B2 H2 σ2 (x.trans y) (fun i hi => (q i hi).trans (hP i hi)) S
  bk := fun e F2 B2 H2 σ2 y q S => p.bk e F2 B2 H2 σ2 (x.trans y) (fun i hi => (q i hi).trans (hP i hi)) S
  ct := fun e F2 B2 H2 σ2 y q S => p.ct e F2 B2 H2 σ2 (x.trans y) (fun i hi => (q i hi).trans (hP i hi)) S
  rt := fun d e F2 B2 H2 σ2 v y q n S => p.rt d e F2 B2 H2 σ2 v (x.trans y) (fun i hi => (q i hi).trans (hP i hi)) n S
  xc := fun c fs e F2 B2 H2 σ2 cls dx y q S z => p.xc c fs e F2 B2 H2 σ2 cls dx (x.trans y) (fun i hi => (q i hi).trans (hP i hi)) S z
theorem FP.shiftE (x : Ext F B H F' B' H') (p : FP g W P Dn F B H σ ρ' fl) : FP g W P Dn F' B' H' σ ρ' fl := p.shift x fun _ _ => rfl
theorem FP.px {α : Type} {c : Str} {fs : List (Str × D)} (p : FP g W P Dn F B H σ ρ' (.exc c fs)) : PX (α := α) g W σ [] F B H ρ' (.exc c fs) := fun c' fs' e F2 B2 H2 cls dx x S z => by
  cases e
  exact p.xc c fs rfl F2 B2 H2 σ cls dx x (fun _ _ => rfl) S z
/-- an expression in a statement -/
theorem SimE.bindS {ta : TE} {ma : M D} (ha : SimE g W ta ma) {k : D → SM} {R : V → Hp → Prop} (S : Sat F B g H σ ρ []) (e : bndS ma k ρ = some (fl, ρ')) (p : FP g W P Dn F B H σ ρ' fl)
    (h : ∀ d ρ1 F1 B1 H1 v, k d ρ1 = some (fl, ρ') → Ext F B H F1 B1 H1 → Sat F1 B1 g H1 σ ρ1 [(v, d)] → R v H1) : ta σ H R := by
  unfold SV.bndS at e
  split at e
  · rename_i a ρ1 e1
    exact ha F B H σ ρ [] R (.ok a) ρ1 S e1 PX.ok fun d hd F1 B1 H1 v x S1 => by cases hd; exact h a ρ1 F1 B1 H1 v e x S1
  · rename_i c fs ρ1 e1
    cases e
    exact ha F B H σ ρ [] R (.exc c fs) _ S e1 p.px fun d hd => by cases hd
  · cases e
theorem SimT.bindS {ta : TT} {ma : M Bool} (ha : SimT g W ta ma) {k : Bool → SM} {R : Bool → Hp → Prop} (S : Sat F B g H σ ρ []) (e : bndS ma k ρ = some (fl, ρ')) (p : FP g W P Dn F B H σ ρ' fl)
    (h : ∀ d ρ1 F1 B1 H1, k d ρ1 = some (fl, ρ') → Ext F B H F1 B1 H1 → Sat F1 B1 g H1 σ ρ1 [] → R d H1) : ta σ H R := by
  unfold SV.bndS at e
  split at e
  · rename_i a ρ1 e1
    exact ha F B H σ ρ [] R (.ok a) ρ1 S e1 PX.ok fun d hd F1 B1 H1 x S1 => by cases hd; exact h a ρ1 F1 B1 H1 e x S1
  · rename_i c fs ρ1 e1
    cases e
    exact ha F B H σ ρ [] R (.exc c fs) _ S e1 p.px fun d hd => by cases hd
  · cases e
theorem SimA.bindS {ta : TA} {ma : M (List D)} (ha : SimA g W ta ma) {k : List D → SM} {R : List V → Hp → Prop} (S : Sat F B g H σ ρ []) (e : bndS ma k ρ = some (fl, ρ')) (p : FP g W P Dn F B H σ ρ' fl)
    (h : ∀ ds ρ1 F1 B1 H1 vs, k ds ρ1 = some (fl, ρ') → Ext F B H F1 B1 H1 → vs.length = ds.length → Sat F1 B1 g H1 σ ρ1 (vs.zip ds) → R vs H1) : ta σ H R := by
  unfold SV.bndS at e
  split at e
  · rename_i a ρ1 e1
    exact ha F B H σ ρ [] R (.ok a) ρ1 S e1 PX.ok fun d hd F1 B1 H1 v x l S1 => by cases hd; exact h a ρ1 F1 B1 H1 v e x l (by simpa using S1)
  · rename_i c fs ρ1 e1
    cases e
    exact ha F B H σ ρ [] R (.exc c fs) _ S e1 p.px fun d hd => by cases hd
  · cases e
theorem VS.mk {st : Stmt} {t : TS} {m : SM} (h : PS X st t) (s : SimS g W P t m) : VS X g W P st m := ⟨fun pins st σ H Dn I ⟨F, B, ρ, fl, ρ', S, e1, k⟩ => h.run pins st σ H Dn I (s F B H σ ρ Dn fl ρ' S e1 k)⟩
theorem VSs.mk {st : List Stmt} {t : TS} {m : SM} (h : PSs X st t) (s : SimS g W P t m) : VSs X g W P st m := ⟨fun pins st σ H Dn I ⟨F, B, ρ, fl, ρ', S, e1, k⟩ => h.run pins st σ H Dn I (s F B H σ ρ Dn fl ρ' S e1 k)⟩
/-! ### blocks -/
def mSeq (a b : SM) : SM := fun ρ => match a ρ with
  | some (.nx, ρ1) => b ρ1
  | x => x
theorem sim_seq {t u : TS} {a b : SM} (ha : SimS g W P t a) (hb : SimS g W P u b) : SimS g W P (tSeq t u) (mSeq a b) := fun F B H σ ρ Dn fl ρ' S e p => by
  unfold mSeq at e
  split at e
  · rename_i ρ1 e1
    refine ha F B H σ ρ { Dn with nx := u Dn } .nx ρ1 S e1 ⟨fun _ F1 B1 H1 σ1 x q S1 => ?_, fun h => (by cases h), fun h => (by cases h), fun d h => (by cases h), fun c fs h => (by cases h)⟩
    exact hb F1 B1 H1 σ1 ρ1 Dn fl ρ' S1 e (p.shift x q)
  · rename_i z hn
    refine ha F B H σ ρ { Dn with nx := u Dn } fl ρ' S e ⟨fun h => ?_, p.bk, p.ct, p.rt, p.xc⟩
    subst h
    exact absurd e (hn ρ')
theorem vss_nil : VSs X g W P [] (endS .nx) := .mk pss_nil fun F B H σ ρ Dn fl ρ' S e p => by
  cases e
  exact p.nx rfl F B H σ Ext.refl (fun _ _ => rfl) S
theorem vss_cons {st : Stmt} {rest : List Stmt} {a b : SM} (h1 : VS X g W P st a) (h2 : VSs X g W P rest b) : VSs X g W P (st :: rest) (mSeq a b) := .mk (pss_cons h1 h2) (sim_seq selfS selfS)
theorem vss_one {st : Stmt} {a : SM} (h1 : VS X g W P st a) : VSs X g W P [st] a := .mk (pss_one h1) selfS
theorem vs_pass {pos : Pos} : VS X g W P (.Pass pos) (endS .nx) := .mk ps_pass fun F B H σ ρ Dn fl ρ' S e p => by
  cases e
  exact p.nx rfl F B H σ Ext.refl (fun _ _ => rfl) S
theorem vs_break {pos : Pos} : VS X g W P (.Break pos) (endS .brk) := .mk ps_break fun F B H σ ρ Dn fl ρ' S e p => by
  cases e
  exact p.bk rfl F B H σ Ext.refl (fun _ _ => rfl) S
theorem vs_cont {pos : Pos} : VS X g W P (.Continue pos) (endS .ct) := .mk ps_continue fun F B H σ ρ Dn fl ρ' S e p => by
  cases e
  exact p.ct rfl F B H σ Ext.refl (fun _ _ => rfl) S
variable {e a : Expr} {m : M D} {pos : Pos} {n : M Bool}
def mExpr (m : M D) : SM := bndS m fun _ => endS .nx
theorem vs_expr (he : VE X g W e m) (hs : swapsWith e none pos.line X.env = pure false := by rfl) : VS X g W P (.Expr e pos) (mExpr m) := .mk (ps_expr he hs) fun F B H σ ρ Dn fl ρ' S e p => by
  refine selfE.bindS S e p fun d ρ1 F1 B1 H1 v e1 x1 S1 => ?_
  cases e1
  exact p.nx rfl F1 B1 H1 σ x1 (fun _ _ => rfl) S1.pop
/-- a thing is handed over: a slot's thing leaves its slot -/
def fMove : D → M D := fun d ρ => match d with
  | .sl i => (match ρ[i]? with
    | some (some c) => if c.isX = true then none else some (.ok c, ρ.set i none)
    | _ => none)
  | d => some (.ok d, ρ)
theorem Sat.fMove {z : Res D × Env} (S : Sat F B g H σ ρ ((v, d) :: T)) (e : fMove d ρ = some z) : ∃ d', z.1 = .ok d' ∧ (∀ i, d' ≠ .sl i) ∧ Sat F B g H σ z.2 ((v, d') :: T) := by
  cases d with
  | sl i =>
    have e : (match ρ[i]? with
      | some (some c) => if c.isX = true then none else some (Res.ok c, ρ.set i none)
      | _ => none) = some z := e
    split at e
    · rename_i c e1
      split at e
      · cases e
      · rename_i nx
        have nx : c.isX = false := by simpa using nx
        cases e
        obtain ⟨gg, r⟩ := S.top
        have hs : σ[i]? = some (some v) := r.1
        obtain ⟨v', hv', S1⟩ := S.pop.take e1 nx
        rw [hs] at hv'
        cases hv'
        refine ⟨c, rfl, fun j z => ?_, S1⟩
        obtain ⟨_, _, _, r2⟩ := S.get e1 nx
        rw [z] at r2
        exact r2.elim
    · cases e
  | _ => cases e; exact ⟨_, rfl, fun i q => (by cases q), S⟩
def mRet (m : M D) : SM := bndS (bnd m fMove) fun d => endS (.ret d)
def mRetN : SM := endS (.ret .non)
theorem vs_ret (he : VE X g W e m) : VS X g W P (.Return (some e) pos) (mRet m) := .mk (ps_ret he) fun F B H σ ρ Dn fl ρ' S e p => by
  unfold mRet bndS at e
  split at e
  · rename_i d ρ1 e1
    cases e
    rcases bnd_some e1 with ⟨d0, ρ0, e2, e3⟩ | ⟨c, fs, e2, e3⟩
    · refine selfE F B H σ ρ [] _ (.ok d0) ρ0 S e2 PX.ok fun d1 hd F1 B1 H1 v x S1 => ?_
      cases hd
      obtain ⟨d', hd', nd, S2⟩ := S1.fMove e3
      cases hd'
      exact p.rt d rfl F1 B1 H1 σ v x (fun _ _ => rfl) nd S2
    · cases e3
  · rename_i c fs ρ1 e1
    cases e
    rcases bnd_some e1 with ⟨d0, ρ0, e2, e3⟩ | ⟨c, fs, e2, e3⟩
    · refine selfE F B H σ ρ [] _ (.ok d0) ρ0 S e2 PX.ok fun d1 hd F1 B1 H1 v x S1 => ?_
      cases hd
      obtain ⟨d', hd', _, S2⟩ := S1.fMove e3
      cases hd'
    · cases e3
      exact selfE F B H σ ρ [] _ (.exc c fs) _ S e2 p.px fun d hd => by cases hd
  · cases e
theorem vs_retN : VS X g W P (.Return none pos) mRetN := .mk ps_retN fun F B H σ ρ Dn fl ρ' S e p => by
  cases e
  exact p.rt .non rfl F B H σ .non Ext.refl (fun _ _ => rfl) (fun i z => by cases z) (S.push (by rfl))
def mIf (c : M Bool) (a b : SM) : SM := bndS c fun k => if k = true then a else b
theorem vs_if {c : Expr} {sa sb : List Stmt} {ma mb : SM} (hc : VT X g W c n) (ha : VSs X g W P sa ma) (hb : VSs X g W P sb mb) : VS X g W P (.If c sa sb pos) (mIf n ma mb) := .mk (ps_if hc ha hb) fun F B H σ ρ Dn fl ρ' S e p => by
  refine selfT.bindS S e p fun k ρ1 F1 B1 H1 e1 x1 S1 => ?_
  cases k with
  | true => exact selfS F1 B1 H1 σ ρ1 Dn fl ρ' S1 e1 (p.shiftE x1)
  | false => exact selfS F1 B1 H1 σ ρ1 Dn fl ρ' S1 e1 (p.shiftE x1)
/-! ### stores -/
def stS (i : Nat) (d : D) : SM := fun ρ => if i < ρ.length then some (.nx, ρ.set i (some d)) else none
def mSet (i : Nat) (m : M D) : SM := bndS (bnd m fMove) fun d => stS i d
theorem setP {i : Nat} {x : Option V} (hi : i ∉ P) : ∀ j ∈ P, (σ.set i x)[j]? = σ[j]? := fun j hj => List.getElem?_set_ne (by rintro rfl; exact hi hj)
theorem sim_set {t : TE} (i : Nat) (hi : i ∉ P) (ht : SimE g W t m) : SimS g W P (tAsg t (gName i)) (mSet i m) := fun F B H σ ρ Dn fl ρ' S e p => by
  unfold mSet bndS at e
  split at e
  · rename_i d ρ1 e1
    rcases bnd_some e1 with ⟨d0, ρ0, e2, e3⟩ | ⟨c, fs, e2, e3⟩
    · refine ht F B H σ ρ [] _ (.ok d0) ρ0 S e2 PX.ok fun d1 hd F1 B1 H1 v x S1 => ?_
      cases hd
      obtain ⟨d', hd', nd, S2⟩ := S1.fMove e3
      cases hd'
      unfold stS at e
      dsimp only at e
      split at e
      · rename_i hl
        cases e
        exact p.nx rfl F1 B1 H1 _ x (setP hi) (S2.put nd hl (.inr fun x hx => by cases hx))
      · cases e
    · cases e3
  · rename_i c fs ρ1 e1
    cases e
    rcases bnd_some e1 with ⟨d0, ρ0, e2, e3⟩ | ⟨c, fs, e2, e3⟩
    · refine ht F B H σ ρ [] _ (.ok d0) ρ0 S e2 PX.ok fun d1 hd F1 B1 H1 v x S1 => ?_
      cases hd
      obtain ⟨d', hd', _, S2⟩ := S1.fMove e3
      cases hd'
    · cases e3
      exact ht F B H σ ρ [] _ (.exc c fs) _ S e2 p.px fun d hd => by cases hd
  · cases e
theorem vs_set {i : Nat} {x : Str} {pos' : Pos} (hN : X.N.Nodup) (hi : X.N[i]? = some x) (hx : Loc X.env.scope x) (hp : i ∉ P) (he : VE X g W e m) (hs : swapsWith e (some (.Name x pos')) pos.line X.env = pure false := by rfl) (hf : X.fn x = true ∨ X.env.scope.names.lookup x = some .local := by first | exact .inl rfl | exact .inr rfl | assumption) :
    VS X g W P (.Assign [.Name x pos'] e pos) (mSet i m) := .mk (ps_set hN hi hx he hs hf) (sim_set i hp selfE)
/-- x op= e -/
def mAug (i : Nat) (f : D → D → M D) (m : M D) : SM := mSet i (mOp f (mVar i) m)
theorem vs_aug {i : Nat} {x : Str} {op : Operator} {r : R2} {f : D → D → M D} {pos' : Pos} (hN : X.N.Nodup) (hi : X.N[i]? = some x) (hx : Loc X.env.scope x) (hp : i ∉ P) (he : VE X g W e m) (ho : OpR X (inplaceOp op) r) (hr : SimR g W r f) (hf : X.fn x = true ∨ X.env.scope.names.lookup x = some .local := by first | exact .inl rfl | exact .inr rfl | assumption) :
    VS X g W P (.AugAssign (.Name x pos') op e pos) (mAug i f m) := .mk (ps_aug (ti := r) hN hi hx he ho hf) fun F B H σ ρ Dn fl ρ' S e p => by
  have key : SimS g W P (tAsg (tOp r (tVar i) (TEof g W m)) (gName i)) (mAug i f m) := sim_set i hp (sim_op hr (sim_var i) selfE)
  exact key F B H σ ρ Dn fl ρ' S e p
/-- a, b, .. = a tuple -/
def unpS : List Nat → List D → Env → Option Env
  | [], [], ρ => some ρ
  | i :: is, d :: ds, ρ => if i < ρ.length then unpS is ds (ρ.set i (some d)) else none
  | _, _, _ => none
def mUnp (is : List Nat) (m : M D) : SM := bndS (bnd m fItems) fun z ρ => if z.1 = true then (match unpS is z.2 ρ with
  | some ρ' => some (.nx, ρ')
  | none => none) else none
def gNames : List Nat → TGs
  | [] => gNil
  | i :: is => gCons (gName i) (gNames is)
theorem sim_names : ∀ {is : List Nat} {ds : List D} {vs : List V} {σ : St} {ρ ρ' : Env} {F B : Addr → Prop} {T : Tm} {Q : St → Hp → Prop}, (∀ x ∈ T, ∀ i ∈ is, x.2 ≠ .sl i) → (∀ i ∈ is, i ∉ P) → Sat F B g H σ ρ T → Reps F g H ds vs → unpS is ds ρ = some ρ' → (∀ σ', (∀ j ∈ P, σ'[j]? = σ[j]?) → Sat F B g H σ' ρ' T → Q σ' H) → gNames is vs σ H Q
  | [], [], vs, σ, ρ, ρ', F, B, T, Q, _, _, S, r, e, h => by
    cases e
    exact ⟨r, h σ (fun _ _ => rfl) S⟩
  | i :: is, d :: ds, vs, σ, ρ, ρ', F, B, T, Q, nt, np, S, ⟨v, vs', e1, r1, r2⟩, e, h => by
    unfold unpS at e
    split at e
    · rename_i hl
      subst e1
      refine ⟨v, vs', rfl, ?_⟩
      have S1 : Sat F B g H (σ.set i (some v)) (ρ.set i (some d)) T := (S.push r1).put (fun j z => by rw [z] at r1; exact r1.elim) hl (.inr fun x hx => nt x hx i (List.mem_cons_self ..))
      exact sim_names (fun x hx j hj => nt x hx j (List.mem_cons_of_mem _ hj)) (fun j hj => np j (List.mem_cons_of_mem _ hj)) S1 r2 e fun σ' q S' => h σ' (fun j hj => (q j hj).trans (setP (np i (List.mem_cons_self ..)) j hj)) S'
    · cases e
  | [], _ :: _, _, _, _, _, _, _, _, _, _, _, _, _, e, _ => by cases e
  | _ :: _, [], _, _, _, _, _, _, _, _, _, _, _, _, e, _ => by cases e
theorem vs_unp {es : List Expr} {is : List Nat} {k : Nat} {tp : Pos} (hc : X.calm = true) (he : VE X g W e m) (hg : PGs X es (gNames is)) (hp : ∀ i ∈ is, i ∉ P) (hn : (assignEach es X.env).length = is.length := by rfl) (hst : (assignEach es X.env).findIdx? (·.1) = none := by rfl)
    (hs : swapsWithSole [.Tuple es k tp] e pos.line X.env = pure false := by rfl) (hw : swappedStores [.Tuple es k tp] e X.env = pure none := by rfl) (h1 : (assignEach [.Tuple es k tp] X.env).map (·.2) = [assign (.Tuple es k tp) X.env] := by rfl) :
    VS X g W P (.Assign [.Tuple es k tp] e pos) (mUnp is m) := .mk (ps_asg he (pg_tup hc hg hn hst) hs hw h1) fun F B H σ ρ Dn fl ρ' S e p => by
  unfold mUnp bndS at e
  split at e
  · rename_i z ρ1 e1
    rcases bnd_some e1 with ⟨d0, ρ0, e2, e3⟩ | ⟨c, fs, e2, e3⟩
    · refine selfE F B H σ ρ [] _ (.ok d0) ρ0 S e2 PX.ok fun d1 hd F1 B1 H1 v x S1 => ?_
      cases hd
      obtain ⟨b, xs, ez, F2, B2, x2, S2, a, vs, rfl, r, q, hb⟩ := S1.items (K := X.K) e3
      cases ez
      dsimp only at e
      split at e
      · rename_i hb1
        split at e
        · rename_i ρ2 e4
          cases e
          have hb1 : b = true := hb1
          subst hb1
          have len : ∀ {is : List Nat} {ds : List D} {ρ ρ' : Env}, unpS is ds ρ = some ρ' → ds.length = is.length := by
            intro is
            induction is with
            | nil => intro ds ρ ρ' e; cases ds with
              | nil => rfl
              | cons _ _ => cases e
            | cons i is ih => intro ds ρ ρ' e; cases ds with
              | nil => cases e
              | cons d ds =>
                unfold unpS at e
                split at e
                · simp [ih e]
                · cases e
          refine ⟨a, vs, rfl, q, by rw [← r.length]; exact len e4, ?_⟩
          exact sim_names (fun x hx => by cases hx) hp S2 r e4 fun σ' hq S' => p.nx rfl F2 B2 H1 σ' (x.trans x2) hq S'
        · cases e
      · cases e
    · cases e3
  · rename_i c fs ρ1 e1
    cases e
    rcases bnd_some e1 with ⟨d0, ρ0, e2, e3⟩ | ⟨c, fs, e2, e3⟩
    · refine selfE F B H σ ρ [] _ (.ok d0) ρ0 S e2 PX.ok fun d1 hd F1 B1 H1 v x S1 => ?_
      cases hd
      obtain ⟨b, xs, ez, _⟩ := S1.items (K := X.K) e3
      cases ez
    · cases e3
      exact selfE F B H σ ρ [] _ (.exc c fs) _ S e2 p.px fun d hd => by cases hd
  · cases e
end
end SV
end
section
set_option Elab.async false
set_option linter.all false
set_option maxRecDepth 100000
set_option maxHeartbeats 4000000
namespace SV
open PySem PySem.Spec L2
/-! ### what is walked -/
/-- the iterator J gives the things ds, one after another -/
def JOk (g : Cn) (F0 B0 : Addr → Prop) (H0 : Hp) (J : It) (ds : List D) : Prop := ∀ (F B : Addr → Prop) (H : Hp) (σ : St) (ρ : Env) (T : Tm), Ext F0 B0 H0 F B H → Sat F B g H σ ρ T →
  (∀ i d, ds[i]? = some d → J.go i H ∧ ∀ x H', J.yld i H x H' → ∃ F' B', Ext F B H F' B' H' ∧ Sat F' B' g H' σ ρ T ∧ Rep F' g H' d x) ∧ J.stop ds.length H
section
variable (g : Cn) (W : WX)
def SimI (t : TI) (m : M (List D)) : Prop := ∀ (F B : Addr → Prop) (H : Hp) (σ : St) (ρ : Env) (T : Tm) (R : It → Hp → Prop) (r : Res (List D)) (ρ' : Env), Sat F B g H σ ρ T → m ρ = some (r, ρ') → PX g W σ T F B H ρ' r →
  (∀ ds, r = .ok ds → ∀ F' B' H' J, Ext F B H F' B' H' → Sat F' B' g H' σ ρ' T → JOk g F' B' H' J ds → R J H') → t σ H R
def TIof (m : M (List D)) : TI := fun σ H R => ∃ (F B : Addr → Prop) (ρ : Env) (T : Tm) (r : Res (List D)) (ρ' : Env), Sat F B g H σ ρ T ∧ m ρ = some (r, ρ') ∧ PX g W σ T F B H ρ' r ∧
  ∀ ds, r = .ok ds → ∀ F' B' H' J, Ext F B H F' B' H' → Sat F' B' g H' σ ρ' T → JOk g F' B' H' J ds → R J H'
/-- a target -/
def SimG (P : List Nat) (t : TG) (f : D → Env → Option Env) : Prop := ∀ (F B : Addr → Prop) (H : Hp) (σ : St) (ρ ρ' : Env) (T : Tm) (v : V) (d : D) (Q : St → Hp → Prop), (∀ x ∈ T, ∀ i, x.2 ≠ .sl i) → Sat F B g H σ ρ T → Rep F g H d v → f d ρ = some ρ' →
  (∀ σ', (σ'.length = σ.length ∧ ∀ j ∈ P, σ'[j]? = σ[j]?) → Sat F B g H σ' ρ' T → Q σ' H) → t v σ H Q
end
def VI (X : Cx) (g : Cn) (W : WX) (tg iter : Expr) (m : M (List D)) : Prop := PI X tg iter (TIof g W m)
theorem selfI {g : Cn} {W : WX} {m : M (List D)} : SimI g W (TIof g W m) m := fun F B H σ ρ T R r ρ' S e px h => ⟨F, B, ρ, T, r, ρ', S, e, px, h⟩
section
variable {X : Cx} {g : Cn} {W : WX} {P : List Nat} {F B F' B' : Addr → Prop} {H H' : Hp} {σ σ' : St} {ρ ρ' : Env} {T : Tm} {v : V} {d : D} {Dn : Ends} {fl : Fl}
theorem VI.mk {tg iter : Expr} {t : TI} {m : M (List D)} (h : PI X tg iter t) (s : SimI g W t m) : VI X g W tg iter m := ⟨fun pins st σ H R I ⟨F, B, ρ, T, r, ρ', S, e1, px, k⟩ => h.run pins st σ H R I (s F B H σ ρ T R r ρ' S e1 px k)⟩
/-- one of two kinds of iterables -/
theorem PI.or {tg iter : Expr} {t u : TI} (h : PI X tg iter t) (h' : PI X tg iter u) : PI X tg iter (fun σ H R => t σ H R ∨ u σ H R) := ⟨fun pins st σ H R I q => q.elim (h.run pins st σ H R I) (h'.run pins st σ H R I)⟩
/-- the things of a list or a tuple, all frozen: a slot's list is frozen from here on -/
def fSeq : D → M (Bool × List D) := fun d => bnd (fFrz d) fun x => match x with
  | .tup xs => ret (true, xs)
  | .lst xs => ret (false, xs)
  | .fz xs => ret (false, xs)
  | _ => stuck
/-- a list that is walked -/
def LAt (F : Addr → Prop) (g : Cn) (H : Hp) (a : Addr) (vs : List V) : Prop := (F a ∧ (H a = some (.lst vs) ∨ ∃ o, H a = some (.frz o (.lst vs)))) ∨ KL g.K a vs
theorem LAt.sql {F B F2 B2 : Addr → Prop} {g : Cn} {H H2 : Hp} {a : Addr} {vs : List V} (h : LAt F g H a vs) (fb : ∀ a, F a → B a) (x : Ext F B H F2 B2 H2) : SqL g.K H2 a vs := by
  rcases h with ⟨fa, h⟩ | h
  · have e : H2 a = H a := x.h a (fb a fa)
    rcases h with h | ⟨o, h⟩
    · exact .inl (.inl (by rw [e]; exact h))
    · exact .inl (.inr ⟨o, by rw [e]; exact h⟩)
  · exact .inr h
theorem Sat.fSeq {K : PySem.W.Frag} {z : Res (Bool × List D) × Env} (S : Sat F B g H σ ρ ((v, d) :: T)) (e : fSeq d ρ = some z) : ∃ b xs, z.1 = .ok (b, xs) ∧ ∃ F' B', Ext F B H F' B' H ∧ Sat F' B' g H σ z.2 T ∧ ∃ a vs, v = .ref a ∧ Reps F' g H xs vs ∧
    (if b = true then F' a ∧ H a = some (.tup vs) else LAt F' g H a vs) := by
  rcases bnd_some e with ⟨x, ρ1, e1, e2⟩ | ⟨c, fs, e1, e2⟩
  · obtain ⟨d', hd', F1, B1, x1, S1, r1⟩ := S.fFrz e1
    cases hd'
    split at e2
    · cases e2
      obtain ⟨a, vs, q1, q2, q3, q4⟩ := r1
      exact ⟨true, _, rfl, F1, B1, x1, S1.pop, a, vs, q1, q4, q2, q3⟩
    · cases e2
      obtain ⟨a, vs, q1, q2, q3, q4⟩ := r1
      exact ⟨false, _, rfl, F1, B1, x1, S1.pop, a, vs, q1, q4, .inl ⟨q2, .inl q3⟩⟩
    · cases e2
      obtain ⟨a, vs, q1, q3, q4⟩ := r1
      exact ⟨false, _, rfl, F1, B1, x1, S1.pop, a, vs, q1, q4, q3.imp (fun ⟨f, o, h⟩ => ⟨f, .inr ⟨o, h⟩⟩) id⟩
    · cases e2
  · obtain ⟨d', h⟩ := fFrz_ok e1
    cases h
def mIter (a : M D) : M (List D) := bnd a fun d => bnd (fSeq d) fun z => ret z.2
theorem jl {a : Addr} {vs : List V} {ds : List D} (r : Reps F g H ds vs) (h : LAt F g H a vs) (fb : ∀ a, F a → B a) : JOk g F B H (Itl g.K a) ds := fun F2 B2 H2 σ ρ T x S => by
  have hs : SqL g.K H2 a vs := h.sql fb x
  have r2 := Reps.mono (x.ag fb) _ _ r
  refine ⟨fun i d hd => ?_, ⟨vs, hs, by rw [r.length]; exact Nat.le_refl _⟩⟩
  obtain ⟨v, hv, rv⟩ := r2.get hd
  refine ⟨⟨vs, v, hs, hv⟩, fun y H' ⟨e1, hy⟩ => ?_⟩
  subst e1
  have ey := hy vs hs
  rw [hv] at ey
  cases ey
  exact ⟨F2, B2, Ext.refl, S, rv⟩
theorem jt {K : PySem.W.Frag} {a : Addr} {vs : List V} {ds : List D} (r : Reps F g H ds vs) (fa : F a) (h : H a = some (.tup vs)) (fb : ∀ a, F a → B a) : JOk g F B H (Itt K a) ds := fun F2 B2 H2 σ ρ T x S => by
  have e : H2 a = H a := x.h a (fb a fa)
  have hs : SqT K H2 a vs := .inl (.inl (by rw [e]; exact h))
  have r2 := Reps.mono (x.ag fb) _ _ r
  refine ⟨fun i d hd => ?_, ⟨vs, hs, by rw [r.length]; exact Nat.le_refl _⟩⟩
  obtain ⟨v, hv, rv⟩ := r2.get hd
  refine ⟨⟨vs, v, hs, hv⟩, fun y H' ⟨e1, hy⟩ => ?_⟩
  subst e1
  have ey := hy vs hs
  rw [hv] at ey
  cases ey
  exact ⟨F2, B2, Ext.refl, S, rv⟩
theorem sim_iter {K : PySem.W.Frag} {t : TE} {a : M D} (hK : g.K = K) (ha : SimE g W t a) : SimI g W (fun σ H R => iList K t σ H R ∨ iTup K t σ H R) (mIter a) := fun F B H σ ρ T R r ρ' S e px h => by
  subst hK
  unfold mIter at e
  rcases bnd_some e with ⟨d, ρ1, e1, e2⟩ | ⟨c, fs, e1, e2⟩
  · rcases bnd_some e2 with ⟨z, ρ2, e3, e4⟩ | ⟨c, fs, e3, e4⟩
    · cases e4
      obtain ⟨b, xs⟩ := z
      cases b with
      | true =>
        refine .inr (ha F B H σ ρ T _ (.ok d) ρ1 S e1 PX.ok fun d' hd F1 B1 H1 v x1 S1 => ?_)
        cases hd
        obtain ⟨b, ys, ez, F2, B2, x2, S2, a, vs, rfl, r2, q⟩ := S1.fSeq (K := g.K) e3
        cases ez
        obtain ⟨fa, q⟩ := q
        exact ⟨a, rfl, ⟨vs, .inl (.inl q)⟩, h _ rfl F2 B2 H1 _ (x1.trans x2) S2 (jt r2 fa q S2.fb)⟩
      | false =>
        refine .inl (ha F B H σ ρ T _ (.ok d) ρ1 S e1 PX.ok fun d' hd F1 B1 H1 v x1 S1 => ?_)
        cases hd
        obtain ⟨b, ys, ez, F2, B2, x2, S2, a, vs, rfl, r2, q⟩ := S1.fSeq (K := g.K) e3
        cases ez
        exact ⟨a, rfl, ⟨vs, LAt.sql q S2.fb Ext.refl⟩, h _ rfl F2 B2 H1 _ (x1.trans x2) S2 (jl r2 q S2.fb)⟩
    · refine .inl (ha F B H σ ρ T _ (.ok d) ρ1 S e1 PX.ok fun d' hd F1 B1 H1 v x1 S1 => ?_)
      cases hd
      obtain ⟨b, ys, ez, _⟩ := S1.fSeq (K := g.K) e3
      cases ez
  · cases r with
    | ok d => cases e2
    | exc c' fs' =>
      cases e2
      exact .inl (ha F B H σ ρ T _ (.exc c fs) _ S e1 px.cast fun d' hd => by cases hd)
theorem vi_seq {tg e : Expr} {m : M D} (hK : g.K = X.K) (he : VE X g W e m) : VI X g W tg e (mIter m) := .mk (PI.or (pi_list he) (pi_tup he)) (sim_iter hK selfE)
/-! ### range -/
def upTo (lo : Int) (n : Nat) : List D := (List.range n).map fun (i : Nat) => D.int (lo + i)
theorem upTo_length (lo : Int) (n : Nat) : (upTo lo n).length = n := by simp [upTo]
theorem upTo_get {lo : Int} {n i : Nat} {d : D} (h : (upTo lo n)[i]? = some d) : i < n ∧ d = .int (lo + i) := by
  have hl : i < n := by
    have := (List.getElem?_eq_some_iff.mp h).1
    simpa [upTo] using this
  refine ⟨hl, ?_⟩
  simp [upTo, hl] at h
  exact h.symm
theorem jr {lo : Int} {n : Nat} : JOk g F B H (Itr lo n) (upTo lo n) := fun F2 B2 H2 σ ρ T x S => by
  refine ⟨fun i d hd => ?_, by rw [upTo_length]; exact Nat.le_refl _⟩
  obtain ⟨hl, rfl⟩ := upTo_get hd
  exact ⟨hl, fun y H' ⟨e1, e2⟩ => by subst e1; exact ⟨F2, B2, Ext.refl, S, e2⟩⟩
def okR (j : Int) : Bool := decide (-(2 ^ 62) ≤ j) && decide (j < 2 ^ 62)
theorem okR_ok {j : Int} (h : okR j = true) : -(2 ^ 62) ≤ j ∧ j < 2 ^ 62 := by simpa [okR] using h
def fRng1 : List D → M (List D)
  | [.int j] => if okR j = true then ret (upTo 0 j.toNat) else stuck
  | _ => stuck
def fRng2 : List D → M (List D)
  | [.int i, .int j] => if okR i = true ∧ okR j = true then ret (upTo i (j - i).toNat) else stuck
  | _ => stuck
theorem sim_rng1 {t : TA} {a : M (List D)} (ha : SimA g W t a) : SimI g W (iRng1 t) (bnd a fRng1) := fun F B H σ ρ T R r ρ' S e px h => by
  refine ha.bind S e px fun ds ρ1 F1 B1 H1 vs e1 x1 l S1 => ?_
  unfold fRng1 at e1
  split at e1
  · rename_i j
    split at e1
    · rename_i hj
      cases e1
      obtain ⟨u, rfl⟩ : ∃ u, vs = [u] := List.length_eq_one_iff.mp l
      obtain ⟨_, ru⟩ := S1.top
      cases rt_int ru
      obtain ⟨q1, q2⟩ := okR_ok hj
      exact ⟨j, rfl, q1, q2, h _ rfl F1 B1 H1 _ x1 S1.pop jr⟩
    · cases e1
  · cases e1
theorem sim_rng2 {t : TA} {a : M (List D)} (ha : SimA g W t a) : SimI g W (iRng2 t) (bnd a fRng2) := fun F B H σ ρ T R r ρ' S e px h => by
  refine ha.bind S e px fun ds ρ1 F1 B1 H1 vs e1 x1 l S1 => ?_
  unfold fRng2 at e1
  split at e1
  · rename_i i j
    split at e1
    · rename_i hj
      cases e1
      obtain ⟨u, w, rfl⟩ : ∃ u w, vs = [u, w] := by
        match vs, l with
        | [x, y], _ => exact ⟨x, y, rfl⟩
      obtain ⟨_, ru⟩ := S1.top
      obtain ⟨_, rw'⟩ := S1.pop.top
      cases rt_int ru
      cases rt_int rw'
      obtain ⟨q1, q2⟩ := okR_ok hj.1
      obtain ⟨q3, q4⟩ := okR_ok hj.2
      exact ⟨i, j, rfl, ⟨q1, q2, q3, q4⟩, h _ rfl F1 B1 H1 _ x1 S1.pop.pop jr⟩
    · cases e1
  · cases e1
theorem vi_rng1 {tg a : Expr} {m : M (List D)} {p pos : Pos} (hg : Gl X "range") (hm : X.mg "range" = none) (ha : VA X g W [a] m) (hs : starEach [a] X.env = [(false, eval a X.env)] := by rfl) : VI X g W tg (.Call (.Name "range" p) [a] [] pos) (bnd m fRng1) := .mk (pi_range1 hg hm ha hs) (sim_rng1 selfA)
theorem vi_rng2 {tg a b : Expr} {m : M (List D)} {p pos : Pos} (hg : Gl X "range") (hm : X.mg "range" = none) (ha : VA X g W [a, b] m) (hs : starEach [a, b] X.env = [(false, eval a X.env), (false, eval b X.env)] := by rfl) (hs2 : starEach [b] X.env = [(false, eval b X.env)] := by rfl) : VI X g W tg (.Call (.Name "range" p) [a, b] [] pos) (bnd m fRng2) := .mk (pi_range2 hg hm ha hs hs2) (sim_rng2 selfA)
/-! ### targets -/
def tgN (i : Nat) : D → Env → Option Env := fun d ρ => if i < ρ.length then some (ρ.set i (some d)) else none
def tgT (fs : List (D → Env → Option Env)) : D → Env → Option Env := fun d ρ => match d with
  | .tup xs => tgs fs xs ρ
  | _ => none
where tgs : List (D → Env → Option Env) → List D → Env → Option Env
  | [], [], ρ => some ρ
  | f :: fs, d :: ds, ρ => (match f d ρ with
    | some ρ1 => tgs fs ds ρ1
    | none => none)
  | _, _, _ => none
theorem sim_tgN {i : Nat} (hi : i ∉ P) : SimG g P (gName i) (tgN i) := fun F B H σ ρ ρ' T v d Q nt S r e h => by
  unfold tgN at e
  split at e
  · rename_i hl
    cases e
    exact h _ ⟨List.length_set .., setP hi⟩ ((S.push r).put (fun j z => by rw [z] at r; exact r.elim) hl (.inr fun x hx => nt x hx i))
  · cases e
def SimGs (g : Cn) (P : List Nat) (t : TGs) (fs : List (D → Env → Option Env)) : Prop := ∀ (F B : Addr → Prop) (H : Hp) (σ : St) (ρ ρ' : Env) (T : Tm) (vs : List V) (ds : List D) (Q : St → Hp → Prop), (∀ x ∈ T, ∀ i, x.2 ≠ .sl i) → Sat F B g H σ ρ T → Reps F g H ds vs → tgT.tgs fs ds ρ = some ρ' →
  (∀ σ', (σ'.length = σ.length ∧ ∀ j ∈ P, σ'[j]? = σ[j]?) → Sat F B g H σ' ρ' T → Q σ' H) → t vs σ H Q
theorem sim_gnil : SimGs g P gNil [] := fun F B H σ ρ ρ' T vs ds Q nt S r e h => by
  cases ds with
  | nil => cases e; exact ⟨r, h σ ⟨rfl, fun _ _ => rfl⟩ S⟩
  | cons _ _ => cases e
theorem sim_gcons {t : TG} {f : D → Env → Option Env} {u : TGs} {fs : List (D → Env → Option Env)} (ht : SimG g P t f) (hu : SimGs g P u fs) : SimGs g P (gCons t u) (f :: fs) := fun F B H σ ρ ρ' T vs ds Q nt S r e h => by
  cases ds with
  | nil => cases e
  | cons d ds =>
    obtain ⟨v, vs', rfl, r1, r2⟩ := r
    have e : (match f d ρ with
      | some ρ1 => tgT.tgs fs ds ρ1
      | none => none) = some ρ' := e
    split at e
    · rename_i ρ1 e1
      refine ⟨v, vs', rfl, ?_⟩
      exact ht F B H σ ρ ρ1 T v d _ nt S r1 e1 fun σ1 q1 S1 => hu F B H σ1 ρ1 ρ' T vs' ds Q nt S1 r2 e fun σ2 q2 S2 => h σ2 ⟨q2.1.trans q1.1, fun j hj => (q2.2 j hj).trans (q1.2 j hj)⟩ S2
    · cases e
theorem tgs_len : ∀ {fs : List (D → Env → Option Env)} {ds : List D} {ρ ρ' : Env}, tgT.tgs fs ds ρ = some ρ' → ds.length = fs.length
  | [], [], _, _, _ => rfl
  | [], _ :: _, _, _, e => by cases e
  | _ :: _, [], _, _, e => by cases e
  | f :: fs, d :: ds, ρ, ρ', e => by
    have e : (match f d ρ with
      | some ρ1 => tgT.tgs fs ds ρ1
      | none => none) = some ρ' := e
    split at e
    · simp [tgs_len e]
    · cases e
theorem sim_tgT {K : PySem.W.Frag} {t : TGs} {fs : List (D → Env → Option Env)} {n : Nat} (ht : SimGs g P t fs) (hn : fs.length = n) : SimG g P (gTup K n t) (tgT fs) := fun F B H σ ρ ρ' T v d Q nt S r e h => by
  unfold tgT at e
  split at e
  · obtain ⟨a, vs, rfl, fa, q, r2⟩ := r
    exact ⟨a, vs, rfl, .inl (.inl q), by rw [← r2.length, tgs_len e, hn], ht F B H σ ρ ρ' T vs _ Q nt S r2 e h⟩
  · cases e
/-- a target of a for, with what it does -/
def TGof (g : Cn) (P : List Nat) (f : D → Env → Option Env) : TG := fun v σ H Q => ∃ (F B : Addr → Prop) (ρ ρ' : Env) (T : Tm) (d : D), (∀ x ∈ T, ∀ i, x.2 ≠ .sl i) ∧ Sat F B g H σ ρ T ∧ Rep F g H d v ∧ f d ρ = some ρ' ∧ ∀ σ', (σ'.length = σ.length ∧ ∀ j ∈ P, σ'[j]? = σ[j]?) → Sat F B g H σ' ρ' T → Q σ' H
def TGsof (g : Cn) (P : List Nat) (fs : List (D → Env → Option Env)) : TGs := fun vs σ H Q => ∃ (F B : Addr → Prop) (ρ ρ' : Env) (T : Tm) (ds : List D), (∀ x ∈ T, ∀ i, x.2 ≠ .sl i) ∧ Sat F B g H σ ρ T ∧ Reps F g H ds vs ∧ tgT.tgs fs ds ρ = some ρ' ∧ ∀ σ', (σ'.length = σ.length ∧ ∀ j ∈ P, σ'[j]? = σ[j]?) → Sat F B g H σ' ρ' T → Q σ' H
theorem selfG {f : D → Env → Option Env} : SimG g P (TGof g P f) f := fun F B H σ ρ ρ' T v d Q nt S r e h => ⟨F, B, ρ, ρ', T, d, nt, S, r, e, h⟩
theorem selfGs {fs : List (D → Env → Option Env)} : SimGs g P (TGsof g P fs) fs := fun F B H σ ρ ρ' T vs ds Q nt S r e h => ⟨F, B, ρ, ρ', T, ds, nt, S, r, e, h⟩
def VG (X : Cx) (g : Cn) (P : List Nat) (tg : Expr) (f : D → Env → Option Env) : Prop := PG X tg (TGof g P f)
def VGs (X : Cx) (g : Cn) (P : List Nat) (tgs : List Expr) (fs : List (D → Env → Option Env)) : Prop := PGs X tgs (TGsof g P fs)
theorem VG.mk {tg : Expr} {t : TG} {f : D → Env → Option Env} (h : PG X tg t) (s : SimG g P t f) : VG X g P tg f := ⟨fun pins st σ H v u Q I r ⟨F, B, ρ, ρ', T, d, nt, S, rp, e, k⟩ => h.run pins st σ H v u Q I r (s F B H σ ρ ρ' T v d Q nt S rp e k)⟩
theorem VGs.mk {tg : List Expr} {t : TGs} {f : List (D → Env → Option Env)} (h : PGs X tg t) (s : SimGs g P t f) : VGs X g P tg f := ⟨fun pins st σ H v u Q I r ⟨F, B, ρ, ρ', T, d, nt, S, rp, e, k⟩ => h.run pins st σ H v u Q I r (s F B H σ ρ ρ' T v d Q nt S rp e k)⟩
theorem vg_nm {i : Nat} {x : Str} {pos : Pos} (hN : X.N.Nodup) (hi : X.N[i]? = some x) (hx : Loc X.env.scope x) (hp : i ∉ P) (hf : X.fn x = true ∨ X.env.scope.names.lookup x = some .local := by first | exact .inl rfl | exact .inr rfl | assumption) : VG X g P (.Name x pos) (tgN i) := .mk (pg_name hN hi hx hf) (sim_tgN hp)
theorem vgs_nil : VGs X g P [] [] := .mk pgs_nil sim_gnil
theorem vgs_cons {e : Expr} {es : List Expr} {f : D → Env → Option Env} {fs : List (D → Env → Option Env)} (h : VG X g P e f) (h2 : VGs X g P es fs) (hs : (assignEach (e :: es) X.env).map (·.2) = assign e X.env :: (assignEach es X.env).map (·.2) := by rfl) : VGs X g P (e :: es) (f :: fs) := .mk (pgs_cons h h2 hs) (sim_gcons selfG selfGs)
theorem vg_tp {es : List Expr} {fs : List (D → Env → Option Env)} {k : Nat} {pos : Pos} (hc : X.calm = true) (h : VGs X g P es fs) (hn : (assignEach es X.env).length = fs.length := by rfl) (hst : (assignEach es X.env).findIdx? (·.1) = none := by rfl) : VG X g P (.Tuple es k pos) (tgT fs) := .mk (pg_tup hc h hn hst) (sim_tgT selfGs rfl)
/-! ### for -/
def forL (f : D → Env → Option Env) (body : SM) : List D → SM
  | [], ρ => some (.nx, ρ)
  | d :: ds, ρ => (match f d ρ with
    | some ρ1 => (match body ρ1 with
      | some (.nx, ρ2) => forL f body ds ρ2
      | some (.ct, ρ2) => forL f body ds ρ2
      | some (.brk, ρ2) => some (.nx, ρ2)
      | some (.ret d, ρ2) => some (.ret d, ρ2)
      | some (.exc c fs, ρ2) => some (.exc c fs, ρ2)
      | none => none)
    | none => none)
def mFor (m : M (List D)) (f : D → Env → Option Env) (body : SM) : SM := bndS m fun ds => forL f body ds
theorem sim_for {wi : TI} {gt : TG} {tb : TS} {m : M (List D)} {f : D → Env → Option Env} {body : SM} (hi : SimI g W wi m) (hg : SimG g P gt f) (hb : SimS g W P tb body) : SimS g W P (tFor wi gt tb) (mFor m f body) := fun F B H σ ρ Dn fl ρ' S e p => by
  unfold mFor bndS at e
  split at e
  · rename_i ds ρ1 e1
    refine hi F B H σ ρ [] _ (.ok ds) ρ1 S e1 PX.ok fun ds' hd F1 B1 H1 J x1 S1 jo => ?_
    cases hd
    refine ⟨fun i n σ2 H2 => ∃ F2 B2 ρ2, Ext F1 B1 H1 F2 B2 H2 ∧ (∀ j ∈ P, σ2[j]? = σ[j]?) ∧ Sat F2 B2 g H2 σ2 ρ2 [] ∧ i ≤ ds.length ∧ n = ds.length - i ∧ forL f body (ds.drop i) ρ2 = some (fl, ρ'), ⟨ds.length, F1, B1, ρ1, Ext.refl, fun _ _ => rfl, S1, Nat.zero_le _, rfl, e⟩, ?_⟩
    rintro i n σ2 H2 ⟨F2, B2, ρ2, x2, q2, S2, hi, rfl, e2⟩
    obtain ⟨j1, j2⟩ := jo F2 B2 H2 σ2 ρ2 [] x2 S2
    by_cases hlt : i < ds.length
    · obtain ⟨hgo, hy⟩ := j1 i ds[i] (by simp [hlt])
      refine .inr ⟨hgo, _, fun σ' H' h => ⟨ds.length - (i + 1), by omega, h⟩, fun x H' yx => ?_⟩
      obtain ⟨F3, B3, x3, S3, r3⟩ := hy x H' yx
      rw [List.drop_eq_getElem_cons hlt] at e2
      unfold forL at e2
      split at e2
      · rename_i ρ3 e3
        refine hg F3 B3 H' σ2 ρ2 ρ3 [] x ds[i] _ (fun x hx => by cases hx) S3 r3 e3 fun σ3 q3 S4 => ?_
        have q23 : ∀ j ∈ P, σ3[j]? = σ[j]? := fun j hj => (q3.2 j hj).trans (q2 j hj)
        have p3 := p.shift ((x1.trans x2).trans x3) q23
        split at e2
        · rename_i ρ4 e4
          exact hb F3 B3 H' σ3 ρ3 _ .nx ρ4 S4 e4 ⟨fun _ F5 B5 H5 σ5 x5 q5 S5 => ⟨F5, B5, ρ4, (x2.trans x3).trans x5, fun j hj => (q5 j hj).trans (q23 j hj), S5, hlt, rfl, e2⟩, fun h => (by cases h), fun h => (by cases h), fun d h => (by cases h), fun c fs h => (by cases h)⟩
        · rename_i ρ4 e4
          exact hb F3 B3 H' σ3 ρ3 _ .ct ρ4 S4 e4 ⟨fun h => (by cases h), fun h => (by cases h), fun _ F5 B5 H5 σ5 x5 q5 S5 => ⟨F5, B5, ρ4, (x2.trans x3).trans x5, fun j hj => (q5 j hj).trans (q23 j hj), S5, hlt, rfl, e2⟩, fun d h => (by cases h), fun c fs h => (by cases h)⟩
        · rename_i ρ4 e4
          cases e2
          exact hb F3 B3 H' σ3 ρ3 _ .brk _ S4 e4 ⟨fun h => (by cases h), fun _ => p3.nx rfl, fun h => (by cases h), fun d h => (by cases h), fun c fs h => (by cases h)⟩
        · rename_i d ρ4 e4
          cases e2
          exact hb F3 B3 H' σ3 ρ3 _ (.ret d) _ S4 e4 ⟨fun h => (by cases h), fun h => (by cases h), fun h => (by cases h), p3.rt, fun c fs h => (by cases h)⟩
        · rename_i c fs ρ4 e4
          cases e2
          exact hb F3 B3 H' σ3 ρ3 _ (.exc c fs) _ S4 e4 ⟨fun h => (by cases h), fun h => (by cases h), fun h => (by cases h), fun d h => (by cases h), p3.xc⟩
        · cases e2
      · cases e2
    · have ei : i = ds.length := by omega
      subst ei
      rw [List.drop_length] at e2
      cases e2
      exact .inl ⟨j2, p.nx rfl F2 B2 H2 σ2 (x1.trans x2) q2 S2⟩
  · rename_i c fs ρ1 e1
    cases e
    exact hi F B H σ ρ [] _ (.exc c fs) _ S e1 p.px fun d hd => by cases hd
  · cases e
theorem vs_for {tg iter : Expr} {body : List Stmt} {m : M (List D)} {f : D → Env → Option Env} {mb : SM} {pos : Pos} (hp : PassesOwn (model X.prog X.w) X.A X.env X.xe) (hc : X.calm = true) (hi : VI X g W tg iter m) (hg : VG X g P tg f) (hb : VSs X g W P body mb)
    (hs : ∀ x, foldedSetIterable iter X.env x = pure x := by intro _; rfl) : VS X g W P (.For tg iter body [] pos) (mFor m f mb) := .mk (ps_for hp hc hi hg hb hs) (sim_for selfI selfG selfS)
/-! ### while -/
def whL (c : M Bool) (body : SM) : Nat → SM
  | 0 => stuckS
  | n + 1 => bndS c fun k => if k = true then (fun ρ => match body ρ with
      | some (.nx, ρ2) => whL c body n ρ2
      | some (.ct, ρ2) => whL c body n ρ2
      | some (.brk, ρ2) => some (.nx, ρ2)
      | some (.ret d, ρ2) => some (.ret d, ρ2)
      | some (.exc c fs, ρ2) => some (.exc c fs, ρ2)
      | none => none) else endS .nx
theorem sim_while {tc : TT} {tb : TS} {c : M Bool} {body : SM} (n : Nat) (hc : SimT g W tc c) (hb : SimS g W P tb body) : SimS g W P (tWhile tc tb) (whL c body n) := fun F B H σ ρ Dn fl ρ' S e p => by
  refine ⟨fun k σ2 H2 => ∃ F2 B2 ρ2, Ext F B H F2 B2 H2 ∧ (∀ j ∈ P, σ2[j]? = σ[j]?) ∧ Sat F2 B2 g H2 σ2 ρ2 [] ∧ whL c body k ρ2 = some (fl, ρ'), ⟨n, F, B, ρ, Ext.refl, fun _ _ => rfl, S, e⟩, ?_⟩
  rintro k σ2 H2 ⟨F2, B2, ρ2, x2, q2, S2, e2⟩
  have p2 := p.shift x2 q2
  cases k with
  | zero => cases e2
  | succ k =>
    unfold whL at e2
    refine hc.bindS S2 e2 p2 fun b ρ3 F3 B3 H3 e3 x3 S3 => ?_
    have p3 := p2.shiftE x3
    cases b with
    | false =>
      cases e3
      rw [if_neg Bool.false_ne_true]
      exact p3.nx rfl F3 B3 H3 σ2 Ext.refl (fun _ _ => rfl) S3
    | true =>
      rw [if_pos rfl] at e3 ⊢
      refine ⟨_, fun σ' H' h => ⟨k, Nat.lt_succ_self k, h⟩, ?_⟩
      split at e3
      · rename_i ρ4 e4
        exact hb F3 B3 H3 σ2 ρ3 _ .nx ρ4 S3 e4 ⟨fun _ F5 B5 H5 σ5 x5 q5 S5 => ⟨F5, B5, ρ4, (x2.trans x3).trans x5, fun j hj => (q5 j hj).trans (q2 j hj), S5, e3⟩, fun h => (by cases h), fun h => (by cases h), fun d h => (by cases h), fun c fs h => (by cases h)⟩
      · rename_i ρ4 e4
        exact hb F3 B3 H3 σ2 ρ3 _ .ct ρ4 S3 e4 ⟨fun h => (by cases h), fun h => (by cases h), fun _ F5 B5 H5 σ5 x5 q5 S5 => ⟨F5, B5, ρ4, (x2.trans x3).trans x5, fun j hj => (q5 j hj).trans (q2 j hj), S5, e3⟩, fun d h => (by cases h), fun c fs h => (by cases h)⟩
      · rename_i ρ4 e4
        cases e3
        exact hb F3 B3 H3 σ2 ρ3 _ .brk _ S3 e4 ⟨fun h => (by cases h), fun _ => p3.nx rfl, fun h => (by cases h), fun d h => (by cases h), fun c fs h => (by cases h)⟩
      · rename_i d ρ4 e4
        cases e3
        exact hb F3 B3 H3 σ2 ρ3 _ (.ret d) _ S3 e4 ⟨fun h => (by cases h), fun h => (by cases h), fun h => (by cases h), p3.rt, fun c fs h => (by cases h)⟩
      · rename_i c fs ρ4 e4
        cases e3
        exact hb F3 B3 H3 σ2 ρ3 _ (.exc c fs) _ S3 e4 ⟨fun h => (by cases h), fun h => (by cases h), fun h => (by cases h), fun d h => (by cases h), p3.xc⟩
      · cases e3
theorem vs_while {c : Expr} {body : List Stmt} {mc : M Bool} {mb : SM} {pos : Pos} (n : Nat) (hp : PassesOwn (model X.prog X.w) X.A X.env X.xe) (hc : VT X g W c mc) (hb : VSs X g W P body mb) : VS X g W P (.While c body [] pos) (whL mc mb n) := .mk (ps_while hp hc hb) (sim_while n selfT selfS)
end
end SV
end
section
set_option Elab.async false
set_option linter.all false
set_option maxRecDepth 100000
set_option maxHeartbeats 4000000
namespace SV
open PySem PySem.Spec L2
/-! ### defs -/
def cn (mg : Str → Option Value) (K : PySem.W.Frag) : Cn := ⟨mg, 0, .none, none, K⟩
/-- what a def reckons: from the arguments what it hands back and what the things lent to it have become -/
abbrev FM := List D → Option (Res D × List D)
/-- the values, the things at the places of io -/
def sel {α : Type} : List Bool → List α → List α
  | true :: io, v :: vs => v :: sel io vs
  | false :: io, _ :: vs => sel io vs
  | _, _ => []
def spV (g : Cn) (io : List Bool) (f : FM) : Sp := fun vs H Q E => ∃ (F B : Addr → Prop) (ds : List D) (r : Res D) (cs : List D), vs.length = io.length ∧ ds.length = io.length ∧ (∀ d ∈ ds, ∀ i, d ≠ .sl i) ∧ Sat F B g H [] [] (vs.zip ds) ∧ f ds = some (r, cs) ∧
  (∀ d, r = .ok d → ∀ F' B' H' v, Ext F B H F' B' H' → cs.length = (sel io vs).length → (∀ x ∈ cs, ∀ i, x ≠ .sl i) → Sat F' B' g H' [] [] ((v, d) :: (sel io vs).zip cs) → Q v H') ∧
  (∀ c fs, r = .exc c fs → ∀ F' B' H' cls dx, Ext F B H F' B' H' → cs.length = (sel io vs).length → (∀ x ∈ cs, ∀ i, x ≠ .sl i) → Sat F' B' g H' [] [] ((sel io vs).zip cs) → ExcAt F' g H' cls dx c fs → E cls dx H')
theorem spV_len {g : Cn} {io : List Bool} {f : FM} {vs : List V} {H : Hp} {Q : VK} {E : XK} {n : Nat} (hn : io.length = n) (h : spV g io f vs H Q E) : vs.length = n := by
  obtain ⟨F, B, ds, r, cs, h1, h2, _⟩ := h
  rw [h1, hn]
/-- the things in the slots that were lent -/
def ioGet : List Bool → Env → Option (List D)
  | [], _ => some []
  | true :: io, some d :: ρ => if d.isX = true then none else (match ioGet io ρ with
    | some cs => some (d :: cs)
    | none => none)
  | false :: io, _ :: ρ => ioGet io ρ
  | _, _ => none
def ioP : Nat → List Bool → List Nat
  | _, [] => []
  | i, true :: io => i :: ioP (i + 1) io
  | i, false :: io => ioP (i + 1) io
def startE (n : Nat) (ds : List D) : Env := ds.map some ++ List.replicate (n - ds.length) none
def funM (n : Nat) (io : List Bool) (body : SM) : FM := fun ds => match body (startE n ds) with
  | some (.ret d, ρ) => (match ioGet io ρ with
    | some cs => some (.ok d, cs)
    | none => none)
  | some (.nx, ρ) => (match ioGet io ρ with
    | some cs => some (.ok .non, cs)
    | none => none)
  | some (.exc c fs, ρ) => (match ioGet io ρ with
    | some cs => some (.exc c fs, cs)
    | none => none)
  | _ => none
section
variable {F B F' B' : Addr → Prop} {g : Cn} {H H' : Hp} {σ σ' : St} {ρ ρ' : Env} {T : Tm} {v : V} {d : D}
theorem RX.rx_of_repO {f : List Addr} (h : RepO F g H d v f) : RX F g H d v f := RX.of h
theorem RS.nones : ∀ (n : Nat), RS F g H (List.replicate n none) (List.replicate n none) []
  | 0 => rfl
  | n + 1 => RS.nones n
/-- the arguments come into the slots -/
theorem RS.start : ∀ {ds : List D} {vs : List V} {f : List Addr} (k : Nat), RepOs F g H ds vs f → RS F g H (vs.map some ++ List.replicate k none) (ds.map some ++ List.replicate k none) f
  | [], vs, f, k, h => by rw [h.1, h.2]; exact RS.nones k
  | d :: ds, _, _, k, ⟨v, vs, f1, f2, e1, e2, h1, h2⟩ => by
    subst e1 e2
    exact ⟨v, f1, f2, rfl, rfl, RX.of h1, RS.start k h2⟩
theorem Sat.enter {vs : List V} {ds : List D} (n : Nat) (l : vs.length = ds.length) (ns : ∀ d ∈ ds, ∀ i, d ≠ .sl i) (S : Sat F B g H [] [] (vs.zip ds)) : Sat F B g H (vs.map some ++ List.replicate (n - vs.length) none) (startE n ds) [] := by
  obtain ⟨⟨o1, o2, h1, h2, nd, nb⟩, fb, bt⟩ := S
  have h1 : o1 = [] := h1
  subst h1
  refine ⟨⟨o2, [], ?_, rfl, by simpa using nd, fun a ha => nb a (by simpa using ha)⟩, fb, bt⟩
  unfold startE
  rw [← l]
  exact RS.start _ (RTs.repOs l ns h2)
/-- a slot's values of what was lent -/
theorem RS.ioGet : ∀ {io : List Bool} {σ : St} {ρ : Env} {o : List Addr} {cs : List D} {vs : List V} {i : Nat}, RS F g H σ ρ o → ioGet io ρ = some cs → vs.length = io.length → (∀ j ∈ ioP i io, ∀ k, j = i + k → σ[k]? = (vs[k]?).map some) →
    cs.length = (sel io vs).length ∧ (∀ x ∈ cs, ∀ i, x ≠ .sl i) ∧ ∃ o1, o1.Sublist o ∧ RepOs F g H cs (sel io vs) o1
  | [], σ, ρ, o, cs, vs, i, h, e, l, hj => by
    cases e
    have hv : vs = [] := List.length_eq_zero_iff.mp l
    subst hv
    exact ⟨rfl, by simp, [], List.nil_sublist _, rfl, rfl⟩
  | _ :: _, _, _, _, _, [], _, _, _, l, _ => by simp at l
  | false :: io, [], [], o, cs, v :: vs, i, h, e, l, hj => by cases e
  | false :: io, [], _ :: _, o, cs, v :: vs, i, h, e, l, hj => h.elim
  | false :: io, _ :: _, [], o, cs, v :: vs, i, h, e, l, hj => h.elim
  | true :: io, [], [], o, cs, v :: vs, i, h, e, l, hj => by cases e
  | true :: io, [], _ :: _, o, cs, v :: vs, i, h, e, l, hj => h.elim
  | true :: io, _ :: _, [], o, cs, v :: vs, i, h, e, l, hj => h.elim
  | true :: io, _ :: _, none :: _, o, cs, v :: vs, i, h, e, l, hj => by cases e
  | false :: io, x :: σ, y :: ρ, o, cs, v :: vs, i, h, e, l, hj => by
    have e' : SV.ioGet io ρ = some cs := e
    have hj' : ∀ j ∈ ioP (i + 1) io, ∀ k, j = (i + 1) + k → σ[k]? = (vs[k]?).map some := fun j hj1 k ek => by
      have := hj j hj1 (k + 1) (by omega)
      simpa using this
    have l' : vs.length = io.length := by simpa using l
    cases y with
    | none =>
      obtain ⟨a1, a2, o1, a3, a4⟩ := RS.ioGet (show RS F g H σ ρ o from h) e' l' hj'
      exact ⟨a1, a2, o1, a3, a4⟩
    | some d =>
      obtain ⟨u, f1, f2, _, eo, _, h2⟩ := h
      obtain ⟨a1, a2, o1, a3, a4⟩ := RS.ioGet h2 e' l' hj'
      exact ⟨a1, a2, o1, by rw [eo]; exact a3.trans (List.sublist_append_right _ _), a4⟩
  | true :: io, x :: σ, some d :: ρ, o, cs, v :: vs, i, h, e, l, hj => by
    have e' : (if d.isX = true then none else (match SV.ioGet io ρ with
      | some cs => some (d :: cs)
      | none => none)) = some cs := e
    split at e'
    · cases e'
    · rename_i nx
      split at e'
      · rename_i cs' e2
        cases e'
        obtain ⟨u, f1, f2, ex, eo, h1, h2⟩ := h
        have h1 := h1.own (by simpa using nx)
        have hj' : ∀ j ∈ ioP (i + 1) io, ∀ k, j = (i + 1) + k → σ[k]? = (vs[k]?).map some := fun j hj1 k ek => by
          have := hj j (List.mem_cons_of_mem _ hj1) (k + 1) (by omega)
          simpa using this
        obtain ⟨a1, a2, o1, a3, a4⟩ := RS.ioGet h2 e2 (by simpa using l) hj'
        have h0 := hj i (List.mem_cons_self ..) 0 rfl
        rw [ex] at h0
        have hu : u = v := by simpa using h0
        subst hu
        refine ⟨by simp [sel, a1], fun y hy => ?_, f1 ++ o1, by rw [eo]; exact List.Sublist.append_left a3 f1, u, _, f1, o1, rfl, rfl, h1, a4⟩
        rcases List.mem_cons.mp hy with rfl | hy
        · intro j z; rw [z] at h1; exact h1.elim
        · exact a2 y hy
      · cases e'
theorem Sat.leave {io : List Bool} {cs : List D} {vs : List V} (S : Sat F B g H σ ρ T) (e : SV.ioGet io ρ = some cs) (l : vs.length = io.length) (hj : ∀ j ∈ ioP 0 io, σ[j]? = (vs[j]?).map some) (ns : ∀ x ∈ T, ∀ i, x.2 ≠ .sl i) :
    cs.length = (sel io vs).length ∧ (∀ x ∈ cs, ∀ i, x ≠ .sl i) ∧ Sat F B g H [] [] (T ++ (sel io vs).zip cs) := by
  obtain ⟨⟨o1, o2, h1, h2, nd, nb⟩, fb, bt⟩ := S
  obtain ⟨a1, a2, p1, a3, a4⟩ := h1.ioGet (i := 0) e l fun j hj1 k ek => by
    have z : j = k := by simpa using ek
    subst z
    exact hj j hj1
  have tt : ∀ {T : Tm} {o : List Addr}, (∀ x ∈ T, ∀ i, x.2 ≠ .sl i) → RTs F g H σ T o → RTs F g H [] T o := by
    intro T
    induction T with
    | nil => exact fun _ h => h
    | cons x T ih => exact fun ns ⟨f1, f2, e, h1, h2⟩ => ⟨f1, f2, e, RT.of (h1.own (ns x (List.mem_cons_self ..))), ih (fun y hy => ns y (List.mem_cons_of_mem _ hy)) h2⟩
  have hd := List.nodup_append.mp nd
  refine ⟨a1, a2, ⟨[], o2 ++ p1, rfl, (tt ns h2).append a4.rts, ?_, fun a ha => ?_⟩, fb, bt⟩
  · show (o2 ++ p1).Nodup
    refine List.nodup_append.mpr ⟨hd.2.1, hd.1.sublist a3, fun a ha b hb z => ?_⟩
    subst z
    exact hd.2.2 a (a3.mem hb) a ha rfl
  · rcases List.mem_append.mp (by simpa using ha) with h | h
    · exact nb a (List.mem_append_right _ h)
    · exact nb a (List.mem_append_left _ (a3.mem h))
/-- the promise of a def, at its body -/
theorem coreV {g : Cn} {vs : List V} {H : Hp} {Q : VK} {E : XK} {N : List Str} {n : Nat} (io : List Bool) (body : SM) (hio : io.length = n) (hN : n ≤ N.length) (h : spV g io (funM N.length io body) vs H Q E) :
    TSof g (fun cls d _ H' => E cls d H') (ioP 0 io) body { nx := fun _ H' => Q .non H', rt := Q } (L2.start N vs) H := by
  obtain ⟨F, B, ds, r, cs, l1, l2, ns, S, e, hok, hex⟩ := h
  have lv : vs.length = ds.length := l1.trans l2.symm
  have S0 := S.enter N.length lv ns
  have hs : ∀ j ∈ ioP 0 io, (L2.start N vs)[j]? = (vs[j]?).map some := by
    have key : ∀ (io : List Bool) (i : Nat), ∀ j ∈ ioP i io, j < i + io.length := by
      intro io
      induction io with
      | nil => intro i j h; cases h
      | cons b io ih =>
        intro i j h
        cases b with
        | true =>
          rcases List.mem_cons.mp h with rfl | h
          · simp
          · have := ih _ _ h; simp; omega
        | false => have := ih _ _ h; simp; omega
    intro j hj
    have hl := key io 0 j hj
    unfold L2.start
    rw [List.getElem?_append_left (by simp; omega), List.getElem?_map]
  show TSof g _ _ body _ _ _
  unfold funM at e
  split at e
  · rename_i d ρ e1
    split at e
    · rename_i cs' e2
      cases e
      refine ⟨F, B, startE N.length ds, .ret d, ρ, S0, e1, ⟨fun h => (by cases h), fun h => (by cases h), fun h => (by cases h), fun d' hd F' B' H' σ' v x q nd S' => ?_, fun c fs h => (by cases h)⟩⟩
      cases hd
      obtain ⟨a1, a2, a3⟩ := S'.leave e2 l1 (fun j hj => (q j hj).trans (hs j hj)) (fun y hy => by
        have ey : y = (v, d) := by simpa using hy
        subst ey
        exact nd)
      exact hok d rfl F' B' H' v x a1 a2 a3
    · cases e
  · rename_i ρ e1
    split at e
    · rename_i cs' e2
      cases e
      refine ⟨F, B, startE N.length ds, .nx, ρ, S0, e1, ⟨fun _ F' B' H' σ' x q S' => ?_, fun h => (by cases h), fun h => (by cases h), fun d' hd => (by cases hd), fun c fs h => (by cases h)⟩⟩
      obtain ⟨a1, a2, a3⟩ := S'.leave e2 l1 (fun j hj => (q j hj).trans (hs j hj)) (fun y hy => by cases hy)
      exact hok .non rfl F' B' H' .non x a1 a2 (a3.push (by rfl))
    · cases e
  · rename_i c fs ρ e1
    split at e
    · rename_i cs' e2
      cases e
      refine ⟨F, B, startE N.length ds, .exc c fs, ρ, S0, e1, ⟨fun h => (by cases h), fun h => (by cases h), fun h => (by cases h), fun d' hd => (by cases hd), fun c' fs' h F' B' H' σ' cls dx x q S' xa => ?_⟩⟩
      cases h
      obtain ⟨a1, a2, a3⟩ := S'.leave e2 l1 (fun j hj => (q j hj).trans (hs j hj)) (fun y hy => by cases hy)
      exact hex c fs rfl F' B' H' cls dx x a1 a2 a3 xa
    · cases e
  · cases e
/-- THE DEF: its body's judgement makes the promise -/
theorem funV {Pg : Program} {w : World} {K : PySem.W.Frag} {mg : Str → Option Value} {base : Heap} {x qual : Str} {params : Arguments} {bd : List Stmt} {scope : Scope} {dvs : List V} {kws : List (Str × V)} {f : Addr} {fd : FuncData} {N ps : List Str} {k : Nat}
    (Fn : FunD K x qual params bd scope dvs kws f fd) (Sc : FnScope N ps scope) (io : List Bool) (body : SM) (hio : io.length = ps.length) (hN : ps.length ≤ N.length)
    (hb : ∀ (cdv : Value) (A : Around) (outer : List PySem.Env) (s : Shared) (H : Hp) (E : XK), Room k (A.deeper (PyProof.Rows.envOfC qual scope s.heap.objs.size f cdv)) →
      VSs (cxOf (L2.CX Pg w) Pg w K mg base N qual scope f cdv A outer s H E) (cn mg K) (fun cls d _ H' => E cls d H') (ioP 0 io) bd body) :
    FnOk Pg w K mg base (L2.CX Pg w) (k + 1) f fd ps (spV (cn mg K) io (funM N.length io body)) := by
  refine Fn.ok Sc (fun vs H Q E h => spV_len hio h) fun cdv A outer s H vs Q E hr h => ⟨_, hb cdv A outer s H E hr, coreV io body hio hN h⟩
end
end SV
end
section
set_option Elab.async false
set_option linter.all false
set_option autoImplicit false
set_option maxRecDepth 100000
set_option maxHeartbeats 4000000
namespace SV
open PySem PySem.Spec L2
/-! ### calls of defs -/
def fPrep (b : Bool) (d : D) : M D := if b = true then fMove d else fFrz d
def fPreps : List Bool → List D → M (List D)
  | _, [] => ret []
  | b :: io, d :: ds => bnd (fPrep b d) fun x => bnd (fPreps io ds) fun xs => ret (x :: xs)
  | [], _ :: _ => stuck
def callBack : List Bool → List D → List D → Env → Option Env
  | _, [], _, ρ => some ρ
  | true :: io, .sl j :: ds, c :: cs, ρ => if j < ρ.length then callBack io ds cs (ρ.set j (some c)) else none
  | true :: io, _ :: ds, _ :: cs, ρ => callBack io ds cs ρ
  | false :: io, _ :: ds, cs, ρ => callBack io ds cs ρ
  | _, _, _, _ => none
/-- f(..) with what it reckons; dd: the defaults that fill up -/
def ioOk (io : List Bool) (n m : Nat) : Bool := decide (io.length = n + m) && (io.drop n).all fun b => !b
def mCall (io : List Bool) (f : FM) (dd : List D) (a : M (List D)) : M D := bnd a fun ds => bnd (fPreps io ds) fun xs ρ1 => if ioOk io ds.length dd.length = true then (match f (xs ++ dd) with
  | some (r, cs) => (match callBack io ds cs ρ1 with
    | some ρ2 => some (r, ρ2)
    | none => none)
  | none => none) else none
section
variable {F B F' B' : Addr → Prop} {g : Cn} {W : WX} {H H' : Hp} {σ σ' : St} {ρ ρ' : Env} {T T' : Tm} {v : V} {d : D}
theorem Sat.prep {b : Bool} {z : Res D × Env} (S : Sat F B g H σ ρ ((v, d) :: T)) (e : fPrep b d ρ = some z) : ∃ x, z.1 = .ok x ∧ (∀ i, x ≠ .sl i) ∧ (∃ F' B', Ext F B H F' B' H ∧ Sat F' B' g H σ z.2 ((v, x) :: T)) ∧ ∀ j, d = .sl j → σ[j]? = some (some v) := by
  have hs : ∀ j, d = .sl j → σ[j]? = some (some v) := fun j z => by
    obtain ⟨_, r⟩ := S.top
    subst z
    exact r.1
  cases b with
  | true =>
    obtain ⟨x, h1, h2, h3⟩ := S.fMove (show SV.fMove d ρ = some z from e)
    exact ⟨x, h1, h2, ⟨F, B, Ext.refl, h3⟩, hs⟩
  | false =>
    obtain ⟨x, h1, F', B', h2, h3, h4⟩ := S.fFrz (show SV.fFrz d ρ = some z from e)
    exact ⟨x, h1, fun i q => by rw [q] at h4; exact h4.elim, ⟨F', B', h2, h3⟩, hs⟩
theorem Sat.preps : ∀ {io : List Bool} {ds : List D} {vs : List V} {F B : Addr → Prop} {ρ : Env} {T : Tm} {z : Res (List D) × Env}, vs.length = ds.length → Sat F B g H σ ρ (vs.zip ds ++ T) → fPreps io ds ρ = some z →
    ∃ xs, z.1 = .ok xs ∧ vs.length = xs.length ∧ (∀ d ∈ xs, ∀ i, d ≠ .sl i) ∧ (∃ F' B', Ext F B H F' B' H ∧ Sat F' B' g H σ z.2 (vs.zip xs ++ T)) ∧ ∀ (k j : Nat) (v : V), ds[k]? = some (D.sl j) → vs[k]? = some v → σ[j]? = some (some v)
  | io, [], vs, F, B, ρ, T, z, l, S, e => by
    have hv : vs = [] := List.length_eq_zero_iff.mp l
    subst hv
    have e : some (Res.ok ([] : List D), ρ) = some z := by cases io <;> exact e
    cases e
    exact ⟨[], rfl, rfl, by simp, ⟨F, B, Ext.refl, S⟩, fun k j v h => by simp at h⟩
  | io, d :: ds, [], F, B, ρ, T, z, l, S, e => by simp at l
  | [], d :: ds, v :: vs, F, B, ρ, T, z, l, S, e => by cases e
  | b :: io, d :: ds, v :: vs, F, B, ρ, T, z, l, S, e => by
    have S : Sat F B g H σ ρ ((v, d) :: (vs.zip ds ++ T)) := S
    rcases bnd_some e with ⟨x, ρ1, e1, e2⟩ | ⟨c, fs, e1, e2⟩
    · obtain ⟨d', hd', n1, ⟨F1, B1, x1, S1⟩, hs1⟩ := S.prep e1
      cases hd'
      rcases bnd_some e2 with ⟨xs, ρ2, e3, e4⟩ | ⟨c, fs, e3, e4⟩
      · cases e4
        have S1' : Sat F1 B1 g H σ ρ1 (vs.zip ds ++ ((v, x) :: T)) := S1.perm (List.perm_middle.symm)
        obtain ⟨ds', hds', l', n2, ⟨F2, B2, x2, S2⟩, hs2⟩ := Sat.preps (by simpa using l) S1' e3
        cases hds'
        refine ⟨_, rfl, by simp [l'], ?_, ⟨F2, B2, x1.trans x2, S2.perm List.perm_middle⟩, ?_⟩
        · intro d hd
          rcases List.mem_cons.mp hd with rfl | hd
          · exact n1
          · exact n2 d hd
        · intro k j u h1 h2
          cases k with
          | zero =>
            simp at h1 h2
            subst h2
            exact hs1 j h1
          | succ k => exact hs2 k j u (by simpa using h1) (by simpa using h2)
      · obtain ⟨ds', hds', _⟩ := Sat.preps (by simpa using l) (S1.perm (List.perm_middle.symm)) e3
        cases hds'
    · obtain ⟨d', h, _⟩ := S.prep e1
      cases h
theorem RTs.env {σ σ' : St} : ∀ {T : Tm} {o : List Addr}, (∀ x ∈ T, ∀ i, x.2 ≠ .sl i) → RTs F g H σ T o → RTs F g H σ' T o
  | [], _, _, h => h
  | x :: T, _, ns, ⟨f1, f2, e, h1, h2⟩ => ⟨f1, f2, e, RT.of (h1.own (ns x (List.mem_cons_self ..))), RTs.env (fun y hy => ns y (List.mem_cons_of_mem _ hy)) h2⟩
/-- what a callee sees, and what the caller has behind it -/
theorem Sat.call {A : Tm} (na : ∀ x ∈ A, ∀ i, x.2 ≠ .sl i) (S : Sat F B g H σ ρ (A ++ T)) : ∃ Bc : Addr → Prop, Sat F Bc g H [] [] A ∧ ∀ (F' B' : Addr → Prop) (H' : Hp) (T' : Tm), (∀ x ∈ T', ∀ i, x.2 ≠ .sl i) → Ext F Bc H F' B' H' → Sat F' B' g H' [] [] T' →
    ∃ B'', Ext F B H F' B'' H' ∧ Sat F' B'' g H' σ ρ (T' ++ T) := by
  obtain ⟨⟨o1, o2, h1, h2, nd, nb⟩, fb, bt⟩ := id S
  obtain ⟨fs, f2, e, h3, h4⟩ := h2.split
  subst e
  have hd := List.nodup_append.mp nd
  have hd2 := List.nodup_append.mp hd.2.1
  refine ⟨fun a => (∃ o, H a = some o) ∧ a ∉ fs, ⟨⟨[], fs, rfl, h3.env na, by simpa using hd2.1, fun a ha z => z.2 (by simpa using ha)⟩, fun a ha => ⟨bt a (fb a ha), fun z => nb a (by simp [z]) (fb a ha)⟩, fun a ha => ha.1⟩, fun F' B' H' T' nt x S' => ?_⟩
  obtain ⟨⟨p1, p2, k1, k2, nd', nb'⟩, fb', bt'⟩ := S'
  have k1 : p1 = [] := k1
  subst k1
  have bc : ∀ a, B a → (∃ o, H a = some o) ∧ a ∉ fs := fun a ha => ⟨bt a ha, fun z => nb a (by simp [z]) ha⟩
  have c1 : ∀ a ∈ o1, (∃ o, H a = some o) ∧ a ∉ fs := fun a ha => ⟨h1.there a ha, fun z => hd.2.2 a ha a (by simp [z]) rfl⟩
  have c2 : ∀ a ∈ f2, (∃ o, H a = some o) ∧ a ∉ fs := fun a ha => ⟨h4.there a ha, fun z => hd2.2.2 a z a ha rfl⟩
  have ag : Ag F H F' H' := ⟨x.f, fun a ha => x.h a (bc a (fb a ha))⟩
  have n1 : ∀ a, ((∃ o, H a = some o) ∧ a ∉ fs) → ¬ B a → ¬ F' a := fun a ha hb z => (x.n a z).elim (fun y => hb (fb a y)) fun y => y ha
  refine ⟨fun a => B a ∨ F' a, ⟨x.f, fun a ha => .inl ha, fun a ha => x.h a (bc a ha), fun a ha => (x.n a ha).imp_right fun y z => y (bc a z)⟩, ⟨o1, p2 ++ f2, h1.mono ag fun a ha => x.h a (c1 a ha), (k2.env nt).append (h4.mono ag fun a ha => x.h a (c2 a ha)), ?_, fun a ha => ?_⟩, fun a ha => .inr ha, fun a ha => ?_⟩
  · have q : ∀ a, ((∃ o, H a = some o) ∧ a ∉ fs) → a ∉ p2 := fun a ha z => nb' a (by simpa using z) (x.b a ha)
    refine List.nodup_append.mpr ⟨hd.1, List.nodup_append.mpr ⟨by simpa using nd', hd2.2.1, fun a ha b hb z => q b (c2 b hb) (z ▸ ha)⟩, fun a ha b hb z => ?_⟩
    subst z
    rcases List.mem_append.mp hb with hb | hb
    · exact q a (c1 a ha) hb
    · exact hd.2.2 a ha a (by simp [hb]) rfl
  · rcases List.mem_append.mp ha with ha | ha
    · rintro (z | z)
      · exact nb a (by simp [ha]) z
      · exact n1 a (c1 a ha) (nb a (by simp [ha])) z
    · rcases List.mem_append.mp ha with ha | ha
      · rintro (z | z)
        · exact nb' a (by simpa using ha) (x.b a (bc a z))
        · exact nb' a (by simpa using ha) (fb' a z)
      · rintro (z | z)
        · exact nb a (by simp [ha]) z
        · exact n1 a (c2 a ha) (nb a (by simp [ha])) z
  · rcases ha with ha | ha
    · rw [x.h a (bc a ha)]; exact bt a ha
    · exact bt' a (fb' a ha)
/-- what was lent comes back into its slots -/
theorem Sat.back : ∀ {io : List Bool} {ds cs : List D} {vs : List V} {ρ ρ' : Env}, (vs.length = ds.length) → cs.length = (sel io vs).length → (∀ x ∈ cs, ∀ i, x ≠ .sl i) → (∀ (k j : Nat) (v : V), ds[k]? = some (D.sl j) → vs[k]? = some v → σ[j]? = some (some v)) →
    Sat F B g H σ ρ ((sel io vs).zip cs ++ T) → callBack io ds cs ρ = some ρ' → Sat F B g H σ ρ' T
  | io, [], cs, vs, ρ, ρ', l, lc, ns, hs, S, e => by
    have e : some ρ = some ρ' := by cases io <;> first | exact e | (rename_i b _; cases b <;> exact e)
    cases e
    exact S.sub
  | io, d :: ds, cs, [], ρ, ρ', l, lc, ns, hs, S, e => by simp at l
  | [], d :: ds, cs, v :: vs, ρ, ρ', l, lc, ns, hs, S, e => by
    simp [callBack] at e
  | false :: io, d :: ds, cs, v :: vs, ρ, ρ', l, lc, ns, hs, S, e => by
    have e : callBack io ds cs ρ = some ρ' := by
      cases d <;> exact e
    exact Sat.back (io := io) (vs := vs) (by simpa using l) lc ns (fun k j u h1 h2 => hs (k + 1) j u (by simpa using h1) (by simpa using h2)) S e
  | true :: io, d :: ds, [], v :: vs, ρ, ρ', l, lc, ns, hs, S, e => by simp [sel] at lc
  | true :: io, d :: ds, c :: cs, v :: vs, ρ, ρ', l, lc, ns, hs, S, e => by
    have S : Sat F B g H σ ρ ((v, c) :: ((sel io vs).zip cs ++ T)) := S
    have hs' : ∀ (k j : Nat) (u : V), ds[k]? = some (D.sl j) → vs[k]? = some u → σ[j]? = some (some u) := fun k j u h1 h2 => hs (k + 1) j u (by simpa using h1) (by simpa using h2)
    have lc' : cs.length = (sel io vs).length := by simpa [sel] using lc
    have ns' : ∀ x ∈ cs, ∀ i, x ≠ .sl i := fun x hx => ns x (List.mem_cons_of_mem _ hx)
    cases d with
    | sl j =>
      have e : (if j < ρ.length then callBack io ds cs (ρ.set j (some c)) else none) = some ρ' := e
      split at e
      · rename_i hl
        have hv : σ[j]? = some (some v) := hs 0 j v rfl rfl
        have S2 := S.put (i := j) (ns c (List.mem_cons_self ..)) hl (.inl hv)
        have es : σ.set j (some v) = σ := by
          apply List.ext_getElem?
          intro k
          by_cases hk : j = k
          · subst hk
            rw [List.getElem?_set_self (List.getElem?_eq_some_iff.mp hv).1, hv]
          · rw [List.getElem?_set_ne hk]
        rw [es] at S2
        exact Sat.back (by simpa using l) lc' ns' hs' S2 e
      · cases e
    | _ => exact Sat.back (io := io) (vs := vs) (by simpa using l) lc' ns' hs' S.pop e
theorem sel_append {α : Type} : ∀ {io : List Bool} {vs ws : List α} , (∀ b ∈ io.drop vs.length, b = false) → sel io (vs ++ ws) = sel io vs
  | [], vs, ws, _ => by cases vs <;> cases ws <;> rfl
  | b :: io, [], ws, h => by
    have hb : b = false := h b (by simp)
    subst hb
    have key : ∀ (io : List Bool) (ws : List α), (∀ b ∈ io, b = false) → sel io ws = [] := by
      intro io
      induction io with
      | nil => intro ws _; cases ws <;> rfl
      | cons b io ih =>
        intro ws h
        have hb : b = false := h b (by simp)
        subst hb
        cases ws with
        | nil => rfl
        | cons w ws => exact ih ws fun b hb => h b (by simp [hb])
    rw [List.nil_append, key _ _ (by simpa using h)]
    rfl
  | true :: io, v :: vs, ws, h => by
    show v :: sel io (vs ++ ws) = v :: sel io vs
    rw [sel_append (io := io) (vs := vs) (by simpa using h)]
  | false :: io, v :: vs, ws, h => sel_append (io := io) (vs := vs) (by simpa using h)
/-- defaults: scalars -/
def dvals : List D → Option (List V)
  | [] => some []
  | d :: ds => (match d.sv with
    | some v => (match dvals ds with
      | some vs => some (v :: vs)
      | none => none)
    | none => none)
theorem dvals_reps : ∀ {dd : List D} {dv : List V}, dvals dd = some dv → Reps F g H dd dv
  | [], _, e => by cases e; rfl
  | d :: dd, dv, e => by
    have e : (match d.sv with
      | some v => (match dvals dd with
        | some vs => some (v :: vs)
        | none => none)
      | none => none) = some dv := e
    split at e
    · rename_i v hv
      split at e
      · rename_i vs hvs
        cases e
        exact ⟨v, vs, rfl, rep_sv hv, dvals_reps hvs⟩
      · cases e
    · cases e
theorem zip_app {α β : Type} : ∀ {xs : List α} {ys : List β} {xs' : List α} {ys' : List β}, xs.length = ys.length → (xs ++ xs').zip (ys ++ ys') = xs.zip ys ++ xs'.zip ys'
  | [], [], _, _, _ => rfl
  | _ :: _, _ :: _, _, _, h => by simp [zip_app (show _ = _ by simpa using h)]
  | [], _ :: _, _, _, h => by simp at h
  | _ :: _, [], _, _, h => by simp at h
theorem sim_call {f : FM} {io : List Bool} {dd : List D} {dv : List V} {t : TA} {a : M (List D)} (hd : dvals dd = some dv) (ha : SimA g W t a) : SimE g W (tCallSD (spV g io f) dv (WE W) t) (mCall io f dd a) := fun F B H σ ρ T Q res ρ' S e px h => by
  refine ha.bind S e px fun ds ρ1 F1 B1 H1 vs e1 x1 l S1 => ?_
  rcases bnd_some e1 with ⟨xs, ρ2, e2, e3⟩ | ⟨c, fs, e2, e3⟩
  · obtain ⟨xs', hx, l2, n2, ⟨F2, B2, x2, S2⟩, hs⟩ := S1.preps l e2
    cases hx
    split at e3
    · rename_i hio
      obtain ⟨io1, io2⟩ := Bool.and_eq_true_iff.mp hio
      have io1 : io.length = ds.length + dd.length := of_decide_eq_true io1
      have io2 : ∀ b ∈ io.drop vs.length, b = false := fun b hb => by
        rw [l] at hb
        simpa using List.all_eq_true.mp io2 b hb
      split at e3
      · rename_i r cs e4
        split at e3
        · rename_i ρ3 e5
          cases e3
          have x12 := x1.trans x2
          have rd : Reps F2 g H1 dd dv := dvals_reps hd
          have S3 : Sat F2 B2 g H1 σ ρ2 ((vs ++ dv).zip (xs ++ dd) ++ T) := by
            rw [zip_app l2, List.append_assoc]
            refine (S2.pushs rd).perm ?_
            rw [← List.append_assoc, ← List.append_assoc]
            exact List.Perm.append_right _ List.perm_append_comm
          have nA : ∀ d ∈ xs ++ dd, ∀ i, d ≠ .sl i := fun d hm => by
            rcases List.mem_append.mp hm with hm | hm
            · exact n2 _ hm
            · exact rd.nsl _ hm
          have nA2 : ∀ x ∈ (vs ++ dv).zip (xs ++ dd), ∀ i, x.2 ≠ .sl i := fun x hx => nA _ (List.of_mem_zip (show (x.1, x.2) ∈ _ from hx)).2
          obtain ⟨Bc, S4, k⟩ := Sat.call nA2 S3
          have lA : (vs ++ dv).length = io.length := by rw [List.length_append, ← rd.length, io1, l]
          have es : sel io (vs ++ dv) = sel io vs := sel_append io2
          refine ⟨F2, Bc, xs ++ dd, res, cs, lA, by rw [List.length_append, io1, ← l2, l], nA, S4, e4, fun d hd F' B' H' v x lc ns S5 => ?_, fun c fs hd F' B' H' cls dx x lc ns S5 xa => ?_⟩
          · rw [es] at lc S5
            subst hd
            have nr : ∀ i, d ≠ .sl i := fun i z => by
              obtain ⟨_, r5⟩ := S5.top
              rw [z] at r5
              have q : ([] : St)[i]? = some (some v) := r5.1
              simp at q
            obtain ⟨B6, x6, S6⟩ := k F' B' H' _ (fun y hy => by
              rcases List.mem_cons.mp hy with hy | hy
              · rw [hy]; exact nr
              · exact ns _ (List.of_mem_zip (show (y.1, y.2) ∈ _ from hy)).2) x S5
            refine h d rfl F' B6 H' v (x12.trans x6) ?_
            have S7 : Sat F' B6 g H' σ ρ2 ((sel io vs).zip cs ++ ((v, d) :: T)) := S6.perm List.perm_middle.symm
            exact Sat.back l lc ns hs S7 e5
          · rw [es] at lc S5
            subst hd
            obtain ⟨B6, x6, S6⟩ := k F' B' H' _ (fun y hy => ns _ (List.of_mem_zip (show (y.1, y.2) ∈ _ from hy)).2) x S5
            exact px c fs rfl F' B6 H' cls dx (x12.trans x6) (Sat.back l lc ns hs S6 e5) xa
        · cases e3
      · cases e3
    · cases e3
  · obtain ⟨ds', hd, _⟩ := S1.preps l e2
    cases hd
theorem v_call {X : Cx} {k : Nat} {f : Addr} {fd : FuncData} {ps : List Str} {io : List Bool} {fm : FM} {dd : List D} {dv : List V} {dus : List Value} {x : Str} {p pos : Pos} {a : Expr} {es : List Expr} {ms : M (List D)} (tk : Takes X W)
    (Fn : FnOk X.prog X.w X.K X.mg X.base (L2.CX X.prog X.w) k f fd ps (spV g io fm)) (hr : Room k X.A) (hg : Gl X x) (hm : X.mg x = some (.ref f)) (hk : PySem.W.keepIn X.K (.ref f) = true) (hb : Binds X.K fd ps dus) (hdv : Vals dv dus) (hd : dvals dd = some dv)
    (ha : VA X g W (a :: es) ms) (hdb : (x == ("__debug__" : Str)) = false := by decide) (he : starEach (a :: es) X.env = (false, eval a X.env) :: starEach es X.env := by rfl) (hpl : (backTo pos (starEach es X.env)).any (·.1) = false := by rfl) :
    VE X g W (.Call (.Name x p) (a :: es) [] pos) (mCall io fm dd ms) := .mk (pe_callSD Fn hr hg hm hk hb hdv (fun σ => passAt tk σ) ha hdb he hpl) (sim_call hd selfA)
end
end SV
end
section
set_option Elab.async false
set_option linter.all false
set_option autoImplicit false
set_option maxRecDepth 100000
set_option maxHeartbeats 4000000
namespace SV
open PySem PySem.Spec L2
/-! ### raise -/
section
variable {F B F' B' : Addr → Prop} {g : Cn} {W : WX} {P : List Nat} {H H' : Hp} {σ σ' : St} {ρ ρ' : Env} {T T' : Tm} {v : V} {d : D} {X : Cx}
/-- what __init__ of a class with these fields promises: each argument becomes the field -/
def spIni (C : Addr) (ns : List Str) : Sp := fun vs H Q _ => ∃ (a : Addr) (ys : List V), vs = .ref a :: ys ∧ ys.length = ns.length ∧ 0 < ns.length ∧ H a = some (exo a C none) ∧ ∀ dx, H dx = none → dx ≠ a →
  Q .non (upd (upd H dx (exd dx (ns.zip ys).reverse)) a (exo a C (some dx)))
theorem lookup_rev : ∀ {ns : List Str} {ys : List V} {n : Str} {v : V}, ns.Nodup → ns.length = ys.length → (ns.zip ys).lookup n = some v → (ns.zip ys).reverse.lookup n = some v
  | [], _, _, _, _, _, h => by simp at h
  | _ :: _, [], _, _, _, l, _ => by simp at l
  | m :: ns, y :: ys, n, v, nd, l, h => by
    have nd' := List.nodup_cons.mp nd
    have e : ((m :: ns).zip (y :: ys)).reverse = (ns.zip ys).reverse ++ [(m, y)] := by simp
    rw [e, List.lookup_append]
    by_cases hm : n = m
    · subst hm
      have h0 : ((n :: ns).zip (y :: ys)).lookup n = some y := by simp [List.lookup]
      rw [h0] at h
      cases h
      have hn : (ns.zip ys).reverse.lookup n = none := by
        rw [List.lookup_eq_none_iff]
        intro p hp
        have hp' := List.mem_reverse.mp hp
        have := (List.of_mem_zip (show (p.1, p.2) ∈ _ from hp')).1
        simp
        rintro rfl
        exact nd'.1 this
      rw [hn]
      simp [List.lookup]
    · have hb : (n == m) = false := by simpa using hm
      have h1 : (ns.zip ys).lookup n = some v := by
        have : ((m :: ns).zip (y :: ys)).lookup n = (ns.zip ys).lookup n := by simp [List.lookup, hb]
        rw [this] at h
        exact h
      rw [lookup_rev nd'.2 (by simpa using l) h1]
      rfl
theorem zip_lookup : ∀ {ns : List Str} {xs : List D} {ys : List V} {n : Str} {y : D}, Reps F g H xs ys → (ns.zip xs).lookup n = some y → ∃ v, (ns.zip ys).lookup n = some v ∧ Rep F g H y v
  | [], _, _, _, _, _, h => by simp at h
  | _ :: _, [], _, _, _, _, h => by simp at h
  | m :: ns, x :: xs, _, n, y, ⟨v, ys, e, r1, r2⟩, h => by
    subst e
    by_cases hm : n = m
    · subst hm
      have h0 : ((n :: ns).zip (x :: xs)).lookup n = some x := by simp [List.lookup]
      rw [h0] at h
      cases h
      exact ⟨v, by simp [List.lookup], r1⟩
    · have hb : (n == m) = false := by simpa using hm
      have e1 : ((m :: ns).zip (x :: xs)).lookup n = (ns.zip xs).lookup n := by simp [List.lookup, hb]
      rw [e1] at h
      obtain ⟨w, q, r⟩ := zip_lookup r2 h
      exact ⟨w, by simp [List.lookup, hb, q], r⟩
def mRaise (c : Str) (ns : List Str) (a : M (List D)) : SM := bndS (bnd a fFrzs) fun xs => if xs.length = ns.length ∧ 0 < ns.length ∧ ns.length ≤ 900 then endS (.exc c (ns.zip xs)) else stuckS
theorem sim_raise {C : Addr} {c : Str} {ns : List Str} {t : TA} {a : M (List D)} (hm : g.mg c = some (.ref C)) (nd : ns.Nodup) (ha : SimA g W t a) : SimS g W P (fun _ σ H => tMkO C (spIni C ns) [] t σ H fun cls d H' => W cls d σ H') (mRaise c ns a) := fun F B H σ ρ Dn fl ρ' S e p => by
  unfold mRaise bndS at e
  split at e
  · rename_i xs ρ1 e1
    rcases bnd_some e1 with ⟨ds, ρ0, e2, e3⟩ | ⟨c, fs, e2, e3⟩
    · refine ha F B H σ ρ [] _ (.ok ds) ρ0 S e2 PX.ok fun d1 hd F1 B1 H1 vs x1 l S1 => ?_
      cases hd
      obtain ⟨xs', hx, F2, B2, x2, S2, r2⟩ := S1.fFrzs l e3
      cases hx
      dsimp only at e
      split at e
      · rename_i hl
        cases e
        have lv := r2.length
        refine ⟨by omega, fun o ho => ⟨o, vs, by simp, by rw [← lv]; exact hl.1, hl.2.1, upd_same, fun dx hdx hne => ⟨rfl, dx, _, upd_same, by rw [upd_ne hne, upd_same], ?_, ?_⟩⟩⟩
        · have := hdx
          rw [upd_ne hne] at this
          exact this
        · have hdx1 : H1 dx = none := by
            have := hdx
            rw [upd_ne hne] at this
            exact this
          have eH : upd (del (upd (upd (upd H1 o (exo o C none)) dx (exd dx (ns.zip vs).reverse)) o (exo o C (some dx))) o) dx (.xd (ns.zip vs).reverse) = upd H1 dx (.xd (ns.zip vs).reverse) := by
            funext b
            by_cases h1 : b = dx
            · rw [h1, upd_same, upd_same]
            · rw [upd_ne h1, upd_ne h1]
              by_cases h2 : b = o
              · rw [h2, del_same, ho]
              · rw [del_ne h2, upd_ne h2, upd_ne h1, upd_ne h2]
          rw [eH]
          obtain ⟨F3, B3, x3, S3, f3⟩ := S2.newF (o := .xd (ns.zip vs).reverse) hdx1
          refine p.xc c _ rfl F3 B3 _ σ _ _ ((x1.trans x2).trans x3) (fun _ _ => rfl) S3 ⟨C, dx, _, rfl, rfl, hm, f3, upd_same, fun n y hy => ?_⟩
          obtain ⟨w, q, r⟩ := zip_lookup (Reps.mono (x3.ag S2.fb) _ _ r2) hy
          exact ⟨w, lookup_rev nd (by omega) q, r⟩
      · cases e
    · cases e3
  · rename_i c' fs ρ1 e1
    cases e
    rcases bnd_some e1 with ⟨ds, ρ0, e2, e3⟩ | ⟨c, fs, e2, e3⟩
    · refine ha F B H σ ρ [] _ (.ok ds) ρ0 S e2 PX.ok fun d1 hd F1 B1 H1 vs x1 l S1 => ?_
      cases hd
      obtain ⟨xs', hx, _⟩ := S1.fFrzs l e3
      cases hx
    · cases e3
      exact ha F B H σ ρ [] _ (.exc _ _) _ S e2 p.px fun d hd => by cases hd
  · cases e
theorem vs_raise {C fI : Addr} {c : Str} {ns : List Str} {k : Nat} {fd : FuncData} {ps : List Str} {e : Expr} {es : List Expr} {ms : M (List D)} {p pos pos' : Pos} (hc : X.calm = true) (tk : Takes X W) (To : OexC X.K C) (iC : PySem.W.findIn X.K (.ref C) "__init__" = some (some (.ref fI))) (tI : PySem.W.typeIn X.K (.ref fI) = some (.type "function"))
    (F1 : FnOk X.prog X.w X.K X.mg X.base (L2.CX X.prog X.w) k fI fd ps (spIni C ns)) (hr : Room (k + 1) X.A) (hb : Binds X.K fd ps []) (hg : Gl X c) (hm : X.mg c = some (.ref C)) (hgm : g.mg = X.mg) (nd : ns.Nodup) (ha : VA X g W (e :: es) ms)
    (hdb : (c == ("__debug__" : Str)) = false := by decide) (he : starEach (e :: es) X.env = (false, eval e X.env) :: starEach es X.env := by rfl) (hpl : (backTo pos (starEach es X.env)).any (·.1) = false := by rfl) :
    VS X g W P (.Raise (some (.Call (.Name c p) (e :: es) [] pos)) none pos') (mRaise c ns ms) :=
  .mk (ps_raise hc tk (pmk_oex To iC tI F1 hr hb .nil passL hg hm ha hdb he hpl)) (sim_raise (by rw [hgm]; exact hm) nd selfA)
/-- an __init__ of one field -/
theorem ini1 {Pg : Program} {w : World} {K : PySem.W.Frag} {mg : Str → Option Value} {base : Heap} {C : Addr} {n : Str} {x qual : Str} {params : Arguments} {scope : Scope} {kws : List (Str × V)} {f : Addr} {fd : FuncData} {p1 p2 p3 p4 : Pos}
    (Fn : FunD K x qual params [.Assign [.Attribute (.Name "self" p1) n p2] (.Name n p3) p4] scope [] kws f fd) (Sc : FnScope ["self", n] ["self", n] scope) (v0 : scope.names.lookup ("self" : Str) = some .local) (v1 : scope.names.lookup n = some .local) (hd : (n == ("__debug__" : Str)) = false) (hcd : (n == ("__classdict__" : Str)) = false)
    (To : OexC K C) (hno : PySem.W.findIn K (.ref C) n = some none) : FnOk Pg w K mg base (L2.CX Pg w) 1 f fd ["self", n] (spIni C [n]) := by
  refine Fn.ok Sc (fun vs H Q E ⟨a, ys, e, l, _⟩ => by rw [e]; simp at l ⊢; exact l) fun cdv A outer s H vs Q E hr h => ⟨_, pss_one (ps_ost (pe_var (i := 0) rfl (.inl v0)) (pe_var (i := 1) rfl (.inl v1) hd hcd)), ?_⟩
  obtain ⟨a, ys, rfl, l, _, ha, q⟩ := h
  obtain ⟨y, rfl⟩ : ∃ y, ys = [y] := List.length_eq_one_iff.mp l
  exact ⟨y, rfl, .ref a, rfl, a, C, rfl, To, hno, .inl ⟨ha, fun dx h1 h2 => q dx h1 h2⟩⟩
/-- an __init__ of two fields -/
theorem ini2 {Pg : Program} {w : World} {K : PySem.W.Frag} {mg : Str → Option Value} {base : Heap} {C : Addr} {n m : Str} {x qual : Str} {params : Arguments} {scope : Scope} {kws : List (Str × V)} {f : Addr} {fd : FuncData} {p1 p2 p3 p4 q1 q2 q3 q4 : Pos}
    (Fn : FunD K x qual params [.Assign [.Attribute (.Name "self" p1) n p2] (.Name n p3) p4, .Assign [.Attribute (.Name "self" q1) m q2] (.Name m q3) q4] scope [] kws f fd) (Sc : FnScope ["self", n, m] ["self", n, m] scope) (v0 : scope.names.lookup ("self" : Str) = some .local) (v1 : scope.names.lookup n = some .local) (v2 : scope.names.lookup m = some .local) (hd : (n == ("__debug__" : Str)) = false) (hcd : (n == ("__classdict__" : Str)) = false) (hd2 : (m == ("__debug__" : Str)) = false) (hcd2 : (m == ("__classdict__" : Str)) = false)
    (To : OexC K C) (hno : PySem.W.findIn K (.ref C) n = some none) (hno2 : PySem.W.findIn K (.ref C) m = some none) : FnOk Pg w K mg base (L2.CX Pg w) 1 f fd ["self", n, m] (spIni C [n, m]) := by
  refine Fn.ok Sc (fun vs H Q E ⟨a, ys, e, l, _⟩ => by rw [e]; simp at l ⊢; exact l) fun cdv A outer s H vs Q E hr h => ⟨_, pss_cons (ps_ost (pe_var (i := 0) rfl (.inl v0)) (pe_var (i := 1) rfl (.inl v1) hd hcd)) (pss_one (ps_ost (pe_var (i := 0) rfl (.inl v0)) (pe_var (i := 2) rfl (.inl v2) hd2 hcd2))), ?_⟩
  obtain ⟨a, ys, rfl, l, _, ha, q⟩ := h
  obtain ⟨y, z, rfl⟩ : ∃ y z, ys = [y, z] := by
    match ys, l with
    | [y, z], _ => exact ⟨y, z, rfl⟩
  refine ⟨y, rfl, .ref a, rfl, a, C, rfl, To, hno, .inl ⟨ha, fun dx h1 h2 => ?_⟩⟩
  refine ⟨z, rfl, .ref a, rfl, a, C, rfl, To, hno2, .inr ⟨dx, _, upd_same, by rw [upd_ne h2, upd_same], by simp, ?_⟩⟩
  have e : upd (upd (upd H dx (exd dx [(n, y)])) a (exo a C (some dx))) dx (exd dx [(m, z), (n, y)]) = upd (upd H dx (exd dx [(m, z), (n, y)])) a (exo a C (some dx)) := by
    funext b
    by_cases hb : b = dx
    · rw [hb, upd_same, upd_ne h2, upd_same]
    · rw [upd_ne hb]
      by_cases hb2 : b = a
      · rw [hb2, upd_same, upd_same]
      · rw [upd_ne hb2, upd_ne hb2, upd_ne hb, upd_ne hb]
  show Q .non _
  rw [e]
  exact q dx h1 h2
/-! ### try -/
end
end SV
end
section
set_option Elab.async false
set_option linter.all false
set_option autoImplicit false
set_option maxRecDepth 100000
set_option maxHeartbeats 4000000
namespace SV
open PySem PySem.Spec PyProof.Rows L2
/-! ### try with several clauses, some of which name what they catch -/
abbrev TSx := Addr → Value → Option Addr → TS
/-- where a named clause leads: its name goes at the end -/
def endN (i : Nat) (Dn : Ends) : Ends := { nx := fun s1 H1 => Dn.nx (s1.set i none) H1, rt := Dn.rt, bk := fun s1 H1 => Dn.bk (s1.set i none) H1, ct := fun s1 H1 => Dn.ct (s1.set i none) H1 }
def wMix (K : PySem.W.Frag) (Wo : WX) (Dn : Ends) : List (Value × Option Nat × TSx) → WX
  | [] => Wo
  | (c, none, ts) :: r => fun cls d s1 H1 => ∃ b, PySem.W.exmOne K cls c = some b ∧ (b = true → ∀ a, H1 a = none → ts a cls d Dn s1 H1) ∧ (b = false → wMix K Wo Dn r cls d s1 H1)
  | (c, some i, ts) :: r => fun cls d s1 H1 => ∃ b, PySem.W.exmOne K cls c = some b ∧ (b = true → ∀ a, H1 a = none → ts a cls d (endN i Dn) (s1.set i (some (.ref a))) H1) ∧ (b = false → wMix K Wo Dn r cls d s1 H1)
/-- the clauses and their readings -/
inductive HdsM (X : Cx) : List ExceptHandler → List (Value × Option Nat × TSx) → Prop
  | nil : HdsM X [] []
  | bare {x : Str} {c : Value} {ts : TSx} {b₀ : Stmt} {su : List Stmt} {p1 p2 : Pos} {hds : List ExceptHandler} {l : List (Value × Option Nat × TSx)} (hc : Names X x c)
      (hsu : ∀ (a : Addr) (ob : Obj) (cls : Value) (d : Option Addr) (pn : List (Addr × Obj)), Zc cls d ob → (∃ vs, ob.data = .fields vs) → PSs (X.suite a ((a, ob) :: pn)) (b₀ :: su) (ts a cls d)) (r : HdsM X hds l) :
      HdsM X (.ExceptHandler (some (.Name x p1)) none (b₀ :: su) p2 :: hds) ((c, none, ts) :: l)
  | named {x n : Str} {c : Value} {i : Nat} {ts : TSx} {b₀ : Stmt} {su : List Stmt} {p1 p2 : Pos} {hds : List ExceptHandler} {l : List (Value × Option Nat × TSx)} (hc : Names X x c) (hi : X.N[i]? = some n) (hln : X.env.kindOf n = some .local)
      (hsu : ∀ (a : Addr) (ob : Obj) (cls : Value) (d : Option Addr) (pn : List (Addr × Obj)), Zc cls d ob → (∃ vs, ob.data = .fields vs) → PSs (X.suite a ((a, ob) :: pn)) (b₀ :: su) (ts a cls d)) (r : HdsM X hds l) :
      HdsM X (.ExceptHandler (some (.Name x p1)) (some n) (b₀ :: su) p2 :: hds) ((c, some i, ts) :: l)
section
variable {X : Cx} {body : List Stmt} {h0 : ExceptHandler} {hds : List ExceptHandler} {l : List (Value × Option Nat × TSx)} {pos : Pos} {tb : WX → TS} {Wo : WX}
theorem ps_try_mix (hs : X.stack = X.env :: X.outer) (hf : X.env.frame = some X.env.locals) (hN : X.N.Nodup) (tk : Takes X Wo)
    (hb : ∀ (Wi : WX) (pn : List (Addr × Obj)) (xe : Value → Shared → Prop), Takes (X.tr pn xe) Wi → PassesOwn (model X.prog X.w) X.A X.env xe → PSs (X.tr pn xe) body (tb Wi))
    (hh : HdsM X (h0 :: hds) l) : PS X (.Try body (h0 :: hds) [] [] pos) (fun Dn s1 H1 => tb (wMix X.K Wo Dn l) Dn s1 H1) := by
  refine ⟨fun pins s0 σ0 H0 Dn I0 hw => ?_⟩
  have okX := I0.ok
  have frX : X.A.frames = some (X.env :: X.outer) := by rw [okX.frames, hs]
  refine wpAny_Try_except ?_
  refine wpAny_mono ((hb (wMix X.K Wo Dn l) (X.pn ++ pins) (fun e z1 => wpAny (model X.prog X.w) X.A (noteFrame e X.env) (fun _ z2 => wpAny (model X.prog X.w) X.A (setFlight e none) (fun _ z3 =>
    wpAny (model X.prog X.w) X.A (handleBy e X.env (h0 :: hds)) (SP X pins Dn) X.xe z3) X.xe z2) X.xe z1) (fun u sx xx => ?_) PassesOwn.looking).run [] s0 σ0 H0 Dn (I0.toTry _) hw) (fun f sy hsp => ?_) (fun e z1 he => he)
  · obtain ⟨a, Bg, sI, pins1, σ1, H1, cls, d, rfl, J0, nb, up, sky, na, os, ag, wx⟩ := xx
    have Jx : Inv X pins σ1 H1 sI := J0.ofTry okX
    have sk1 : Sky Bg (X.env :: X.outer) a (Zc cls d) X.env.locals sx.heap := by rw [← hs]; exact sky
    show wpAny (model X.prog X.w) X.A (noteFrame (.ref a) X.env) _ _ _
    refine Sky.land Zc.steady frX hf sk1 fun hp3 fl3 up3 => ?_
    have K3 : Inv X pins σ1 H1 { sx with heap := hp3 } := Jx.landed nb fl3.1 (up.trans up3) os ag
    obtain ⟨ob3, vs3, he3, hz3, hd3⟩ := fl3.there
    have nfr : a ∉ frs (X.env :: X.outer) := fun hm => by
      obtain ⟨_, ob', e', hnf⟩ := fl3.2.2.1.mem hm
      rw [he3] at e'; cases e'
      exact hnf _ hd3
    have neL : a ≠ X.env.locals := fun z => nfr (List.mem_filterMap.mpr ⟨X.env, List.mem_cons_self, by rw [hf, z]⟩)
    have neF : a ∉ X.fs := fun hm => by
      obtain ⟨e, he, q⟩ := List.mem_filterMap.mp hm
      exact nfr (List.mem_filterMap.mpr ⟨e, List.mem_cons_of_mem _ he, q⟩)
    have Q3 := K3.suite he3 hd3 na neL neF
    have LT : PySem.W.Looks (model X.prog X.w) hp3 (typeOf (.ref a)) cls := fun A Q E s k q => wpAny_typeOf_ref (k _ _ he3) (by rw [hz3.1]; exact q)
    have test : ∀ {x : Str} {c : Value} {np : Pos} {Q E : Value → Shared → Prop}, Names X x c → Q c { sx with heap := hp3 } → wpAny (model X.prog X.w) (X.A.mark (some (.ref a))) (eval (.Name x np) X.env) Q E { sx with heap := hp3 } := fun {x c np Q E} hc q => by
      obtain ⟨hg, hdbg, hm | ⟨hm, hv, hnn⟩⟩ := hc
      · exact ld_glob (X := X.suite a ((a, ob3) :: (X.pn ++ pins))) Q3 hg hm q hdbg
      · exact ld_blt (X := X.suite a ((a, ob3) :: (X.pn ++ pins))) Q3 hg hm hv q hnn hdbg
    have go : ∀ {hs2 : List ExceptHandler} {l2 : List (Value × Option Nat × TSx)}, HdsM X hs2 l2 → wMix X.K Wo Dn l2 cls d σ1 H1 →
        wpAny (model X.prog X.w) X.A (handleBy (.ref a) X.env hs2) (SP X pins Dn) X.xe { sx with heap := hp3 } := by
      intro hs2 l2 hk
      induction hk with
      | nil =>
        intro w1
        refine wpAny_handleBy_nil ?_
        obtain ⟨k1, k2, k3, oe, vs, Tt, oT, tsx, he, hz, hd, hd1, hr⟩ := id fl3
        unfold PySem.passOn
        refine wpAny_bind (wpAny_field he hd hd1 ?_)
        rw [if_neg (show ¬ ((Value.ref Tt == Value.none) = true) from by simp)]
        have fin1 : wpAny (model X.prog X.w) X.A (setFlight (.ref a) X.env.frame) (fun _ z4 => wpAny (model X.prog X.w) X.A (throw (.ref a) : Sem Flow) (SP X pins Dn) X.xe z4) X.xe { sx with heap := hp3 } := by
          rw [hf]
          refine HandSPX.setFlight_upZ fl3 fun hp4 hh4 up4 => wpAny_throw (tk _ _ ?_)
          exact ⟨a, Bg, sI, pins, σ1, H1, cls, d, rfl, Jx, nb, (up.trans up3).trans up4, .inr (.inr (by rw [hs]; exact hh4)), na, os, ag, w1⟩
        first
          | exact wpAny_bind (wpAny_pure (wpAny_bind fin1))
          | exact wpAny_bind fin1
      | @bare x c ts b₀ su p1 p2 hds2 l2 hc hsu r ih =>
        intro w1
        obtain ⟨b, hb1, hyes, hno⟩ := w1
        refine wpAny_handleBy_cons (codeAny_handlers_test ?_) (by intro q; cases q)
        have LM := PySem.W.exm_one (M := model X.prog X.w) (K3.kIn) LT hb1
        refine test hc (LM.here ?_)
        cases b with
        | true =>
          refine codeAny_handlers_suite ?_
          refine HandSPX.lands_againZ fl3 fun hp4 fl4 up4 => ?_
          have K4 : Inv X pins σ1 H1 { sx with heap := hp4 } := Jx.landed nb fl4.1 ((up.trans up3).trans up4) os ag
          obtain ⟨ob4, vs4, he4, hz4, hd4⟩ := fl4.there
          have Q4 := K4.suite he4 hd4 na neL neF
          refine wpAny_mono ((hsu a ob4 cls d (X.pn ++ pins) hz4 ⟨_, hd4⟩).run [] _ _ H1 _ Q4 (hyes rfl a na)) (fun f z6 hz6 => ?_) (fun _ _ z => False.elim z)
          cases f with
          | next => obtain ⟨s6, H6, Q6, q6⟩ := hz6; exact ⟨_, _, Q6.unsuite okX, q6⟩
          | brk => obtain ⟨s6, H6, Q6, q6⟩ := hz6; exact ⟨_, _, Q6.unsuite okX, q6⟩
          | cont => obtain ⟨s6, H6, Q6, q6⟩ := hz6; exact ⟨_, _, Q6.unsuite okX, q6⟩
          | ret u => obtain ⟨v6, s6, H6, Q6, r6, q6⟩ := hz6; exact ⟨_, _, _, Q6.unsuite okX, r6, q6⟩
        | false =>
          show wpAny _ X.A (handleBy (.ref a) X.env hds2) _ _ _
          exact ih (hno rfl)
      | @named x n c i ts b₀ su p1 p2 hds2 l2 hc hi hln hsu r ih =>
        intro w1
        obtain ⟨b, hb1, hyes, hno⟩ := w1
        refine wpAny_handleBy_cons (codeAny_handlers_test ?_) (by intro q; cases q)
        have LM := PySem.W.exm_one (M := model X.prog X.w) (K3.kIn) LT hb1
        refine test hc (LM.here ?_)
        cases b with
        | true =>
          refine codeAny_handlers_suite_as ?_
          refine HandSPX.lands_againZ fl3 fun hp4 fl4 up4 => ?_
          have K4 : Inv X pins σ1 H1 { sx with heap := hp4 } := Jx.landed nb fl4.1 ((up.trans up3).trans up4) os ag
          obtain ⟨ob4, vs4, he4, hz4, hd4⟩ := fl4.there
          have Q4 := K4.suite he4 hd4 na neL neF
          refine store_ok (X := X.suite a ((a, ob4) :: (X.pn ++ pins))) (v := .ref a) Q4 hN hi (.inl hln) rfl (fun z5 Q5 => ?_) (.inr hln)
          refine wpAny_mono ((hsu a ob4 cls d (X.pn ++ pins) hz4 ⟨_, hd4⟩).run [] z5 _ H1 _ Q5 (hyes rfl a na)) (fun f z6 hz6 => ?_) (fun _ _ z => False.elim z)
          have gone : ∀ {s6 : L2.St} {H6 : Hp} {Qx : Shared → Prop}, Inv (X.suite a ((a, ob4) :: (X.pn ++ pins))) [] s6 H6 z6 → (∀ z7, Inv X pins (s6.set i none) H6 z7 → Qx z7) →
              wpAny (model X.prog X.w) X.A (do bindName X.env n .none; unbindBehindTheSuite X.env n p2) (fun _ z7 => Qx z7) X.xe z6 := fun {s6 H6 Qx} Q6 hq => gone_ok (Q6.unsuite okX) hN hi hln hq
          cases f with
          | next => obtain ⟨s6, H6, Q6, q6⟩ := hz6; exact gone Q6 fun z7 J7 => ⟨_, _, J7, q6⟩
          | brk => obtain ⟨s6, H6, Q6, q6⟩ := hz6; exact gone Q6 fun z7 J7 => ⟨_, _, J7, q6⟩
          | cont => obtain ⟨s6, H6, Q6, q6⟩ := hz6; exact gone Q6 fun z7 J7 => ⟨_, _, J7, q6⟩
          | ret u => obtain ⟨v6, s6, H6, Q6, r6, q6⟩ := hz6; exact gone Q6 fun z7 J7 => ⟨_, _, _, J7, r6, q6⟩
        | false =>
          show wpAny _ X.A (handleBy (.ref a) X.env hds2) _ _ _
          exact ih (hno rfl)
    exact go hh wx
  · cases f with
    | next => obtain ⟨s6, H6, J6, q⟩ := hsp; exact wpAny_execs_nil ⟨s6, H6, J6.ofTry okX, q⟩
    | brk => obtain ⟨s6, H6, J6, q⟩ := hsp; exact ⟨s6, H6, J6.ofTry okX, q⟩
    | cont => obtain ⟨s6, H6, J6, q⟩ := hsp; exact ⟨s6, H6, J6.ofTry okX, q⟩
    | ret u => obtain ⟨v, s6, H6, J6, r, q⟩ := hsp; exact ⟨v, s6, H6, J6.ofTry okX, r, q⟩
end
end SV
end
section
set_option Elab.async false
set_option linter.all false
set_option autoImplicit false
set_option maxRecDepth 100000
set_option maxHeartbeats 4000000
namespace SV
open PySem PySem.Spec L2
def noX (ρ : Env) : Bool := ρ.all fun x => match x with
  | some d => !d.isX
  | none => true
section
variable {F B F' B' : Addr → Prop} {g g2 : Cn} {W : WX} {P : List Nat} {H H' : Hp} {σ σ' : St} {ρ ρ' : Env} {T T' : Tm} {v : V} {d : D} {X : Cx}
theorem RX.cn {f : List Addr} (e : Same g2 g) (n : d.isX = false) (h : RX F g H d v f) : RX F g2 H d v f := RX.of (RepO.cn e _ _ _ (h.own n))
theorem RS.cn (e : Same g2 g) : ∀ {σ : St} {ρ : Env} {o : List Addr}, noX ρ = true → RS F g H σ ρ o → RS F g2 H σ ρ o
  | [], [], _, _, h => h
  | [], _ :: _, _, _, h => h.elim
  | _ :: _, [], _, _, h => h.elim
  | _ :: σ, none :: ρ, _, n, h => by
    have n' : (true && noX ρ) = true := n
    exact RS.cn e (σ := σ) (ρ := ρ) (by simpa using n') h
  | _ :: _, some d :: ρ, _, n, ⟨v, f1, f2, e1, e2, h1, h2⟩ => by
    have n' : ((!d.isX) && noX ρ) = true := n
    have n'' := Bool.and_eq_true_iff.mp n'
    exact ⟨v, f1, f2, e1, e2, h1.cn e (by simpa using n''.1), RS.cn e n''.2 h2⟩
theorem RT.cn {f : List Addr} (e : Same g2 g) (h : RT F g H σ d v f) : RT F g2 H σ d v f := by
  cases d <;> first | exact RepO.cn e _ _ _ h | exact h
theorem RTs.cn (e : Same g2 g) : ∀ {T : Tm} {o : List Addr}, RTs F g H σ T o → RTs F g2 H σ T o
  | [], _, h => h
  | _ :: _, _, ⟨f1, f2, e1, h1, h2⟩ => ⟨f1, f2, e1, h1.cn e, RTs.cn e h2⟩
theorem Sat.cn (e : Same g2 g) (n : noX ρ = true) (S : Sat F B g H σ ρ T) : Sat F B g2 H σ ρ T := by
  obtain ⟨⟨o1, o2, h1, h2, nd, nb⟩, fb, bt⟩ := S
  exact ⟨⟨o1, o2, h1.cn e n, h2.cn e, nd, nb⟩, fb, bt⟩
theorem ExcAt.cn {cls : Value} {dx : Option Addr} {c : Str} {fs : List (Str × D)} (e : Same g2 g) (h : ExcAt F g H cls dx c fs) : ExcAt F g2 H cls dx c fs := by
  obtain ⟨C, dd, fv, e1, e2, e3, f, hh, r⟩ := h
  exact ⟨C, dd, fv, e1, e2, by rw [e.1]; exact e3, f, hh, fun n y z => let ⟨v, q, w⟩ := r n y z; ⟨v, q, Rep.cn e _ _ w⟩⟩
/-- what is caught comes into a slot -/
theorem Sat.catch_ {i : Nat} {c : Str} {ns : List Str} {xs : List D} (S : Sat F B g H σ ρ []) (hi : i < ρ.length) (h : ExcAt F g H g.xc g.xd c (ns.zip xs)) : Sat F B g H (σ.set i (some (.ref g.xa))) (ρ.set i (some (.xc c ns xs))) [] := by
  obtain ⟨⟨o1, o2, h1, h2, nd, nb⟩, fb, bt⟩ := S
  have h2 : o2 = [] := h2
  subst h2
  obtain ⟨p, sp, h4⟩ := h1.drop i (some (.ref g.xa))
  have e0 : (ρ.set i none)[i]? = some none := by simp [hi]
  obtain ⟨p2, pp, h5⟩ := h4.put (i := i) (v := .ref g.xa) (d := .xc c ns xs) (f := []) e0 ⟨rfl, h, rfl⟩
  simp only [List.set_set] at h5
  have pp' : p2.Perm p := by simpa using pp
  refine ⟨⟨p2, [], h5, rfl, ?_, fun a ha => ?_⟩, fb, bt⟩
  · have : p.Nodup := (by simpa using nd : o1.Nodup).sublist sp
    simpa using pp'.nodup_iff.mpr this
  · exact nb a (by simpa using sp.mem (pp'.mem_iff.mp (by simpa using ha)))
/-- .. and goes -/
theorem Sat.uncatch (S : Sat F B g H σ ρ T) (i : Nat) (nt : ∀ x ∈ T, ∀ j, x.2 ≠ .sl j) : Sat F B g H (σ.set i none) (ρ.set i none) T := by
  obtain ⟨⟨o1, o2, h1, h2, nd, nb⟩, fb, bt⟩ := S
  obtain ⟨p, sp, h4⟩ := h1.drop i none
  have ss : (p ++ o2).Sublist (o1 ++ o2) := List.Sublist.append_right sp _
  exact ⟨⟨p, o2, h4, h2.env nt, nd.sublist ss, fun a ha => nb a (ss.mem ha)⟩, fb, bt⟩
/-! ### try -/
def Fl.isExc : Fl → Bool
  | .exc _ _ => true
  | _ => false
def suiteS (oi : Option Nat) (c : Str) (fs : List (Str × D)) (ms : SM) : SM := fun ρ => if noX ρ = true then (match oi with
  | none => (match ms ρ with
    | some (fl, ρ1) => if noX ρ1 = true ∧ fl.isExc = false then some (fl, ρ1) else none
    | none => none)
  | some i => if i < ρ.length then (match ms (ρ.set i (some (.xc c (fs.map (·.1)) (fs.map (·.2))))) with
    | some (fl, ρ1) => if noX (ρ1.set i none) = true ∧ fl.isExc = false then some (fl, ρ1.set i none) else none
    | none => none) else none) else none
def hdGo (sub : Str → Str → Option Bool) (c : Str) (fs : List (Str × D)) : List (Str × Option Nat × SM) → SM
  | [], ρ => some (.exc c fs, ρ)
  | (c2, oi, ms) :: r, ρ => (match sub c c2 with
    | some b => if b = true then suiteS oi c fs ms ρ else hdGo sub c fs r ρ
    | none => none)
def mTry (sub : Str → Str → Option Bool) (body : SM) (hs : List (Str × Option Nat × SM)) : SM := fun ρ => match body ρ with
  | some (.exc c fs, ρ1) => hdGo sub c fs hs ρ1
  | x => x
theorem zip_maps {fs : List (Str × D)} : (fs.map (·.1)).zip (fs.map (·.2)) = fs := by
  induction fs with
  | nil => rfl
  | cons x fs ih => simp [ih]
theorem suite_bare {ms : SM} {c : Str} {fs : List (Str × D)} {a : Addr} {cls : Value} {dx : Option Addr} {Dn : Ends} {fl : Fl} (e : suiteS none c fs ms ρ = some (fl, ρ')) (S : Sat F B g H σ ρ []) (p : FP g W P Dn F B H σ ρ' fl) :
    TSof ⟨g.mg, a, cls, dx, g.K⟩ (fun _ _ _ _ => False) P ms Dn σ H := by
  unfold suiteS at e
  split at e
  · rename_i n1
    dsimp only at e
    split at e
    · rename_i fl1 ρ1 e1
      split at e
      · rename_i hc
        cases e
        have back : ∀ {F' B' : Addr → Prop} {H' : Hp} {σ' : St} {T : Tm}, Sat F' B' ⟨g.mg, a, cls, dx, g.K⟩ H' σ' ρ' T → Sat F' B' g H' σ' ρ' T := fun S => Sat.cn (g := ⟨g.mg, a, cls, dx, g.K⟩) (g2 := g) ⟨rfl, rfl⟩ hc.1 S
        exact ⟨F, B, ρ, fl, ρ', Sat.cn (g := g) (g2 := ⟨g.mg, a, cls, dx, g.K⟩) ⟨rfl, rfl⟩ n1 S, e1, ⟨fun h F' B' H' σ' x q S' => p.nx h F' B' H' σ' x q (back S'), fun h F' B' H' σ' x q S' => p.bk h F' B' H' σ' x q (back S'), fun h F' B' H' σ' x q S' => p.ct h F' B' H' σ' x q (back S'),
          fun d h F' B' H' σ' v x q n S' => p.rt d h F' B' H' σ' v x q n (back S'), fun c fs h => by subst h; exact absurd hc.2 (by simp [Fl.isExc])⟩⟩
      · cases e
    · cases e
  · cases e
theorem suite_named {ms : SM} {i : Nat} {c : Str} {fs : List (Str × D)} {a : Addr} {cls : Value} {dx : Option Addr} {Dn : Ends} {fl : Fl} (hp : i ∉ P) (e : suiteS (some i) c fs ms ρ = some (fl, ρ')) (S : Sat F B g H σ ρ []) (xa : ExcAt F g H cls dx c fs) (p : FP g W P Dn F B H σ ρ' fl) :
    TSof ⟨g.mg, a, cls, dx, g.K⟩ (fun _ _ _ _ => False) P ms (endN i Dn) (σ.set i (some (.ref a))) H := by
  unfold suiteS at e
  split at e
  · rename_i n1
    dsimp only at e
    split at e
    · rename_i hi
      split at e
      · rename_i fl1 ρ1 e1
        split at e
        · rename_i hc
          cases e
          have S2 := (Sat.cn (g := g) (g2 := ⟨g.mg, a, cls, dx, g.K⟩) ⟨rfl, rfl⟩ n1 S).catch_ (c := c) (ns := fs.map (·.1)) (xs := fs.map (·.2)) hi (by rw [zip_maps]; exact ExcAt.cn (g := g) (g2 := ⟨g.mg, a, cls, dx, g.K⟩) ⟨rfl, rfl⟩ xa)
          have q2 : ∀ {σ2 : St}, (∀ j ∈ P, σ2[j]? = (σ.set i (some (.ref a)))[j]?) → ∀ j ∈ P, (σ2.set i none)[j]? = σ[j]? := fun {σ2} q j hj => by
            rw [setP hp j hj, q j hj, setP hp j hj]
          have back : ∀ {F' B' : Addr → Prop} {H' : Hp} {σ' : St} {T : Tm}, (∀ x ∈ T, ∀ j, x.2 ≠ .sl j) → Sat F' B' ⟨g.mg, a, cls, dx, g.K⟩ H' σ' ρ1 T → Sat F' B' g H' (σ'.set i none) (ρ1.set i none) T := fun nt S => Sat.cn (g := ⟨g.mg, a, cls, dx, g.K⟩) (g2 := g) ⟨rfl, rfl⟩ hc.1 (S.uncatch i nt)
          have nn : ∀ x ∈ ([] : Tm), ∀ j, x.2 ≠ .sl j := fun x hx => by cases hx
          exact ⟨F, B, _, fl, ρ1, S2, e1, ⟨fun h F' B' H' σ' x q S' => p.nx h F' B' H' _ x (q2 q) (back nn S'), fun h F' B' H' σ' x q S' => p.bk h F' B' H' _ x (q2 q) (back nn S'), fun h F' B' H' σ' x q S' => p.ct h F' B' H' _ x (q2 q) (back nn S'),
            fun d h F' B' H' σ' v x q n S' => p.rt d h F' B' H' (σ'.set i none) v x (q2 q) n (back (fun y hy => by
              have ey : y = (v, d) := by simpa using hy
              rw [ey]; exact n) S'), fun c fs h => by subst h; exact absurd hc.2 (by simp [Fl.isExc])⟩⟩
        · cases e
      · cases e
    · cases e
  · cases e
/-- the clauses with what they reckon -/
inductive HdsV (X : Cx) (g : Cn) (P : List Nat) : List ExceptHandler → List (Str × Option Nat × SM) → Prop
  | nil : HdsV X g P [] []
  | bare {x : Str} {C : Addr} {ms : SM} {b₀ : Stmt} {su : List Stmt} {p1 p2 : Pos} {hds : List ExceptHandler} {l : List (Str × Option Nat × SM)} (hg : Gl X x) (hm : X.mg x = some (.ref C)) (hdb : (x == ("__debug__" : Str)) = false)
      (hsu : ∀ (a : Addr) (ob : Obj) (cls : Value) (d : Option Addr) (pn : List (Addr × Obj)), Zc cls d ob → (∃ vs, ob.data = .fields vs) → VSs (X.suite a ((a, ob) :: pn)) ⟨g.mg, a, cls, d, g.K⟩ (fun _ _ _ _ => False) P (b₀ :: su) ms) (r : HdsV X g P hds l) :
      HdsV X g P (.ExceptHandler (some (.Name x p1)) none (b₀ :: su) p2 :: hds) ((x, none, ms) :: l)
  | named {x n : Str} {C : Addr} {i : Nat} {ms : SM} {b₀ : Stmt} {su : List Stmt} {p1 p2 : Pos} {hds : List ExceptHandler} {l : List (Str × Option Nat × SM)} (hg : Gl X x) (hm : X.mg x = some (.ref C)) (hdb : (x == ("__debug__" : Str)) = false) (hi : X.N[i]? = some n) (hln : X.env.kindOf n = some .local) (hp : i ∉ P)
      (hsu : ∀ (a : Addr) (ob : Obj) (cls : Value) (d : Option Addr) (pn : List (Addr × Obj)), Zc cls d ob → (∃ vs, ob.data = .fields vs) → VSs (X.suite a ((a, ob) :: pn)) ⟨g.mg, a, cls, d, g.K⟩ (fun _ _ _ _ => False) P (b₀ :: su) ms) (r : HdsV X g P hds l) :
      HdsV X g P (.ExceptHandler (some (.Name x p1)) (some n) (b₀ :: su) p2 :: hds) ((x, some i, ms) :: l)
theorem vs_try {body : List Stmt} {h0 : ExceptHandler} {hds : List ExceptHandler} {l : List (Str × Option Nat × SM)} {mb : SM} {sub : Str → Str → Option Bool} {pos : Pos} (hs : X.stack = X.env :: X.outer) (hf : X.env.frame = some X.env.locals) (hN : X.N.Nodup) (tk : Takes X W) (hgm : g.mg = X.mg)
    (hsub : ∀ (c c2 : Str) (b : Bool) (C C2 : Addr), sub c c2 = some b → X.mg c = some (.ref C) → X.mg c2 = some (.ref C2) → PySem.W.exmOne X.K (.ref C) (.ref C2) = some b)
    (hb : ∀ (Wi : WX) (pn : List (Addr × Obj)) (xe : Value → Shared → Prop), Takes (X.tr pn xe) Wi → PassesOwn (model X.prog X.w) X.A X.env xe → VSs (X.tr pn xe) g Wi P body mb) (hh : HdsV X g P (h0 :: hds) l) : VS X g W P (.Try body (h0 :: hds) [] [] pos) (mTry sub mb l) := by
  have key : ∀ {hs2 : List ExceptHandler} {l2 : List (Str × Option Nat × SM)}, HdsV X g P hs2 l2 → ∃ l3, HdsM X hs2 l3 ∧ ∀ (F B : Addr → Prop) (H : Hp) (σ : St) (ρ ρ' : Env) (Dn : Ends) (fl : Fl) (c : Str) (fs : List (Str × D)) (cls : Value) (dx : Option Addr), hdGo sub c fs l2 ρ = some (fl, ρ') → Sat F B g H σ ρ [] → ExcAt F g H cls dx c fs → FP g W P Dn F B H σ ρ' fl → wMix X.K W Dn l3 cls dx σ H := by
    intro hs2 l2 hk
    induction hk with
    | nil =>
      refine ⟨[], .nil, fun F B H σ ρ ρ' Dn fl c fs cls dx e S xa p => ?_⟩
      cases e
      exact p.xc c fs rfl F B H σ cls dx Ext.refl (fun _ _ => rfl) S xa
    | @bare x C ms b₀ su p1 p2 hds l hg hm hdb hsu r ih =>
      obtain ⟨l3, h3, k3⟩ := ih
      refine ⟨(.ref C, none, fun a cls d => TSof ⟨g.mg, a, cls, d, g.K⟩ (fun _ _ _ _ => False) P ms) :: l3, .bare ⟨hg, hdb, .inl hm⟩ hsu h3, fun F B H σ ρ ρ' Dn fl c fs cls dx e S xa p => ?_⟩
      unfold hdGo at e
      split at e
      · rename_i b eb
        obtain ⟨Cc, dd, fv, ec, _, emc, _⟩ := id xa
        have em := hsub c x b Cc C eb (by rw [← hgm]; exact emc) hm
        subst ec
        refine ⟨b, em, fun hb a _ => ?_, fun hb => ?_⟩
        · subst hb
          rw [if_pos rfl] at e
          exact suite_bare e S p
        · subst hb
          rw [if_neg Bool.false_ne_true] at e
          exact k3 F B H σ ρ ρ' Dn fl c fs _ dx e S xa p
      · cases e
    | @named x n C i ms b₀ su p1 p2 hds l hg hm hdb hi hln hp hsu r ih =>
      obtain ⟨l3, h3, k3⟩ := ih
      refine ⟨(.ref C, some i, fun a cls d => TSof ⟨g.mg, a, cls, d, g.K⟩ (fun _ _ _ _ => False) P ms) :: l3, .named ⟨hg, hdb, .inl hm⟩ hi hln hsu h3, fun F B H σ ρ ρ' Dn fl c fs cls dx e S xa p => ?_⟩
      unfold hdGo at e
      split at e
      · rename_i b eb
        obtain ⟨Cc, dd, fv, ec, _, emc, _⟩ := id xa
        have em := hsub c x b Cc C eb (by rw [← hgm]; exact emc) hm
        subst ec
        refine ⟨b, em, fun hb a _ => ?_, fun hb => ?_⟩
        · subst hb
          rw [if_pos rfl] at e
          exact suite_named hp e S xa p
        · subst hb
          rw [if_neg Bool.false_ne_true] at e
          exact k3 F B H σ ρ ρ' Dn fl c fs _ dx e S xa p
      · cases e
  obtain ⟨l3, h3, k3⟩ := key hh
  refine .mk (ps_try_mix hs hf hN tk hb h3) fun F B H σ ρ Dn fl ρ' S e p => ?_
  unfold mTry at e
  split at e
  · rename_i c fs ρ1 e1
    refine ⟨F, B, ρ, .exc c fs, ρ1, S, e1, ⟨fun h => (by cases h), fun h => (by cases h), fun h => (by cases h), fun d h => (by cases h), fun c' fs' h F' B' H' σ' cls dx x q S' xa => ?_⟩⟩
    cases h
    exact k3 F' B' H' σ' ρ1 ρ' Dn fl c fs cls dx e S' xa (p.shift x q)
  · rename_i z hn
    refine ⟨F, B, ρ, fl, ρ', S, e, ⟨p.nx, p.bk, p.ct, p.rt, fun c fs h => ?_⟩⟩
    subst h
    exact absurd e (hn c fs ρ')
/-- the field of what was caught -/
def mXf (ok : List Str) (i : Nat) (f : Str) : M D := fun ρ => match ρ[i]? with
  | some (some (.xc c ns xs)) => if c ∈ ok then (match (ns.zip xs).lookup f with
    | some d => some (.ok d, ρ)
    | none => none) else none
  | _ => none
theorem RS.getX : ∀ {σ : St} {ρ : Env} {fp : List Addr} {i : Nat} {d : D}, RS F g H σ ρ fp → ρ[i]? = some (some d) → ∃ v f, σ[i]? = some (some v) ∧ RX F g H d v f := fun h e => h.get e
theorem v_xf {a : Addr} {ob : Obj} {cls : Value} {dx : Option Addr} {pn : List (Addr × Obj)} {i : Nat} {x n : Str} {p pos : Pos} {mg : Str → Option Value} {ok : List Str} {K : PySem.W.Frag} (hz : Zc cls dx ob) (hfd : ∃ vs, ob.data = .fields vs) (hN : X.N[i]? = some x) (hv : Vis X.env.scope x)
    (hT : ∀ c C, c ∈ ok → mg c = some (.ref C) → XfC X.K C ∧ PySem.W.findIn X.K (.ref C) n = some none) (hd : (x == ("__debug__" : Str)) = false := by decide) (hcd : (x == ("__classdict__" : Str)) = false := by decide) : VE (X.suite a ((a, ob) :: pn)) ⟨mg, a, cls, dx, K⟩ W (.Attribute (.Name x p) n pos) (mXf ok i n) := by
  refine ⟨fun pins st σ H Q I ⟨F, B, ρ, T, r, ρ', S, e, px, k⟩ => ?_⟩
  unfold mXf at e
  split at e
  · rename_i c ns xs e1
    split at e
    · rename_i hc
      split at e
      · rename_i d e2
        cases e
        obtain ⟨⟨o1, o2, h1, _⟩, _, _⟩ := id S
        obtain ⟨v, f, hs, ev, xa, _⟩ := h1.getX e1
        obtain ⟨C, dd, fv, ec, ed, em, fd, hdd, hl⟩ := xa
        obtain ⟨u, hu, ru⟩ := hl n d e2
        have ec : cls = .ref C := ec
        obtain ⟨T1, hno⟩ := hT c C hc em
        have hx := pe_xf (X := X) (pos := pos) T1 hno hz hfd (pe_var (X := X.suite a ((a, ob) :: pn)) (i := i) (x := x) (pos := p) hN hv hd hcd) rfl
        exact hx.run pins st σ H Q I ⟨v, hs, ev, ec, dd, fv, u, ed, hdd, hu, k d rfl F B H u Ext.refl (S.push ru)⟩
      · cases e
    · cases e
  · cases e
end
end SV
end
section
set_option Elab.async false
set_option linter.all false
set_option autoImplicit false
set_option maxRecDepth 100000
set_option maxHeartbeats 4000000
namespace SV
open PySem PySem.Spec L2
/-! ### comprehensions -/
def wipeE (ρ : Env) : List Nat → Env
  | [] => ρ
  | v :: vs => (wipeE ρ vs).set v none
def lcL (f : D → Env → Option Env) (tt : M Bool) (el : M D) (vs : List Nat) : List D → List D → Env → Option (List D × Env)
  | [], acc, ρ => some (acc, ρ)
  | d :: ds, acc, ρ => (match f d ρ with
    | some ρ1 => (match tt ρ1 with
      | some (.ok b, ρ2) => if b = true then (match bnd el fOwn ρ2 with
        | some (.ok y, ρ3) => if acc.length < lim then lcL f tt el vs ds (acc ++ [y]) (wipeE ρ3 vs) else none
        | _ => none) else lcL f tt el vs ds acc (wipeE ρ2 vs)
      | _ => none)
    | none => none)
def mLc (m : M (List D)) (f : D → Env → Option Env) (tt : M Bool) (el : M D) (vs : List Nat) : M D := bnd m fun ds ρ => match lcL f tt el vs ds [] (wipeE ρ vs) with
  | some (acc, ρ') => some (.ok (.ol acc), ρ')
  | none => none
/-- all the slots below n but vs -/
def butP (n : Nat) (vs : List Nat) : List Nat := (List.range n).filter fun i => decide (i ∉ vs)
section
variable {F B F' B' : Addr → Prop} {g g2 : Cn} {W : WX} {P : List Nat} {H H' : Hp} {σ σ' : St} {ρ ρ' : Env} {T T' A : Tm} {v : V} {d : D} {X : Cx}
theorem RS.reslot : ∀ {σ σ' : St} {ρ : Env} {o : List Addr}, σ'.length = σ.length → (∀ (i : Nat) (d : D), ρ[i]? = some (some d) → σ'[i]? = σ[i]?) → RS F g H σ ρ o → RS F g H σ' ρ o
  | [], [], [], _, _, _, h => h
  | [], _ :: _, _, _, l, _, _ => by simp at l
  | _ :: _, [], _, _, l, _, _ => by simp at l
  | [], [], _ :: _, _, _, _, h => h.elim
  | _ :: _, _ :: _, [], _, _, _, h => h.elim
  | _ :: σ, _ :: σ', none :: ρ, _, l, k, h => RS.reslot (σ := σ) (σ' := σ') (ρ := ρ) (by simpa using l) (fun i d e => by simpa using k (i + 1) d (by simpa using e)) h
  | x :: σ, x' :: σ', some d :: ρ, _, l, k, ⟨v, f1, f2, e1, e2, h1, h2⟩ => by
    have e0 : x' = x := by simpa using k 0 d rfl
    exact ⟨v, f1, f2, e0.trans e1, e2, h1, RS.reslot (by simpa using l) (fun i d e => by simpa using k (i + 1) d (by simpa using e)) h2⟩
theorem Sat.reslot (S : Sat F B g H σ ρ T) (l : σ'.length = σ.length) (k : ∀ (i : Nat) (d : D), ρ[i]? = some (some d) → σ'[i]? = σ[i]?) (nt : ∀ x ∈ T, ∀ i, x.2 ≠ .sl i) : Sat F B g H σ' ρ T := by
  obtain ⟨⟨o1, o2, h1, h2, nd, nb⟩, fb, bt⟩ := S
  exact ⟨⟨o1, o2, h1.reslot l k, h2.env nt, nd, nb⟩, fb, bt⟩
theorem wipeE_get : ∀ {vs : List Nat} {i : Nat} {d : D}, (wipeE ρ vs)[i]? = some (some d) → ρ[i]? = some (some d) ∧ i ∉ vs
  | [], _, _, h => ⟨h, by simp⟩
  | v :: vs, i, d, h => by
    have h : ((wipeE ρ vs).set v none)[i]? = some (some d) := h
    by_cases hi : v = i
    · subst hi
      by_cases hv : v < (wipeE ρ vs).length
      · rw [List.getElem?_set_self hv] at h; cases h
      · rw [List.getElem?_eq_none (by simpa using hv)] at h; cases h
    · rw [List.getElem?_set_ne hi] at h
      obtain ⟨h1, h2⟩ := wipeE_get h
      exact ⟨h1, by simp only [List.mem_cons, not_or]; exact ⟨fun e => hi e.symm, h2⟩⟩
theorem wipe_get : ∀ {vs : List Nat} {i : Nat}, i ∉ vs → (wipe σ vs)[i]? = σ[i]?
  | [], _, _ => rfl
  | v :: vs, i, h => by
    have h' : i ≠ v ∧ i ∉ vs := by simpa using h
    show ((wipe σ vs).set v none)[i]? = σ[i]?
    rw [List.getElem?_set_ne (Ne.symm h'.1), wipe_get h'.2]
theorem wipe_in : ∀ {vs : List Nat} {i : Nat}, i ∈ vs → i < σ.length → (wipe σ vs)[i]? = some none
  | v :: vs, i, h, hl => by
    show ((wipe σ vs).set v none)[i]? = some none
    by_cases e : v = i
    · subst e
      rw [List.getElem?_set_self (by rw [wipe_length]; exact hl)]
    · rw [List.getElem?_set_ne e]
      have : i ∈ vs := (List.mem_cons.mp h).resolve_left (Ne.symm e)
      exact wipe_in this hl
theorem Sat.wipeE (S : Sat F B g H σ ρ T) : ∀ vs : List Nat, Sat F B g H σ (SV.wipeE ρ vs) T
  | [] => S
  | v :: vs => (Sat.wipeE S vs).forget v
/-- what is at hand is put aside while something goes on over the slots -/
theorem Sat.hide (S : Sat F B g H σ ρ T) : ∃ Bh : Addr → Prop, Sat F Bh g H σ ρ [] ∧ Ext F B H F Bh H ∧ ∀ (F' B' : Addr → Prop) (H' : Hp) (ρ' : Env) (T' : Tm), Ext F Bh H F' B' H' → Sat F' B' g H' σ ρ' T' → ∃ B'', Ext F B H F' B'' H' ∧ Sat F' B'' g H' σ ρ' (T' ++ T) := by
  obtain ⟨⟨o1, o2, h1, h2, nd, nb⟩, fb, bt⟩ := id S
  have hd := List.nodup_append.mp nd
  have c0 : ∀ a, B a → (∃ o, H a = some o) ∧ a ∉ o1 := fun a ha => ⟨bt a ha, fun z => nb a (by simp [z]) ha⟩
  have c2 : ∀ a ∈ o2, (∃ o, H a = some o) ∧ a ∉ o1 := fun a ha => ⟨h2.there a ha, fun z => hd.2.2 a z a ha rfl⟩
  refine ⟨fun a => (∃ o, H a = some o) ∧ a ∉ o1, ⟨⟨o1, [], h1, rfl, by simpa using hd.1, fun a ha z => z.2 (by simpa using ha)⟩, fun a ha => c0 a (fb a ha), fun a ha => ha.1⟩, ⟨fun _ h => h, c0, fun _ _ => rfl, fun _ h => .inl h⟩, fun F' B' H' ρ' T' x S' => ?_⟩
  obtain ⟨⟨p1, p2, k1, k2, nd', nb'⟩, fb', bt'⟩ := S'
  have ag : Ag F H F' H' := ⟨x.f, fun a ha => x.h a (c0 a (fb a ha))⟩
  have nF : ∀ a ∈ o2, ¬ F' a := fun a ha z => (x.n a z).elim (fun y => nb a (by simp [ha]) (fb a y)) fun y => y (c2 a ha)
  refine ⟨fun a => B a ∨ F' a, ⟨x.f, fun a ha => .inl ha, fun a ha => x.h a (c0 a ha), fun a ha => (x.n a ha).imp_right fun y z => y (c0 a z)⟩, ⟨p1, p2 ++ o2, k1, k2.append (h2.mono ag fun a ha => x.h a (c2 a ha)), ?_, fun a ha => ?_⟩, fun a ha => .inr ha, fun a ha => ?_⟩
  · have hd' := List.nodup_append.mp nd'
    rw [← List.append_assoc]
    refine List.nodup_append.mpr ⟨nd', hd.2.1, fun a ha b hb z => ?_⟩
    subst z
    exact nb' a ha (x.b a (c2 a hb))
  · rw [← List.append_assoc] at ha
    rcases List.mem_append.mp ha with ha | ha
    · rintro (z | z)
      · exact nb' a ha (x.b a (c0 a z))
      · exact nb' a ha (fb' a z)
    · rintro (z | z)
      · exact nb a (by simp [ha]) z
      · exact nF a ha z
  · rcases ha with ha | ha
    · rw [x.h a (c0 a ha)]; exact bt a ha
    · exact bt' a (fb' a ha)
theorem sim_lc {wi : TI} {gt : TG} {tt : TT} {te : TE} {m : M (List D)} {f : D → Env → Option Env} {mt : M Bool} {el : M D} {vs : List Nat} {n : Nat} (hn : ∀ {F B : Addr → Prop} {H : Hp} {σ : St} {ρ : Env} {T : Tm}, Sat F B g H σ ρ T → True) (hi : SimI g W wi m) (hg : SimG g (butP n vs) gt f)
    (ht : SimT g (fun _ _ _ _ => False) tt mt) (he : SimE g (fun _ _ _ _ => False) te el) : ∀ (F B : Addr → Prop) (H : Hp) (σ : St) (ρ : Env) (T : Tm) (Q : VK) (r : Res D) (ρ' : Env), σ.length = n → Sat F B g H σ ρ T → mLc m f mt el vs ρ = some (r, ρ') → PX g W σ T F B H ρ' r →
  (∀ d, r = .ok d → ∀ F' B' H' v, Ext F B H F' B' H' → Sat F' B' g H' σ ρ' ((v, d) :: T) → Q v H') → tLc wi gt tt te vs σ H Q := fun F B H σ ρ T Q r ρ' ln S e px h => by
  obtain ⟨Bh, S0, xh, back⟩ := S.hide
  unfold mLc at e
  rcases bnd_some e with ⟨ds, ρ1, e1, e2⟩ | ⟨c, fs, e1, e2⟩
  · refine hi F Bh H σ ρ [] _ (.ok ds) ρ1 S0 e1 PX.ok fun ds' hd F1 B1 H1 J x1 S1 jo p hp => ?_
    cases hd
    split at e2
    · rename_i acc0 ρ2 e3
      cases e2
      have nt : ∀ {a : Addr} {acc : List D}, ∀ x ∈ ([(.ref a, .ol acc)] : Tm), ∀ i, x.2 ≠ .sl i := fun {a acc} x hx i z => by
        have ex : x = (.ref a, .ol acc) := by simpa using hx
        rw [ex] at z
        cases z
      -- the state of a turn: over the wiped slots
      have wl : (wipe σ vs).length = σ.length := wipe_length σ vs
      have toW : ∀ {F B : Addr → Prop} {H : Hp} {ρ : Env} {T : Tm}, (∀ x ∈ T, ∀ i, x.2 ≠ .sl i) → (∀ (i : Nat) (d : D), ρ[i]? = some (some d) → i ∉ vs) → Sat F B g H σ ρ T → Sat F B g H (wipe σ vs) ρ T := fun nt k S => S.reslot wl (fun i d e => wipe_get (k i d e)) nt
      have ofW : ∀ {F B : Addr → Prop} {H : Hp} {ρ : Env} {T : Tm} {σ2 : St}, σ2.length = σ.length → (∀ i, i ∉ vs → σ2[i]? = σ[i]?) → (∀ x ∈ T, ∀ i, x.2 ≠ .sl i) → (∀ (i : Nat) (d : D), ρ[i]? = some (some d) → i ∉ vs) → Sat F B g H σ2 ρ T → Sat F B g H σ ρ T := fun l q nt k S => S.reslot l.symm (fun i d e => (q i (k i d e)).symm) nt
      have S1w := (S1.wipeE vs)
      obtain ⟨F2, B2, x2, S2⟩ := (S1w).newLF (ds := []) (vs := []) rfl hp
      have kw : ∀ {ρ : Env} (i : Nat) (d : D), (wipeE ρ vs)[i]? = some (some d) → i ∉ vs := fun i d e => (wipeE_get e).2
      refine ⟨fun i k H2 => ∃ F3 B3 ρ3 acc, Ext F1 B1 H1 F3 B3 H2 ∧ Sat F3 B3 g H2 σ ρ3 [(.ref p, .ol acc)] ∧ (∀ (i : Nat) (d : D), ρ3[i]? = some (some d) → i ∉ vs) ∧ i ≤ ds.length ∧ k = ds.length - i ∧ lcL f mt el vs (ds.drop i) acc ρ3 = some (acc0, ρ'), ⟨ds.length, F2, B2, wipeE ρ1 vs, [], x2, S2, kw, Nat.zero_le _, rfl, e3⟩, ?_⟩
      rintro i k H2 ⟨F3, B3, ρ3, acc, x3, S3, k3, hil, rfl, e4⟩
      have S3w := toW nt k3 S3
      obtain ⟨j1, j2⟩ := jo F3 B3 H2 (wipe σ vs) ρ3 _ x3 S3w
      by_cases hlt : i < ds.length
      · obtain ⟨hgo, hy⟩ := j1 i ds[i] (by simp [hlt])
        refine .inr ⟨hgo, _, fun H' h => ⟨ds.length - (i + 1), by omega, h⟩, fun x H' yx => ?_⟩
        obtain ⟨F4, B4, x4, S4, r4⟩ := hy x H' yx
        rw [List.drop_eq_getElem_cons hlt] at e4
        unfold lcL at e4
        split at e4
        · rename_i ρ5 e5
          refine hg F4 B4 H' (wipe σ vs) ρ3 ρ5 _ x ds[i] _ nt S4 r4 e5 fun σ5 q5 S5 => ?_
          have l5 : σ5.length = σ.length := q5.1.trans wl
          have q5 := q5.2
          have q5' : ∀ i, i ∉ vs → σ5[i]? = σ[i]? := fun i hi => by
            by_cases hl : i < n
            · rw [q5 i (List.mem_filter.mpr ⟨List.mem_range.mpr hl, by simpa using hi⟩), wipe_get hi]
            · rw [List.getElem?_eq_none (by omega), List.getElem?_eq_none (by omega)]
          refine ⟨?_, ?_⟩
          · apply List.ext_getElem?
            intro i
            by_cases hi : i ∈ vs
            · by_cases hl : i < σ.length
              · rw [wipe_in hi (by omega), wipe_in hi hl]
              · rw [List.getElem?_eq_none (by rw [wipe_length]; omega), List.getElem?_eq_none (by rw [wipe_length]; omega)]
            · rw [wipe_get hi, wipe_get hi, q5' i hi]
          · split at e4
            · rename_i b ρ6 e6
              refine ht F4 B4 H' σ5 ρ5 _ _ (.ok b) ρ6 S5 e6 PX.ok fun b' hb F6 B6 H6 x6 S6 => ?_
              cases hb
              cases b with
              | true =>
                rw [if_pos rfl] at e4 ⊢
                split at e4
                · rename_i y ρ7 e7
                  split at e4
                  · rename_i hlim
                    rcases bnd_some e7 with ⟨y0, ρ0, e8, e9⟩ | ⟨c, fs, e8, e9⟩
                    · refine he F6 B6 H6 σ5 ρ6 _ _ (.ok y0) ρ0 S6 e8 PX.ok fun y' hy F7 B7 H7 u x7 S7 => ?_
                      cases hy
                      obtain ⟨y1, hy1, n1, F8, B8, x8, S8⟩ := S7.fOwn e9
                      cases hy1
                      have S8' : Sat F8 B8 g H7 σ5 ρ7 ((.ref p, .ol acc) :: ([u].zip [y] ++ [])) := S8.perm (List.Perm.swap _ _ _)
                      obtain ⟨⟨o1, o2, k1, k2, _, _⟩, _, _⟩ := id S8'
                      obtain ⟨f1, f2, _, m1, m2⟩ := k2
                      obtain ⟨p', us, f3, em, _, hpp, m3⟩ := (m1.own (fun i z => by cases z) : RepO F8 g H7 (.ol acc) (.ref p) f1)
                      cases em
                      obtain ⟨F9, B9, x9, S9⟩ := Sat.updL (ds := acc) (es := [y]) (nd := acc ++ [y]) (od := []) (ws := [u]) (nv := us ++ [u]) (ov := []) (T := []) (vs := us) rfl (fun d hd i z => by
                        have ed : d = y := by simpa using hd
                        rw [ed] at z
                        exact n1 i z) S8' hpp (fun f0 g0 q1 q2 => ⟨f0 ++ g0, [], [], q1.append q2, ⟨rfl, rfl⟩, by simp⟩)
                      have S9' : Sat F9 B9 g (upd H7 p (.lst (us ++ [u]))) σ5 (wipeE ρ7 vs) [(.ref p, .ol (acc ++ [y]))] := Sat.wipeE S9 vs
                      have S10 := ofW l5 q5' nt (kw (ρ := ρ7)) S9'
                      exact ⟨us, hpp, by rw [lim_eq, ← m3.length]; exact hlim, F9, B9, wipeE ρ7 vs, acc ++ [y], ((((x3.trans x4).trans x6).trans x7).trans x8).trans x9, S10, kw, hlt, rfl, e4⟩
                    · cases e9
                  · cases e4
                · cases e4
              | false =>
                rw [if_neg Bool.false_ne_true] at e4 ⊢
                exact ⟨F6, B6, wipeE ρ6 vs, acc, (x3.trans x4).trans x6, ofW l5 q5' nt kw (Sat.wipeE S6 vs), kw, hlt, rfl, e4⟩
            · cases e4
        · cases e4
      · have ei : i = ds.length := by omega
        subst ei
        rw [List.drop_length] at e4
        cases e4
        refine .inl ⟨j2, ?_⟩
        obtain ⟨B5, x5, S5⟩ := back F3 B3 H2 ρ' _ (x1.trans x3) S3
        exact h _ rfl F3 B5 H2 _ x5 S5
    · cases e2
  · cases r with
    | ok d => cases e2
    | exc c' fs' =>
      cases e2
      refine hi F Bh H σ ρ [] _ (.exc c fs) _ S0 e1 (fun c2 fs2 e3 F2 B2 H2 cls dx x2 S2 xa => ?_) fun d hd => by cases hd
      cases e3
      obtain ⟨B3, x3, S3⟩ := back F2 B2 H2 ρ' [] x2 S2
      exact px c fs rfl F2 B3 H2 cls dx x3 S3 xa
/-- a comprehension's test -/
def VTs (X : Cx) (g : Cn) (W : WX) (ifs : List Expr) (m : M Bool) : Prop := PTs X ifs (TTof g W m)
theorem vts_nil : VTs X g W [] (ret true) := ⟨fun pins st σ H Q I ⟨F, B, ρ, T, r, ρ', S, e, px, k⟩ => by
  cases e
  exact pts_nil.run pins st σ H Q I (k true rfl F B H Ext.refl S)⟩
theorem vts_one {c : Expr} {m : M Bool} (h : VT X g W c m) : VTs X g W [c] m := pts_one h
theorem v_lc {elt tg iter : Expr} {ifs : List Expr} {scope : Scope} {own : List (Str × Nat)} {pos : Pos} {m : M (List D)} {f : D → Env → Option Env} {mt : M Bool} {el : M D} (hc : X.calm = true) (hN : X.N.Nodup) (hi : VI X g W tg iter m) (ok : BlkOk X.N X.env.scope scope own)
    (hg : ∀ (s : Shared) (H : Hp) (C : Addr) (cl : List (Str × Addr)) (fp : List Addr), VG (X.blk s H scope (compEnvC scope cl C X.env) fp) g (butP X.N.length (own.map (·.2))) tg f) (ht : ∀ (s : Shared) (H : Hp) (C : Addr) (cl : List (Str × Addr)) (fp : List Addr), VTs (X.blk s H scope (compEnvC scope cl C X.env) fp) g (fun _ _ _ _ => False) ifs mt)
    (he : ∀ (s : Shared) (H : Hp) (C : Addr) (cl : List (Str × Addr)) (fp : List Addr), VE (X.blk s H scope (compEnvC scope cl C X.env) fp) g (fun _ _ _ _ => False) elt el) (hs : ∀ x, foldedSetIterable iter X.env x = pure x := by intro _; rfl) :
    VE X g W (.ListComp elt [⟨tg, iter, ifs, 0⟩] scope pos) (mLc m f mt el (own.map (·.2))) := ⟨fun pins st σ H Q I ⟨F, B, ρ, T, r, ρ', S, e, px, k⟩ => (pe_lc hc hN hi ok hg ht he hs).run pins st σ H Q I (sim_lc (n := X.N.length) (fun _ => trivial) selfI selfG selfT selfE F B H σ ρ T Q r ρ' I.len S e px k)⟩
/-- x = [..] -/
theorem vs_setLc {i : Nat} {y : Str} {py : Pos} {elt tg iter : Expr} {ifs : List Expr} {scope : Scope} {own : List (Str × Nat)} {pos spos : Pos} {m : M (List D)} {f : D → Env → Option Env} {mt : M Bool} {el : M D} (hc : X.calm = true) (hN : X.N.Nodup) (hy : X.N[i]? = some y) (hyl : X.env.scope.names.lookup y = some .local) (hp : i ∉ P)
    (hsw : swapsWith (.ListComp elt [⟨tg, iter, ifs, 0⟩] scope pos) (some (.Name y py)) spos.line X.env = pure true) (hi : VI X g W tg iter m) (ok : BlkOk X.N X.env.scope scope own)
    (hg : ∀ (s : Shared) (H : Hp) (C : Addr) (cl : List (Str × Addr)) (fp : List Addr), VG (X.blk s H scope (compEnvC scope cl C X.env) fp) g (butP X.N.length (own.map (·.2))) tg f) (ht : ∀ (s : Shared) (H : Hp) (C : Addr) (cl : List (Str × Addr)) (fp : List Addr), VTs (X.blk s H scope (compEnvC scope cl C X.env) fp) g (fun _ _ _ _ => False) ifs mt)
    (he : ∀ (s : Shared) (H : Hp) (C : Addr) (cl : List (Str × Addr)) (fp : List Addr), VE (X.blk s H scope (compEnvC scope cl C X.env) fp) g (fun _ _ _ _ => False) elt el) (hs : ∀ x, foldedSetIterable iter X.env x = pure x := by intro _; rfl) :
    VS X g W P (.Assign [.Name y py] (.ListComp elt [⟨tg, iter, ifs, 0⟩] scope pos) spos) (mSet i (mLc m f mt el (own.map (·.2)))) := ⟨fun pins st σ H Dn I ⟨F, B, ρ, fl, ρ', S, e, p⟩ => (ps_setLc hc hN hy hyl hsw hi ok hg ht he hs).run pins st σ H Dn I (by
  unfold mSet bndS at e
  split at e
  · rename_i d ρ1 e1
    rcases bnd_some e1 with ⟨d0, ρ0, e2, e3⟩ | ⟨c, fs, e2, e3⟩
    · refine sim_lc (n := X.N.length) (fun _ => trivial) selfI selfG selfT selfE F B H σ ρ [] _ (.ok d0) ρ0 I.len S e2 PX.ok fun d1 hd F1 B1 H1 v x S1 => ?_
      cases hd
      obtain ⟨d', hd', nd, S2⟩ := S1.fMove e3
      cases hd'
      unfold stS at e
      dsimp only at e
      split at e
      · rename_i hl
        cases e
        exact p.nx rfl F1 B1 H1 _ x (setP hp) (S2.put nd hl (.inr fun x hx => by cases hx))
      · cases e
    · cases e3
  · rename_i c fs ρ1 e1
    cases e
    rcases bnd_some e1 with ⟨d0, ρ0, e2, e3⟩ | ⟨c, fs, e2, e3⟩
    · refine sim_lc (n := X.N.length) (fun _ => trivial) selfI selfG selfT selfE F B H σ ρ [] _ (.ok d0) ρ0 I.len S e2 PX.ok fun d1 hd F1 B1 H1 v x S1 => ?_
      cases hd
      obtain ⟨d', hd', _, S2⟩ := S1.fMove e3
      cases hd'
    · cases e3
      exact sim_lc (n := X.N.length) (fun _ => trivial) selfI selfG selfT selfE F B H σ ρ [] _ (.exc _ _) _ I.len S e2 p.px fun d hd => by cases hd
  · cases e)⟩
end
end SV
end
section
set_option Elab.async false
set_option linter.all false
set_option autoImplicit false
set_option maxRecDepth 100000
set_option maxHeartbeats 4000000
namespace PySem
/-- enumerate(v) of one argument: its two new cells -/
theorem meets_enum_one {v : Value} {o : Obj} {H : Heap → Prop} (B : Begins v o H) :
    Meets (Builtin.«enumerate.__new__» ⟨[.type "enumerate", v], []⟩) (fun _ R s => H s.heap ∧
      R (.ok (.ret (.ref (s.heap.push o).objs.size))) { s with heap := (s.heap.push o).push { cls := .type "enumerate", data := .fields #[.none, .bool false, .ref s.heap.objs.size, rawInt 0, .none, .none] } }) :=
  .of_wp fun prog w A R s h => by
    obtain ⟨hp, g, d, tk, os⟩ := s
    obtain ⟨h1, h⟩ := h
    have hsub := sub_enumerate
    have q1 : ∀ {A' : Around} {E : Value → Shared → Prop} {Q : Value → Shared → Prop}, Q (.ref hp.objs.size) ⟨hp.push o, g, d, tk, os⟩ → wpAny (model prog w) A' (pyIter v) Q E ⟨hp, g, d, tk, os⟩ :=
      fun q => B.iter prog w _ _ ⟨hp, g, d, tk, os⟩ _ h1 q
    wp_walk
    refine wpAny_stack_any fun st => wpAny_pure ?_
    split
    · rename_i c _ _ _ _ _
      cases (c == Value.type "enumerate")
      · wp_walk using q1
        exact ⟨_, rfl, h⟩
      · wp_walk using q1
        exact ⟨_, rfl, h⟩
    · wp_walk using q1
      exact ⟨_, rfl, h⟩
theorem enum_starts {prog : Program} {w : World} {A : Around} {E : Value → Shared → Prop} {s : Shared} {v : Value} {o : Obj} {H : Heap → Prop} {Q : Value → Shared → Prop} (B : Begins v o H) (h1 : H s.heap)
    (h : ∀ h', IsEnum h' (s.heap.objs.size + 1) s.heap.objs.size 0 .none → h'.get? s.heap.objs.size = some o → h'.objs.size = s.heap.objs.size + 2 → (∀ b o, s.heap.get? b = some o → h'.get? b = some o) → Q (.ref (s.heap.objs.size + 1)) { s with heap := h' }) :
    wpAny (model prog w) A (call (.type "enumerate") [v]) Q E s := by
  refine callType_new F.called_enumerate (by decide) (F.typeCall_enumerate_1 _) (F.newCall_enumerate_1 _) (fun obj => F.args_object_init_2 obj _) F.entry_enumerate_new (meets_enum_one B) ⟨h1, ?_⟩
  have hz : (s.heap.push o).objs.size = s.heap.objs.size + 1 := Heap.size_push ..
  show _ ∧ _
  rw [hz]
  have he : IsEnum ((s.heap.push o).push { cls := .type "enumerate", data := .fields #[.none, .bool false, .ref s.heap.objs.size, rawInt 0, .none, .none] }) (s.heap.objs.size + 1) s.heap.objs.size 0 .none := by
    have z := Heap.get?_push_size (s.heap.push o) (o := { cls := .type "enumerate", data := .fields #[.none, .bool false, .ref s.heap.objs.size, rawInt 0, .none, .none] }) rfl
    rw [hz] at z; exact z
  exact ⟨⟨_, he, rfl⟩, h _ he (Heap.get?_push_of_some _ (Heap.get?_push_size _ B.free)) (by rw [Heap.size_push, hz]) fun b o x => Heap.get?_push_of_some _ (Heap.get?_push_of_some _ x)⟩
end PySem
namespace SV
open PySem PySem.Spec L2
/-! ### enumerate(tuple) -/
def Jte (K : PySem.W.Frag) (a : Addr) : It :=
  ⟨fun i H => ∃ (xs : List V) (x : V), SqT K H a xs ∧ xs[i]? = some x, fun i H v H' => ∃ T x, v = .ref T ∧ H T = none ∧ H' = upd H T (.tup [.int (i : Nat), x]) ∧ ∀ xs, SqT K H a xs → xs[i]? = some x, fun i H => ∃ xs : List V, SqT K H a xs ∧ xs.length ≤ i⟩
theorem enum_endT {prog : Program} {w : World} {A : Around} {E : Value → Shared → Prop} {s : Shared} {e it l : Addr} {i : Nat} {items : Array Value} {old : Value} {Q : Option Value → Shared → Prop} (hh : A.handled = none)
    (he : IsEnum s.heap e it i old) (hit : s.heap.IsTupleIter it l i) (hl : s.heap.IsTuple l items) (hx : items[i]? = none)
    (hQ : ∀ h', Heap.ExtBut it s.heap h' → Q none { s with heap := h' }) : wpAny (model prog w) A (pyNext (.ref e)) Q E s := by
  have hT : s.TypeIs (.ref e) "enumerate" := ⟨_, he, rfl⟩
  unfold pyNext
  refine wpAny_bind (wpAny_attempt (wpAny_callSpecial?_slot (name := Str.ofString "__next__") hT F.slot_enumerate_next (wpAny_call_entry F.slot_enumerate_next hT F.entry_enumerate_next ?_ (F.args_enumerate_next_1 _))))
  show wpAny _ _ (field (.ref e) 2 >>= _) _ _ _
  refine wpAny_bind (wpAny_field he rfl (x := .ref it) rfl ?_)
  refine wpAny_bind (wpAny_nextOf_tuple_end hh hit hl hx fun h' x he' hx' => ?_)
  obtain ⟨o, ho, hc⟩ := hx'
  refine wpAny_bind (wpAny_isInstance (T := "StopIteration") (b := true) ⟨o, ho, hc⟩ isSubtype_stop ?_)
  exact wpAny_pure (hQ _ he')
theorem turn_enumT {P : Program} {w : World} {K : PySem.W.Frag} {elts : List Expr} {kk : Nat} {tpos : Pos} (a e it : Addr) (hai : a ≠ it) (hae : a ≠ e) :
    Turn P w K (.Tuple elts kk tpos) (Jte K a) [e, it] e (fun i h => (∃ old, IsEnum h e it ((i : Nat) : Int) old) ∧ h.IsTupleIter it a i ∧ e ≠ it) where
  mem := by simp
  obj := fun i h st b hb => by
    obtain ⟨⟨old, he⟩, ⟨o, ho, hc, hd⟩, _⟩ := st
    have e' : b = e ∨ b = it := by simpa using hb
    rcases e' with z | z
    · rw [z]; exact ⟨_, he, fun v q => nomatch q⟩
    · rw [z]; exact ⟨o, ho, fun v q => by rw [hd] at q; cases q⟩
  keep := fun i h h' st k => let ⟨⟨old, he⟩, hi, hne⟩ := st; ⟨⟨old, k e (by simp) _ he⟩, hi.at fun o q => k it (by simp) o q, hne⟩
  item := by
    intro X hP hw hK hc i pins s σ H E I hf st hg
    subst hP hw hK
    obtain ⟨⟨old, he⟩, hit, hne⟩ := st
    obtain ⟨xs, x, hq, hx⟩ := hg
    obtain ⟨its, rv, p⟩ := I.tuple hq
    obtain ⟨u, hu, ru⟩ := rv.get hx
    have hel : e < s.heap.objs.size := Heap.lt_size he
    have hil : it < s.heap.objs.size := by obtain ⟨_, q, _⟩ := hit; exact Heap.lt_size q
    have hl := rv.length
    have D := Draws.tuple (prog := X.prog) (w := X.w) (A := X.A.in1) (I.ok.hd hc) it a hai its.toArray
    have hi : i < xs.length := (List.getElem?_eq_some_iff.mp hx).1
    refine wpAny_pyNext_enum_itemD D he ⟨hit, p.1⟩ (by simp; omega) hne (by simp [hne, Ne.symm hae]) fun u' h' tk' hP' ho hit' hT hsz hk => ?_
    have eu : u' = u := by
      have z : some u' = some u := by rw [← hP']; simpa using hu
      exact Option.some.inj z
    subst eu
    refine ⟨_, rfl, wpAny_letOwnedTupleGo_enum (s := { s with heap := h', toks := tk' + 1 }) ho fun h'' he' sb => ?_⟩
    have hT2 : h''.get? s.heap.objs.size = some { cls := .type "tuple", data := .seq #[.int i tk', u'] } := (sb.2 _ (Nat.ne_of_gt hel)).trans hT
    have new : ObjOk X.prog X.w (upd H s.heap.objs.size (.tup [.int (i : Nat), x])) h'' s.heap.objs.size (.tup [.int (i : Nat), x]) :=
      ⟨by show 2 ≤ sizeLine; decide, [.int i tk', u'], .cons ⟨_, rfl⟩ (.cons ru .nil), ⟨_, hT2, rfl, _, rfl⟩⟩
    have I1 : Inv X pins σ (upd H s.heap.objs.size (.tup [.int (i : Nat), x])) { s with heap := h'', toks := tk' + 1 } :=
      I.turnedNew (ch := [e, it]) (fun b ob hb q => (sb.2 b (fun z => hb (by simp [z]))).trans (hk b ob (fun z => hb (by simp [z])) (fun z => hb (by simp [z])) q)) hf (Nat.le_refl _) new
    refine ⟨.ref s.heap.objs.size, _, I1, rfl, ⟨_, x, rfl, I.hok.fresh (Nat.le_refl _), rfl, fun ys hy => by rw [I.tuple_inj hy hq]; exact hx⟩, ⟨⟨u', ?_⟩, hit'.1.at fun o q => (sb.2 it (Ne.symm hne)).trans q, hne⟩, fun b hb => ?_⟩
    · have e1 : ((i + 1 : Nat) : Int) = (i : Int) + 1 := by omega
      rw [e1]; exact he'
    · have hb' : b < s.heap.objs.size := by
        have e' : b = e ∨ b = it := by simpa using hb
        rcases e' with z | z
        · rw [z]; exact hel
        · rw [z]; exact hil
      rw [upd_ne (Nat.ne_of_lt hb')]
      exact (hf b hb).1
  done := by
    intro X hP hw hK hc i pins s σ H E I hf st hg
    subst hP hw hK
    obtain ⟨⟨old, he⟩, hit, hne⟩ := st
    obtain ⟨xs, hq, hx⟩ := hg
    obtain ⟨its, rv, p⟩ := I.tuple hq
    obtain ⟨f0, f1, f2, f3, f4, f5⟩ := hf it (by simp)
    have hl := rv.length
    have D := Draws.tuple (prog := X.prog) (w := X.w) (A := X.A.in1) (I.ok.hd hc) it a hai its.toArray
    have hsz : i < its.toArray.size ∨ its.toArray.size ≤ i := Nat.lt_or_ge _ _
    exact SV.enum_endT (I.ok.hd hc) he hit p.1 (by simp; omega) fun h' eb => ⟨rfl, I.turned (t' := s.toks) (fun b o hb q => eb b o hb q) f0 f1 f3 f4 f5⟩
  self := fun A i s Q E st h => let ⟨⟨_, he⟩, _⟩ := st; wpAny_pyIter_enum he h
def iEnumT (K : PySem.W.Frag) (ta : TA) : TI := fun σ H R => ta σ H fun vs H1 => ∃ a xs, vs = [.ref a] ∧ SqT K H1 a xs ∧ R (Jte K a) H1
theorem pi_enumT {X : Cx} {e : Expr} {ta : TA} {p pos tpos : Pos} {elts : List Expr} {kk : Nat} (hg : Gl X "enumerate") (hm : X.mg "enumerate" = none) (ha : PA X [e] ta) (hs : starEach [e] X.env = [(false, eval e X.env)] := by rfl) :
    PI X (.Tuple elts kk tpos) (.Call (.Name "enumerate" p) [e] [] pos) (iEnumT X.K ta) := by
  refine ⟨fun pins s σ H R I h => ?_⟩
  refine PyProof.Rows.Call_ (ld_blt I hg hm PyProof.Rows.boot_enumerate (PyProof.Rows.callWith_type1 (thn (ha.run pos pins s σ H _ I h) fun us s1 ⟨vs, H1, I1, r1, q1⟩ => ?_) hs rfl))
  obtain ⟨a, xs, ex, hq, q⟩ := q1
  subst ex
  cases r1 with
  | cons r rr =>
    cases rr
    cases r
    obtain ⟨its, rv, p'⟩ := I1.tuple hq
    have hla : a < s1.heap.objs.size := by obtain ⟨_, q, _⟩ := p'.1; exact Heap.lt_size q
    refine PySem.enum_starts (begins_tuple a its.toArray) p'.1 fun h' he hit hsz hk => wpAny_pyIter_enum he ?_
    have I2 : Inv X pins σ H1 { s1 with heap := h' } := I1.kept (t' := s1.toks) hk
    refine ⟨s1.heap.objs.size + 1, [s1.heap.objs.size + 1, s1.heap.objs.size], _, _, H1, rfl, I2, turn_enumT a (s1.heap.objs.size + 1) s1.heap.objs.size (Nat.ne_of_lt hla) (Nat.ne_of_lt (Nat.lt_succ_of_lt hla)), ⟨⟨.none, he⟩, ⟨_, hit, rfl, rfl⟩, Nat.succ_ne_self _⟩, fun b hb => ?_, q⟩
    have e' : b = s1.heap.objs.size + 1 ∨ b = s1.heap.objs.size := by simpa using hb
    have hle : s1.heap.objs.size ≤ b := by
      rcases e' with z | z
      · rw [z]; exact Nat.le_add_right _ _
      · rw [z]; exact Nat.le_refl _
    exact I1.fpOk hle (I1.hok.fresh hle)
/-! ### in the value layer -/
def enumF : Nat → List D → List D
  | _, [] => []
  | i, d :: ds => .tup [.int (i : Nat), d] :: enumF (i + 1) ds
theorem enumF_length : ∀ (ds : List D) (i : Nat), (enumF i ds).length = ds.length
  | [], _ => rfl
  | _ :: ds, i => by simp [enumF, enumF_length ds (i + 1)]
theorem enumF_get : ∀ {ds : List D} {i j : Nat} {d : D}, (enumF i ds)[j]? = some d → ∃ y, ds[j]? = some y ∧ d = .tup [.int ((i + j : Nat)), y]
  | [], _, _, _, h => by simp [enumF] at h
  | y :: ds, i, 0, d, h => by
    simp [enumF] at h
    exact ⟨y, rfl, h.symm⟩
  | y :: ds, i, j + 1, d, h => by
    simp [enumF] at h
    obtain ⟨z, h1, h2⟩ := enumF_get h
    exact ⟨z, by simpa using h1, by rw [h2, show i + 1 + j = i + (j + 1) from by omega]⟩
section
variable {X : Cx} {g : Cn} {W : WX} {F B : Addr → Prop} {H : Hp}
theorem Sat.newPair {p : Addr} {σ : St} {ρ : Env} {T : Tm} {ds : List D} {vs : List V} (S : Sat F B g H σ ρ T) (r : Reps F g H ds vs) (hp : H p = none) :
    ∃ F' B', Ext F B H F' B' (upd H p (.tup vs)) ∧ Sat F' B' g (upd H p (.tup vs)) σ ρ T ∧ Rep F' g (upd H p (.tup vs)) (.tup ds) (.ref p) := by
  obtain ⟨F3, B3, x3, S3, fp⟩ := S.newF (o := .tup vs) hp
  exact ⟨F3, B3, x3, S3, p, vs, rfl, fp, upd_same, Reps.mono (x3.ag S.fb) _ _ r⟩
theorem jel {a : Addr} {vs : List V} {ds : List D} (r : Reps F g H ds vs) (h : LAt F g H a vs) (fb : ∀ a, F a → B a) : JOk g F B H (Ite g.K a) (enumF 0 ds) := fun F2 B2 H2 σ ρ T x S => by
  have hs : SqL g.K H2 a vs := h.sql fb x
  have r2 := Reps.mono (x.ag fb) _ _ r
  refine ⟨fun i d hd => ?_, ⟨vs, hs, by rw [enumF_length, r.length]; exact Nat.le_refl _⟩⟩
  obtain ⟨y0, hy0, rfl⟩ := enumF_get hd
  obtain ⟨v, hv, rv⟩ := r2.get hy0
  refine ⟨⟨vs, v, hs, hv⟩, fun y H' ⟨p, x1, e1, hp, e2, hy⟩ => ?_⟩
  subst e1 e2
  have ey := hy vs hs
  rw [hv] at ey
  cases ey
  rw [Nat.zero_add]
  exact S.newPair ⟨_, _, rfl, rfl, _, _, rfl, rv, rfl⟩ hp
theorem jet {K : PySem.W.Frag} {a : Addr} {vs : List V} {ds : List D} (r : Reps F g H ds vs) (fa : F a) (h : H a = some (.tup vs)) (fb : ∀ a, F a → B a) : JOk g F B H (Jte K a) (enumF 0 ds) := fun F2 B2 H2 σ ρ T x S => by
  have e : H2 a = H a := x.h a (fb a fa)
  have hs : SqT K H2 a vs := .inl (.inl (by rw [e]; exact h))
  have r2 := Reps.mono (x.ag fb) _ _ r
  refine ⟨fun i d hd => ?_, ⟨vs, hs, by rw [enumF_length, r.length]; exact Nat.le_refl _⟩⟩
  obtain ⟨y0, hy0, rfl⟩ := enumF_get hd
  obtain ⟨v, hv, rv⟩ := r2.get hy0
  refine ⟨⟨vs, v, hs, hv⟩, fun y H' ⟨p, x1, e1, hp, e2, hy⟩ => ?_⟩
  subst e1 e2
  have ey := hy vs hs
  rw [hv] at ey
  cases ey
  rw [Nat.zero_add]
  exact S.newPair ⟨_, _, rfl, rfl, _, _, rfl, rv, rfl⟩ hp
def fEnum : List D → M (List D)
  | [d] => bnd (fSeq d) fun z => ret (enumF 0 z.2)
  | _ => stuck
theorem sim_enum {K : PySem.W.Frag} {t : TA} {a : M (List D)} (hK : g.K = K) (ha : SimA g W t a) : SimI g W (fun σ H R => iEnum K t σ H R ∨ iEnumT K t σ H R) (bnd a fEnum) := fun F B H σ ρ T R r ρ' S e px h => by
  subst hK
  rcases bnd_some e with ⟨ds, ρ1, e1, e2⟩ | ⟨c, fs, e1, e2⟩
  · unfold fEnum at e2
    split at e2
    · rename_i d
      rcases bnd_some e2 with ⟨z, ρ2, e3, e4⟩ | ⟨c, fs, e3, e4⟩
      · cases e4
        obtain ⟨b, xs⟩ := z
        cases b with
        | true =>
          refine .inr (ha F B H σ ρ T _ (.ok [d]) ρ1 S e1 PX.ok fun d' hd F1 B1 H1 vs x1 l S1 => ?_)
          cases hd
          obtain ⟨v, rfl⟩ : ∃ v, vs = [v] := by match vs, l with | [v], _ => exact ⟨v, rfl⟩
          obtain ⟨b, ys, ez, F2, B2, x2, S2, a, vs, rfl, r2, q⟩ := S1.fSeq (K := g.K) e3
          cases ez
          obtain ⟨fa, q⟩ := q
          exact ⟨a, vs, rfl, .inl (.inl q), h _ rfl F2 B2 H1 _ (x1.trans x2) S2 (jet r2 fa q S2.fb)⟩
        | false =>
          refine .inl (ha F B H σ ρ T _ (.ok [d]) ρ1 S e1 PX.ok fun d' hd F1 B1 H1 vs x1 l S1 => ?_)
          cases hd
          obtain ⟨v, rfl⟩ : ∃ v, vs = [v] := by match vs, l with | [v], _ => exact ⟨v, rfl⟩
          obtain ⟨b, ys, ez, F2, B2, x2, S2, a, vs, rfl, r2, q⟩ := S1.fSeq (K := g.K) e3
          cases ez
          exact ⟨a, vs, rfl, LAt.sql q S2.fb Ext.refl, h _ rfl F2 B2 H1 _ (x1.trans x2) S2 (jel r2 q S2.fb)⟩
      · refine .inl (ha F B H σ ρ T _ (.ok [d]) ρ1 S e1 PX.ok fun d' hd F1 B1 H1 vs x1 l S1 => ?_)
        cases hd
        obtain ⟨v, rfl⟩ : ∃ v, vs = [v] := by match vs, l with | [v], _ => exact ⟨v, rfl⟩
        obtain ⟨b, ys, ez, _⟩ := S1.fSeq (K := g.K) e3
        cases ez
    · cases e2
  · cases r with
    | ok d => cases e2
    | exc c' fs' =>
      cases e2
      exact .inl (ha F B H σ ρ T _ (.exc c fs) _ S e1 px.cast fun d' hd => by cases hd)
theorem vi_enum {elts : List Expr} {kk : Nat} {tpos : Pos} {a : Expr} {m : M (List D)} {p pos : Pos} (hK : g.K = X.K) (hg : Gl X "enumerate") (hm : X.mg "enumerate" = none) (ha : VA X g W [a] m) (hs : starEach [a] X.env = [(false, eval a X.env)] := by rfl) : VI X g W (.Tuple elts kk tpos) (.Call (.Name "enumerate" p) [a] [] pos) (bnd m fEnum) := .mk (PI.or (pi_enum hg hm ha hs) (pi_enumT hg hm ha hs)) (sim_enum hK selfA)
end
end SV
end
section
set_option Elab.async false
set_option linter.all false
set_option autoImplicit false
set_option maxRecDepth 100000
set_option maxHeartbeats 4000000
namespace SV
open PySem PySem.Spec L2
/-! ### isinstance(x, C), isinstance(x, (C, ..)): built-in types -/
inductive Ty where
  | non | bl | int | str | tup | lst | dct
  deriving DecidableEq
def Ty.nm : Ty → String
  | .non => "NoneType" | .bl => "bool" | .int => "int" | .str => "str" | .tup => "tuple" | .lst => "list" | .dct => "dict"
def Ty.sub : Ty → Ty → Bool
  | .bl, .int => true
  | a, b => decide (a = b)
theorem Ty.kit : ∀ a b : Ty, kitB a.nm b.nm = some (a.sub b) := by
  intro a b
  cases a <;> cases b <;> decide +kernel
def D.ty : D → Option Ty
  | .non => some .non | .bl _ => some .bl | .int _ => some .int | .str _ => some .str | .tup _ => some .tup | .lst _ => some .lst | .ol _ => some .lst | .dk _ _ => some .dct | .od _ _ => some .dct
  | _ => none
section
variable {F B : Addr → Prop} {g : Cn} {W : WX} {H : Hp} {σ : St} {ρ ρ' : Env} {T : Tm} {v : V} {d : D} {K : PySem.W.Frag} {X : Cx}
theorem RepO.tyx {f : List Addr} {t : Ty} (h : RepO F g H d v f) (e : d.ty = some t) : TyX K H v (.type t.nm) := by
  cases d with
  | non => cases e; obtain ⟨rfl, _⟩ := h; exact .base .non
  | bl b => cases e; obtain ⟨rfl, _⟩ := h; exact .base (.bl b)
  | int i => cases e; obtain ⟨rfl, _⟩ := h; exact .base (.int i)
  | str x => cases e; obtain ⟨rfl, _⟩ := h; exact .base (.str x)
  | tup xs => cases e; obtain ⟨⟨a, vs, rfl, _, ha, _⟩, _⟩ := h; exact .base (.tup ha)
  | lst xs => cases e; obtain ⟨⟨a, vs, rfl, _, ha, _⟩, _⟩ := h; exact .base (.lst ha)
  | ol xs => cases e; obtain ⟨a, vs, f', rfl, _, ha, _⟩ := h; exact .base (.lst ha)
  | dk ks xs => cases e; obtain ⟨⟨a, kvs, rfl, _, ha, _⟩, _⟩ := h; exact .base (.dK ha)
  | od ks xs => cases e; obtain ⟨a, kvs, f', rfl, _, ha, _⟩ := h; exact .base (.dK ha)
  | _ => cases e
def gIsi (ts : List Ty) : D → Option D := fun d => match d.ty with
  | some t => some (.bl (ts.any fun u => t.sub u))
  | none => none
/-- a type by its name -/
theorem pe_tyn {x : Str} {pos : Pos} {n : String} (hg : Gl X x) (hm : X.mg x = none) (hv : bootBuiltins x = some (.type n)) (hn : x ≠ "__name__" := by decide) (hd : (x == ("__debug__" : Str)) = false := by decide) : PE X (.Name x pos) (tC (.ty n)) :=
  ⟨fun _ _ _ H _ I h => ld_blt I hg hm hv ⟨.ty n, H, I, rfl, h⟩ hn hd⟩
theorem kitAny_tys {t : Ty} : ∀ (ts : List Ty), PySem.W.kitAny K (.type t.nm) (ts.map fun u => Value.type u.nm) = some (ts.any fun u => t.sub u)
  | [] => rfl
  | u :: ts => kitAny_cons (kit_ty (Ty.kit t u)) (fun e => by rw [List.any_cons, e, Bool.false_or]; exact kitAny_tys ts) (fun e => by rw [List.any_cons, e, Bool.true_or])
theorem paired_tys : ∀ (ts : List Ty), Paired ClsV (ts.map fun u => V.ty u.nm) (ts.map fun u => Value.type u.nm)
  | [] => .nil
  | u :: ts => .cons (.ty u.nm) (paired_tys ts)
def mIsi (ts : List Ty) (a : M D) : M D := mUn (fLook (gIsi ts)) a
theorem sim_isi1 {t : Ty} {ta : TE} {a : M D} (ha : SimE g W ta a) : SimE g W (tCB (rIsi K) (tCons ta (tCons (tC (.ty t.nm)) tNil))) (mIsi [t] a) := fun F B H σ ρ T Q res ρ' S e px h => by
  refine SimE.bind ha S e px fun d ρ1 F1 B1 H1 v e1 x1 S1 => ?_
  obtain ⟨x, y, e2, e3, e4⟩ := fLook_some e1
  cases e4
  obtain ⟨f, rx⟩ := S1.look1 e2
  unfold gIsi at e3
  split at e3
  · rename_i ty ety
    cases e3
    refine ⟨v, .ty t.nm, _, _, _, rfl, .ty t.nm, rx.tyx ety, kit_ty (Ty.kit ty t), ?_⟩
    have q := h _ rfl F1 B1 H1 (.bl (ty.sub t)) x1 (S1.pop.push (by show V.bl _ = V.bl _; simp))
    simpa using q
  · cases e3
theorem sim_isiT {ts : List Ty} {ta : TE} {a : M D} {tt : TA} (hl : ts.length ≤ lim) (ht : ∀ σ H Q, Q (ts.map fun u => V.ty u.nm) H → tt σ H Q) (ha : SimE g W ta a) : SimE g W (tCB (rIsiT K) (tCons ta (tCons (tTup tt) tNil))) (mIsi ts a) := fun F B H σ ρ T Q res ρ' S e px h => by
  refine SimE.bind ha S e px fun d ρ1 F1 B1 H1 v e1 x1 S1 => ?_
  obtain ⟨x, y, e2, e3, e4⟩ := fLook_some e1
  cases e4
  refine ht _ _ _ ⟨by rw [List.length_map]; exact hl, fun p hp => ?_⟩
  obtain ⟨x2, S2⟩ := S1.grow (o := .tup (ts.map fun u => V.ty u.nm)) hp
  obtain ⟨f, rx⟩ := S2.look1 e2
  unfold gIsi at e3
  split at e3
  · rename_i ty ety
    cases e3
    exact ⟨v, p, _, _, _, _, rfl, upd_same, paired_tys ts, rx.tyx ety, kitAny_tys ts, h _ rfl F1 B1 _ _ (x1.trans x2) (S2.pop.push rfl)⟩
  · cases e3
/-- names of types in a row -/
def TyNames (X : Cx) : List Expr → List Ty → Prop
  | [], [] => True
  | .Name x _ :: es, t :: ts => (Gl X x ∧ X.mg x = none ∧ bootBuiltins x = some (.type t.nm) ∧ x ≠ "__name__" ∧ (x == ("__debug__" : Str)) = false) ∧ TyNames X es ts
  | _, _ => False
def tTys (ts : List Ty) : TA := fun _ H Q => Q (ts.map fun u => V.ty u.nm) H
theorem starEach_name {x : Str} {pos : Pos} {es : List Expr} {env : PySem.Env} : starEach (.Name x pos :: es) env = (false, eval (.Name x pos) env) :: starEach es env := rfl
theorem pa_tys : ∀ {es : List Expr} {ts : List Ty}, TyNames X es ts → PA X es (tTys ts)
  | [], [], _ => ⟨fun pos pins s σ H Q I h => pa_nil.run pos pins s σ H Q I h⟩
  | .Name x p :: es, t :: ts, ⟨⟨hg, hm, hv, hn, hd⟩, h2⟩ => ⟨fun pos pins s σ H Q I h => (pa_cons (pe_tyn hg hm hv hn hd) (pa_tys h2) starEach_name).run pos pins s σ H Q I h⟩
variable {a : Expr} {ma : M D} {p pos p2 : Pos}
theorem v_isi1 {x : Str} {t : Ty} (hg : Gl X "isinstance") (hm : X.mg "isinstance" = none) (ha : VE X g W a ma) (hT : TyNames X [.Name x p2] [t]) (he : starEach [a, .Name x p2] X.env = (false, eval a X.env) :: starEach [.Name x p2] X.env := by rfl) (hpl : (backTo pos (starEach [.Name x p2] X.env)).any (·.1) = false := by rfl) :
    VE X g W (.Call (.Name "isinstance" p) [a, .Name x p2] [] pos) (mIsi [t] ma) :=
  .mk (pe_callB call_isi hg hm PyProof.Rows.boot_isinstance (pa_cons ha (pa_cons (pe_tyn hT.1.1 hT.1.2.1 hT.1.2.2.1 hT.1.2.2.2.1 hT.1.2.2.2.2) pa_nil starEach_name) he) (by decide) (by decide) he hpl) (sim_isi1 selfE)
theorem v_isiT {es : List Expr} {ts : List Ty} {k : Nat} (hg : Gl X "isinstance") (hm : X.mg "isinstance" = none) (ha : VE X g W a ma) (hT : TyNames X es ts) (hl : ts.length ≤ 64 := by decide) (he : starEach [a, .Tuple es k p2] X.env = (false, eval a X.env) :: starEach [.Tuple es k p2] X.env := by rfl) (he2 : starEach [.Tuple es k p2] X.env = (false, eval (.Tuple es k p2) X.env) :: starEach [] X.env := by rfl) (hpl : (backTo pos (starEach [.Tuple es k p2] X.env)).any (·.1) = false := by rfl) :
    VE X g W (.Call (.Name "isinstance" p) [a, .Tuple es k p2] [] pos) (mIsi ts ma) :=
  .mk (pe_callB call_isiT hg hm PyProof.Rows.boot_isinstance (pa_cons ha (pa_cons (pe_tup (pa_tys hT)) pa_nil he2) he) (by decide) (by decide) he hpl) (sim_isiT (Nat.le_trans hl (by decide)) (fun _ _ _ h => h) selfE)
/-! ### is True, is False -/
def gIsB (neg : Bool) : D → D → Option D
  | .bl a, .bl b => some (.bl (if neg = true then !decide (a = b) else decide (a = b)))
  | _, _ => none
theorem r_isB : SimR g W rIsB (fLook2 (gIsB false)) := simR_look fun F B H x y dx dy d f f' Q rx ry e q => by
  unfold gIsB at e
  split at e
  · cases e
    obtain ⟨rfl, _⟩ := rx
    obtain ⟨rfl, _⟩ := ry
    exact ⟨_, _, rfl, rfl, q _ rfl⟩
  · cases e
theorem r_notB : SimR g W rNotB (fLook2 (gIsB true)) := simR_look fun F B H x y dx dy d f f' Q rx ry e q => by
  unfold gIsB at e
  split at e
  · cases e
    obtain ⟨rfl, _⟩ := rx
    obtain ⟨rfl, _⟩ := ry
    exact ⟨_, _, rfl, rfl, q _ rfl⟩
  · cases e
end
end SV
end
section
set_option Elab.async false
set_option linter.all false
set_option autoImplicit false
set_option maxRecDepth 100000
set_option maxHeartbeats 4000000
namespace SV
open PySem PySem.Spec L2
/-! ### + of ints, texts, lists, tuples -/
def fLs : D → M (List D)
  | .ol xs => ret (D.frzs xs)
  | d => fun ρ => match dr ρ d with
    | some (.ol xs) => if plain xs = true then some (.ok xs, ρ) else none
    | some (.lst xs) => some (.ok xs, ρ)
    | _ => none
def fTs : D → M (List D)
  | .tup xs => ret xs
  | _ => stuck
def fAddA : D → D → M D
  | .int i, .int j => ret (.int (i + j))
  | .str i, .str j => if i.length + j.length ≤ lim then ret (.str (i ++ j)) else stuck
  | .tup xs, .tup ys => if xs.length + ys.length ≤ lim then ret (.tup (xs ++ ys)) else stuck
  | dx, dy => bnd (fLs dy) fun ys => bnd (fLs dx) fun xs => if xs.length + ys.length ≤ lim then ret (.ol (xs ++ ys)) else stuck
section
variable {F B : Addr → Prop} {g : Cn} {W : WX} {P : List Nat} {H : Hp} {σ : St} {ρ ρ' : Env} {T : Tm} {v : V} {d : D} {K : PySem.W.Frag} {X : Cx}
theorem Sat.lsAt {z : Res (List D) × Env} (S : Sat F B g H σ ρ ((v, d) :: T)) (e : fLs d ρ = some z) : ∃ xs, z = (.ok xs, ρ) ∧ ∃ F' B', Ext F B H F' B' H ∧ Sat F' B' g H σ ρ T ∧ ∃ a vs, v = .ref a ∧ Reps F' g H xs vs ∧ H a = some (.lst vs) := by
  have gen : ∀ z, (match dr ρ d with
    | some (.ol xs) => if plain xs = true then some (Res.ok xs, ρ) else none
    | some (.lst xs) => some (.ok xs, ρ)
    | _ => none) = some z → ∃ xs, z = (.ok xs, ρ) ∧ ∃ F' B', Ext F B H F' B' H ∧ Sat F' B' g H σ ρ T ∧ ∃ a vs, v = .ref a ∧ Reps F' g H xs vs ∧ H a = some (.lst vs) := by
    intro z e
    split at e
    · rename_i xs e1
      split at e
      · rename_i hp
        cases e
        obtain ⟨f, a, vs, f', e2, _, ha, r⟩ := S.look1 e1
        exact ⟨xs, rfl, F, B, Ext.refl, S.pop, a, vs, e2, r.reps hp, ha⟩
      · cases e
    · rename_i xs e1
      cases e
      obtain ⟨f, ⟨a, vs, e2, _, ha, r⟩, _⟩ := S.look1 e1
      exact ⟨xs, rfl, F, B, Ext.refl, S.pop, a, vs, e2, r, ha⟩
    · cases e
  cases d with
  | ol xs =>
    cases e
    obtain ⟨F', B', x, S', rf⟩ := S.freeze (fun i z => by cases z)
    obtain ⟨a, vs, e1, f, r, s⟩ := rf
    exact ⟨_, rfl, F', B', x, S'.pop, a, vs, e1, s, r⟩
  | _ => exact gen z e
theorem r_addL : SimR g W rCat (fun dx dy => bnd (fLs dy) fun ys => bnd (fLs dx) fun xs => if xs.length + ys.length ≤ lim then ret (.ol (xs ++ ys)) else stuck) := fun F B H σ ρ T x y dx dy Q res ρ' S e px h => by
  rcases bnd_some e with ⟨ys, ρ1, e1, e2⟩ | ⟨c, fs, e1, e2⟩
  · obtain ⟨ys', ez, F1, B1, x1, S1, b, ws, rfl, r1, hb⟩ := S.lsAt e1
    cases ez
    rcases bnd_some e2 with ⟨xs, ρ2, e3, e4⟩ | ⟨c, fs, e3, e4⟩
    · obtain ⟨xs', ez, F2, B2, x2, S2, a, vs, rfl, r2, ha⟩ := S1.lsAt e3
      cases ez
      split at e4
      · rename_i hl
        cases e4
        refine ⟨a, b, vs, ws, rfl, rfl, ha, hb, by rw [← r1.length, ← r2.length]; exact hl, fun p hp => ?_⟩
        obtain ⟨F3, B3, x3, S3⟩ := S2.newLF (r2.append (Reps.mono (x2.ag S1.fb) _ _ r1)) hp
        exact h _ rfl F3 B3 _ _ ((x1.trans x2).trans x3) S3
      · cases e4
    · obtain ⟨xs', ez, _⟩ := S1.lsAt e3
      cases ez
  · obtain ⟨xs', ez, _⟩ := S.lsAt e1
    cases ez
theorem r_addA : SimR g W (rAddA K) fAddA := fun F B H σ ρ T x y dx dy Q res ρ' S e px h => by
  unfold fAddA at e
  split at e
  · rename_i i j
    cases e
    obtain ⟨_, ry⟩ := S.top
    obtain ⟨_, rx⟩ := S.pop.top
    cases rt_int rx
    cases rt_int ry
    exact .inl ⟨i, j, rfl, rfl, h _ rfl F B H _ Ext.refl (S.pop.pop.push rfl)⟩
  · rename_i i j
    split at e
    · rename_i hl
      cases e
      obtain ⟨_, ry⟩ := S.top
      obtain ⟨_, rx⟩ := S.pop.top
      cases rt_str rx
      cases rt_str ry
      exact .inr (.inr (.inr ⟨i, j, rfl, rfl, hl, h _ rfl F B H _ Ext.refl (S.pop.pop.push rfl)⟩))
    · cases e
  · rename_i xs ys
    split at e
    · rename_i hl
      cases e
      obtain ⟨_, ry⟩ := S.top
      obtain ⟨_, rx⟩ := S.pop.top
      obtain ⟨⟨a, vs, rfl, fa, ha, r1⟩, _⟩ := (rx.own (fun i z => by cases z) : RepO F g H (.tup xs) x _)
      obtain ⟨⟨b, ws, rfl, fb, hb, r2⟩, _⟩ := (ry.own (fun i z => by cases z) : RepO F g H (.tup ys) y _)
      refine .inr (.inr (.inl ⟨a, b, vs, ws, rfl, rfl, .inl (.inl ha), .inl (.inl hb), by rw [← r1.length, ← r2.length]; exact hl, fun z => ?_, fun _ z => ?_, fun _ _ p hp => ?_⟩))
      · subst z
        have e0 : xs = [] := List.length_eq_zero_iff.mp (by rw [r1.length]; rfl)
        subst e0
        exact h _ rfl F B H _ Ext.refl (S.pop.pop.push ⟨b, ws, rfl, fb, hb, r2⟩)
      · subst z
        have e0 : ys = [] := List.length_eq_zero_iff.mp (by rw [r2.length]; rfl)
        subst e0
        rw [List.append_nil] at h
        exact h _ rfl F B H _ Ext.refl (S.pop.pop.push ⟨a, vs, rfl, fa, ha, r1⟩)
      · obtain ⟨F3, B3, x3, S3⟩ := S.pop.pop.newTF (r1.append r2) hp
        exact h _ rfl F3 B3 _ _ x3 S3
    · cases e
  · exact .inr (.inl (r_addL (W := W) F B H σ ρ T x y dx dy Q res ρ' S e px h))
/-! ### {} -/
theorem Sat.newDict0 {p : Addr} (S : Sat F B g H σ ρ T) (hp : H p = none) : ∃ F' B', Ext F B H F' B' (upd H p (.dK [])) ∧ Sat F' B' g (upd H p (.dK [])) σ ρ ((.ref p, .dk [] []) :: T) := by
  obtain ⟨F3, B3, x3, S3, fp⟩ := S.newF (o := .dK []) hp
  exact ⟨F3, B3, x3, S3.push ⟨p, [], rfl, fp, upd_same, rfl, rfl⟩⟩
theorem v_dict0 {pos : Pos} : VE X g W (.Dict [] [] pos) (ret (.dk [] [])) := .mk pe_dnewK fun F B H σ ρ T Q r ρ' S e px h p hp => by
  cases e
  obtain ⟨F3, B3, x3, S3⟩ := S.newDict0 hp
  exact h _ rfl F3 B3 _ _ x3 S3
/-! ### x[k] = e -/
theorem RepOs.setAt : ∀ {ds : List D} {vs : List V} {f g' : List Addr} {k : Nat} {d : D} {v : V}, RepOs F g H ds vs f → k < ds.length → RepO F g H d v g' → ∃ f' j, RepOs F g H (ds.set k d) (vs.set k v) f' ∧ (f ++ g').Perm (f' ++ j)
  | [], _, _, _, _, _, _, _, l, _ => by simp at l
  | d0 :: ds, _, _, g', 0, d, v, ⟨v0, vs, f1, f2, e1, e2, h1, h2⟩, l, r => by
    subst e1 e2
    refine ⟨g' ++ f2, f1, ⟨v, vs, g', f2, rfl, rfl, r, h2⟩, ?_⟩
    exact ((List.perm_append_comm (l₁ := f1 ++ f2) (l₂ := g')).trans (by rw [← List.append_assoc, List.append_assoc g' f2 f1, List.append_assoc]; exact List.Perm.append_left _ List.perm_append_comm))
  | d0 :: ds, _, _, g', k + 1, d, v, ⟨v0, vs, f1, f2, e1, e2, h1, h2⟩, l, r => by
    subst e1 e2
    obtain ⟨f', j, q1, q2⟩ := RepOs.setAt (k := k) h2 (by simpa using l) r
    exact ⟨f1 ++ f', j, ⟨v0, _, f1, f', rfl, rfl, h1, q1⟩, by rw [List.append_assoc, List.append_assoc]; exact List.Perm.append_left _ q2⟩
theorem Sat.setAt {i j : Nat} {k : Int} {ds : List D} (S : Sat F B g H σ ρ ((v, d) :: T)) (e : ρ[i]? = some (some (.ol ds))) (n : ∀ j, d ≠ .sl j) (hj : ixN ds.length k = some j) :
    ∃ p vs, σ[i]? = some (some (.ref p)) ∧ H p = some (.lst vs) ∧ ixN vs.length k = some j ∧ ∃ F' B', Ext F B H F' B' (upd H p (.lst (vs.set j v))) ∧ Sat F' B' g (upd H p (.lst (vs.set j v))) σ (ρ.set i (some (.ol (ds.set j d)))) T := by
  obtain ⟨v0, hv0, S3⟩ := S.take e rfl
  have hi : i < ρ.length := (List.getElem?_eq_some_iff.mp e).1
  obtain ⟨_, rt⟩ := S3.top
  obtain ⟨p, vs, f3, rfl, _, hp, k5⟩ := (rt.own (fun i z => by cases z) : RepO F g H (.ol ds) v0 _)
  refine ⟨p, vs, hv0, hp, by rw [← k5.length]; exact hj, ?_⟩
  obtain ⟨F3, B3, x3, S4⟩ := Sat.updL (es := [d]) (ws := [v]) (od := []) (ov := []) (nd := ds.set j d) (nv := vs.set j v) rfl (fun x hx => by rw [List.mem_singleton.mp hx]; exact n) S3 hp fun f0 g0 q1 q2 => by
    obtain ⟨w, vs', f1, f2, e1, e2, q3, q4⟩ := q2
    cases e1
    obtain ⟨rfl⟩ := q4.2
    rw [List.append_nil] at e2
    subst e2
    obtain ⟨f', j', q5, q6⟩ := RepOs.setAt q1 (ixN_seq hj).2.1 q3
    exact ⟨f', [], j', q5, ⟨rfl, rfl⟩, by rw [List.append_nil]; exact q6⟩
  exact ⟨F3, B3, x3, S4.putBack (fun j z => by cases z) hi hv0⟩
def stI (i : Nat) (k : D) (d : D) : SM := fun ρ => match k, ρ[i]? with
  | .int k, some (some (.ol ds)) => (match ixN ds.length k with
    | some j => some (.nx, ρ.set i (some (.ol (ds.set j d))))
    | none => none)
  | _, _ => none
/-- the thing d goes to x[k] -/
def mSetD (i : Nat) (mk : M D) (d : D) : SM := fun ρ => match ρ[i]? with
  | some (some (.ol _)) => bndS mk (fun z => stI i z d) ρ
  | _ => none
def mSetI (i : Nat) (mk me : M D) : SM := bndS me fun d0 => bndS (fOwn d0) fun d => mSetD i mk d
theorem bndS_some {α : Type} {m : M α} {k : α → SM} {z : Fl × Env} (e : bndS m k ρ = some z) : (∃ a ρ1, m ρ = some (.ok a, ρ1) ∧ k a ρ1 = some z) ∨ ∃ c fs, m ρ = some (.exc c fs, z.2) ∧ z.1 = .exc c fs := by
  unfold bndS at e
  split at e
  · rename_i a ρ1 e1
    exact .inl ⟨a, ρ1, e1, e⟩
  · rename_i c fs ρ1 e1
    cases e
    exact .inr ⟨c, fs, e1, rfl⟩
  · cases e
theorem sim_setD {i : Nat} {tk : TE} {mk : M D} (hk : SimE g W tk mk) {fl : Fl} {Q : St → Hp → Prop} (S : Sat F B g H σ ρ ((v, d) :: T)) (n : ∀ j, d ≠ .sl j) (e : mSetD i mk d ρ = some (fl, ρ'))
    (px : ∀ c fs, fl = .exc c fs → PX (α := D) g W σ T F B H ρ' (.exc c fs)) (h : fl = .nx → ∀ F' B' H', Ext F B H F' B' H' → Sat F' B' g H' σ ρ' T → Q σ H') : gSub (tVar i) tk rSetL v σ H Q := by
  unfold mSetD at e
  split at e
  · rename_i ds0 e0
    obtain ⟨v0, hv0, f0, r0⟩ := S.get e0 rfl
    refine ⟨v0, hv0, ?_⟩
    rcases bndS_some e with ⟨z, ρ1, e1, e2⟩ | ⟨c, fs, e1, e2⟩
    · refine hk F B H σ ρ _ _ (.ok z) ρ1 S e1 PX.ok fun d' hd F1 B1 H1 w x1 S1 => ?_
      cases hd
      unfold stI at e2
      split at e2
      · rename_i k ds e3
        split at e2
        · rename_i j hj
          cases e2
          obtain ⟨_, rk⟩ := S1.top
          cases rt_int rk
          obtain ⟨p, vs, q1, q2, q3, F2, B2, x2, S2⟩ := S1.pop.setAt e3 n hj
          rw [hv0] at q1
          cases q1
          exact ⟨p, vs, k, j, rfl, rfl, q2, q3, h rfl F2 B2 _ (x1.trans x2) S2⟩
        · cases e2
      · cases e2
    · cases e2
      exact hk F B H σ ρ _ _ (.exc c fs) _ S e1 (px c fs rfl).cons fun d' hd => by cases hd
  · cases e
theorem sim_setI {i : Nat} {te tk : TE} {me mk : M D} (he : SimE g W te me) (hk : SimE g W tk mk) : SimS g W P (tAsg te (gSub (tVar i) tk rSetL)) (mSetI i mk me) := fun F B H σ ρ Dn fl ρ' S e p => by
  refine SimE.bindS he S e p fun d0 ρ1 F1 B1 H1 v e1 x1 S1 => ?_
  rcases bndS_some e1 with ⟨d, ρ2, e2, e3⟩ | ⟨c, fs, e2, e3⟩
  · obtain ⟨d', hd, n, F2, B2, x2, S2⟩ := S1.fOwn e2
    cases hd
    refine sim_setD hk S2 n e3 (fun c fs hf => ?_) fun hf F3 B3 H3 x3 S3 => p.nx hf F3 B3 H3 σ ((x1.trans x2).trans x3) (fun _ _ => rfl) S3
    subst hf
    exact (p.px (α := D)).shift (x1.trans x2)
  · obtain ⟨d', hd, _⟩ := S1.fOwn e2
    cases hd
theorem vs_setI {i : Nat} {x : Str} {k e : Expr} {mk me : M D} {p1 p2 pos : Pos} (hN : X.N[i]? = some x) (hv : Vis X.env.scope x) (hk : VE X g W k mk) (he : VE X g W e me) (hd : (x == ("__debug__" : Str)) = false := by decide) (hcd : (x == ("__classdict__" : Str)) = false := by decide)
    (ha : ∀ v, assign (.Subscript (.Name x p1) k p2) X.env v = (do
      let ov ← holding [v] (eval (.Name x p1) X.env)
      let iv ← holding [v, ov] (eval k X.env)
      standAt p2
      holding [v, ov, iv] (setItem ov iv v)
      release [v, ov, iv] []) := by intro _; rfl)
    (hs : swapsWithSole [.Subscript (.Name x p1) k p2] e pos.line X.env = pure false := by rfl) (hw : swappedStores [.Subscript (.Name x p1) k p2] e X.env = pure none := by rfl) (h1 : (assignEach [.Subscript (.Name x p1) k p2] X.env).map (·.2) = [assign (.Subscript (.Name x p1) k p2) X.env] := by rfl) :
    VS X g W P (.Assign [.Subscript (.Name x p1) k p2] e pos) (mSetI i mk me) := .mk (ps_asg he (pg_sub (pe_var hN hv hd hcd) hk set_list ha) hs hw h1) (sim_setI selfE selfE)
/-- x[j], x[k] = two things -/
def mSw (i : Nat) (k1 k2 : M D) (ms : M (List D)) : SM := bndS (mTup ms) fun d => match d with
  | .tup [a, b] => mSeq (mSetD i k1 a) (mSetD i k2 b)
  | _ => stuckS
theorem mSetD_fl {i : Nat} {mk : M D} {fl : Fl} (e : mSetD i mk d ρ = some (fl, ρ')) : fl = .nx ∨ ∃ c fs, fl = .exc c fs := by
  unfold mSetD at e
  split at e
  · rcases bndS_some e with ⟨z, ρ1, e1, e2⟩ | ⟨c, fs, e1, e2⟩
    · unfold stI at e2
      split at e2
      · split at e2
        · cases e2; exact .inl rfl
        · cases e2
      · cases e2
    · cases e2; exact .inr ⟨c, fs, rfl⟩
  · cases e
theorem sim_sw {i : Nat} {t : TA} {t1 t2 : TE} {ms : M (List D)} {k1 k2 : M D} (ha : SimA g W t ms) (h1 : SimE g W t1 k1) (h2 : SimE g W t2 k2) :
    SimS g W P (tAsg (tTup t) (gTup K 2 (gCons (gSub (tVar i) t1 rSetL) (gCons (gSub (tVar i) t2 rSetL) gNil)))) (mSw i k1 k2 ms) := fun F B H σ ρ Dn fl ρ' S e p => by
  refine SimE.bindS (sim_tup ha) S e p fun d ρ1 F1 B1 H1 v e1 x1 S1 => ?_
  split at e1
  · rename_i a b
    obtain ⟨_, rt⟩ := S1.top
    obtain ⟨⟨q, vs, rfl, fq, hq, r⟩, _⟩ := (rt.own (fun i z => by cases z) : RepO F1 g H1 (.tup [a, b]) v _)
    obtain ⟨v1, vs1, rfl, r1, v2, vs2, rfl, r2, e0⟩ := r
    obtain rfl : vs2 = [] := e0
    have S2 : Sat F1 B1 g H1 σ ρ1 [(v1, a), (v2, b)] := (S1.pop.push r2).push r1
    have na : ∀ j, a ≠ .sl j := fun j z => by rw [z] at r1; exact r1
    have nb : ∀ j, b ≠ .sl j := fun j z => by rw [z] at r2; exact r2
    refine ⟨q, _, rfl, .inl (.inl hq), rfl, v1, _, rfl, ?_⟩
    unfold mSeq at e1
    split at e1
    · rename_i ρ2 e2
      refine sim_setD h1 S2 na e2 (fun c fs hf => by cases hf) fun _ F3 B3 H3 x3 S3 => ⟨v2, [], rfl, ?_⟩
      refine sim_setD h2 S3 nb e1 (fun c fs hf => ?_) fun hf F4 B4 H4 x4 S4 => ⟨rfl, p.nx hf F4 B4 H4 σ ((x1.trans x3).trans x4) (fun _ _ => rfl) S4⟩
      subst hf
      exact (p.px (α := D)).shift (x1.trans x3)
    · rename_i hx
      cases hm : mSetD i k1 a ρ1 with
      | none => rw [hm] at e1; cases e1
      | some z =>
        obtain ⟨fl1, ρ2⟩ := z
        rw [hm] at e1
        cases e1
        rcases mSetD_fl hm with rfl | ⟨c, fs, rfl⟩
        · exact absurd hm (hx _)
        · exact sim_setD h1 S2 na hm (fun c fs hf => by cases hf; exact ((p.px (α := D)).shift x1).cons) fun hf => by cases hf
  · cases e1
theorem vs_sw {i : Nat} {x : Str} {j k : Expr} {es : List Expr} {k1 k2 : M D} {ms : M (List D)} {p1 p2 p3 p4 p5 pt pos : Pos} {kk k6 : Nat} (hc : X.calm = true) (hN : X.N[i]? = some x) (hv : Vis X.env.scope x) (h1 : VE X g W j k1) (h2 : VE X g W k k2) (he : VA X g W es ms) (hd : (x == ("__debug__" : Str)) = false := by decide) (hcd : (x == ("__classdict__" : Str)) = false := by decide)
    (ha : ∀ v, assign (.Subscript (.Name x p1) j p2) X.env v = (do
      let ov ← holding [v] (eval (.Name x p1) X.env)
      let iv ← holding [v, ov] (eval j X.env)
      standAt p2
      holding [v, ov, iv] (setItem ov iv v)
      release [v, ov, iv] []) := by intro _; rfl)
    (hb : ∀ v, assign (.Subscript (.Name x p3) k p4) X.env v = (do
      let ov ← holding [v] (eval (.Name x p3) X.env)
      let iv ← holding [v, ov] (eval k X.env)
      standAt p4
      holding [v, ov, iv] (setItem ov iv v)
      release [v, ov, iv] []) := by intro _; rfl)
    (hs : swapsWithSole [.Tuple [.Subscript (.Name x p1) j p2, .Subscript (.Name x p3) k p4] kk pt] (.Tuple es k6 p5) pos.line X.env = pure false := by rfl) (hw : swappedStores [.Tuple [.Subscript (.Name x p1) j p2, .Subscript (.Name x p3) k p4] kk pt] (.Tuple es k6 p5) X.env = pure none := by rfl)
    (hh : (assignEach [.Tuple [.Subscript (.Name x p1) j p2, .Subscript (.Name x p3) k p4] kk pt] X.env).map (·.2) = [assign (.Tuple [.Subscript (.Name x p1) j p2, .Subscript (.Name x p3) k p4] kk pt) X.env] := by rfl) :
    VS X g W P (.Assign [.Tuple [.Subscript (.Name x p1) j p2, .Subscript (.Name x p3) k p4] kk pt] (.Tuple es k6 p5) pos) (mSw i k1 k2 ms) :=
  .mk (ps_asg (pe_tup he) (pg_tup (n := 2) hc (pgs_cons (pg_sub (pe_var hN hv hd hcd) h1 set_list ha) (pgs_cons (pg_sub (pe_var hN hv hd hcd) h2 set_list hb) pgs_nil))) hs hw hh) (sim_sw selfA selfE selfE)
end
end SV
end
section
set_option Elab.async false
set_option linter.all false
set_option autoImplicit false
set_option maxRecDepth 100000
set_option maxHeartbeats 4000000
namespace SV
open PySem PySem.Spec L2
/-! ### calls with keywords -/
inductive Pk where
  | a (i : Nat) | k (i : Nat) | d (i : Nat)
def pkx {α : Type} (z : α) (pk : List Pk) (ds us ws : List α) : List α := pk.map fun p => match p with
  | .a i => us.getD i z
  | .k i => ws.getD i z
  | .d i => ds.getD i z
theorem vals_getD : ∀ {vs : List V} {us : List Value} (i : Nat), Vals vs us → RelV (vs.getD i .non) (us.getD i .none)
  | _, _, i, .nil => (rfl : (Value.none = Value.none))
  | _, _, 0, .cons r _ => by simpa using r
  | _, _, i + 1, .cons _ t => by simpa using vals_getD i t
theorem pkx_rel {vs ds zs : List V} {us its ws : List Value} (r1 : Vals vs us) (r2 : Vals ds its) (r3 : Vals zs ws) : ∀ pk : List Pk, Vals (pkx .non pk ds vs zs) (pkx .none pk its us ws)
  | [] => .nil
  | .a i :: pk => .cons (vals_getD i r1) (pkx_rel r1 r2 r3 pk)
  | .k i :: pk => .cons (vals_getD i r3) (pkx_rel r1 r2 r3 pk)
  | .d i :: pk => .cons (vals_getD i r2) (pkx_rel r1 r2 r3 pk)
section
variable {K : PySem.W.Frag} {x qual : Str} {params : Arguments} {body : List Stmt} {scope : Scope} {dvs : List V} {kws : List (Str × V)} {f : Addr} {fd : FuncData} {ps : List Str}
/-- a def with defaults, no keyword-only parameters, called with keywords -/
theorem kb_dflt (F : FunD K x qual params body scope dvs kws f fd) (n : Nat) (ks : List Str) (pk : List Pk) (hd : dvs ≠ [])
    (h : ∀ (T : Addr) (kV doc pm : Value) (an : Option Addr) (cdv ct : Value) (us its ws : List Value), us.length = n → its.length = dvs.length → ws.length = ks.length →
      ∃ k, bindArgs (PySem.W.fnOf x qual params body scope (.ref T) kV doc pm an cdv ct) ⟨us, ks.zip ws⟩ = seqItems? (.ref T) >>= k ∧ k (some its.toArray) = pure (ps.zip (pkx .none pk its us ws))) :
    ∃ its : List Value, KBn K fd ps n ks (fun us ws => pkx .none pk its us ws) (fun vs zs => pkx .non pk dvs vs zs) := by
  obtain ⟨oc, od, dV, kV, doc, pm, an, cdv, ct, osl, rfl, lk, hcd, hD, hK⟩ := F.ex
  rcases hD with ⟨e, _⟩ | ⟨_, T, o, its, m, rfl, lT, oT, rT⟩
  · exact absurd e hd
  · refine ⟨its, ⟨fun s us ws X l1 l2 => ?_, fun r1 r2 => pkx_rel r1 rT r2 pk⟩⟩
    obtain ⟨k, e1, e2⟩ := h T kV doc pm an cdv ct us its ws l1 rT.length.symm l2
    refine BindsTo.of_looks fun M => ?_
    rw [e1]
    exact looks_items X lT oT (.of_pure e2)
/-- .. without defaults -/
theorem kb_none (F : FunD K x qual params body scope [] kws f fd) (n : Nat) (ks : List Str) (pk : List Pk)
    (h : ∀ (kV doc pm : Value) (an : Option Addr) (cdv ct : Value) (us ws : List Value), us.length = n → ws.length = ks.length → bindArgs (PySem.W.fnOf x qual params body scope .none kV doc pm an cdv ct) ⟨us, ks.zip ws⟩ = pure (ps.zip (pkx .none pk [] us ws))) :
    ∃ its : List Value, KBn K fd ps n ks (fun us ws => pkx .none pk its us ws) (fun vs zs => pkx .non pk [] vs zs) := by
  obtain ⟨oc, od, dV, kV, doc, pm, an, cdv, ct, osl, rfl, lk, hcd, hD, hK⟩ := F.ex
  rcases hD with ⟨_, rfl⟩ | ⟨e, _⟩
  · exact ⟨[], ⟨fun s us ws X l1 l2 => .of_eq (h kV doc pm an cdv ct us ws l1 l2), fun r1 r2 => pkx_rel r1 .nil r2 pk⟩⟩
  · exact absurd rfl e
end
def tKw (n m : Nat) (sp : Sp) (gV : List V → List V → List V) (E : St → XK) (t tk : TA) : TE := fun σ H Q => t σ H fun vs H1 => tk σ H1 fun zs H2 => vs.length = n ∧ zs.length = m ∧ sp (gV vs zs) H2 Q (E σ)
section
variable {X : Cx} {CX : CXT} {k n : Nat} {f : Addr} {fd : FuncData} {ps ks : List Str} {sp : Sp} {E : St → XK} {x : Str} {p pos : Pos} {e : Expr} {es : List Expr} {kws : List Keyword} {t tk : TA} {g : List Value → List Value → List Value} {gV : List V → List V → List V}
theorem run_kw {pins : List (Addr × Obj)} {σ : St} {H : Hp} {s : Shared} {Q : VK} {us ws : List Value} {vs zs : List V} (Fo : FnOk X.prog X.w X.K X.mg X.base CX k f fd ps sp) (hr : Room k X.A) (hb : KBn X.K fd ps n ks g gV) (hx : PassesAt CX X σ (E σ))
    (I : Inv X pins σ H s) (r : Vals vs us) (rz : Vals zs ws) (l1 : vs.length = n) (l2 : zs.length = ks.length) (h : sp (gV vs zs) H Q (E σ)) : wpAny (model X.prog X.w) X.A (call (.ref f) us (ks.zip ws)) (EP X pins σ Q) X.xe s := by
  have r2 := hb.rel r rz
  refine wpAny_call (codeAny_mono (Fo.run X.A X.stack s H ⟨us, ks.zip ws⟩ (g us ws) (gV vs zs) Q (E σ) hr I.env0 (hb.to s us ws I.kIn (r.length.symm.trans l1) (rz.length.symm.trans l2)) r2 h) fun z s' hq => ?_)
  cases z with
  | ok fl =>
    cases fl with
    | ret u => exact I.after hq
    | next => exact False.elim hq
    | brk => exact False.elim hq
    | cont => exact False.elim hq
  | error e => exact hx pins H s e s' I hq
theorem pe_kw (Fo : FnOk X.prog X.w X.K X.mg X.base CX k f fd ps sp) (hr : Room k X.A) (hg : Gl X x) (hm : X.mg x = some (.ref f)) (hk : PySem.W.keepIn X.K (.ref f) = true) (hb : KBn X.K fd ps n ks g gV) (hx : ∀ σ, PassesAt CX X σ (E σ))
    (ha : PA X (e :: es) t) (hkw : PK X kws tk) (hall : (backToKw pos (keywordEach kws X.env)).all (·.1.isSome) = true := by rfl) (hks : (backToKw pos (keywordEach kws X.env)).filterMap (·.1) = ks := by rfl)
    (hdb : (x == ("__debug__" : Str)) = false := by decide) (he : starEach (e :: es) X.env = (false, eval e X.env) :: starEach es X.env := by rfl)
    (hpl : ((backTo pos (starEach (e :: es) X.env)).any (·.1) || (backToKw pos (keywordEach kws X.env)).any (·.1.isNone)) = false := by rfl) :
    PE X (.Call (.Name x p) (e :: es) kws pos) (tKw n ks.length sp gV E t tk) := ⟨fun pins s σ H Q I h => by
  refine wpAny_Call_Name_kw (ld_glob I hg hm ?_ hdb)
  refine PySem.W.callWith_KW (h₀ := X.base) I.ok.mod.kin hk hall (thn (ha.run pos pins s σ H _ I h) fun us s1 ⟨vs, H1, I1, r, q⟩ => ?_) hpl he
  refine thn (hkw.run pos pins s1 σ H1 _ I1 q) fun ws s2 ⟨zs, H2, I2, rz, l1, l2, q2⟩ => ⟨I2.kIn, ?_⟩
  rw [hks]
  exact run_kw Fo hr hb (hx σ) I2 r rz l1 l2 q2⟩
end
/-- the keywords' values -/
def VK' (X : Cx) (g : Cn) (W : WX) (kws : List Keyword) (m : M (List D)) : Prop := PK X kws (TAof g W m)
def pkOk (pk : List Pk) (n m l : Nat) : Bool := pk.all fun p => match p with
  | .a i => decide (i < n)
  | .k i => decide (i < m)
  | .d i => decide (i < l)
def mCallK (io : List Bool) (f : FM) (dd : List D) (pk : List Pk) (n m : Nat) (a b : M (List D)) : M D := bnd a fun ds => bnd b fun es => bnd (fFrzs es) fun ys => bnd (fFrzs ds) fun xs ρ1 =>
  if (io.all (fun b => !b) = true ∧ io.length = pk.length ∧ xs.length = n) ∧ (ys.length = m ∧ pkOk pk xs.length ys.length dd.length = true) then (match f (pkx .non pk dd xs ys) with
    | some (r, _) => some (r, ρ1)
    | none => none) else none
section
variable {F B : Addr → Prop} {g : Cn} {W : WX} {H : Hp} {σ : St} {ρ ρ' : Env} {T : Tm} {v : V} {d : D} {K : PySem.W.Frag} {X : Cx}
theorem reps_getD : ∀ {ds : List D} {vs : List V} {i : Nat}, Reps F g H ds vs → i < ds.length → Rep F g H (ds.getD i .non) (vs.getD i .non)
  | [], _, _, _, l => by simp at l
  | d :: ds, _, 0, ⟨v, vs, e, r, _⟩, _ => by subst e; simpa using r
  | d :: ds, _, i + 1, ⟨v, vs, e, _, r⟩, l => by subst e; simpa using reps_getD r (by simpa using l)
theorem pkx_reps {dd xs ys : List D} {dv vs ws : List V} (r1 : Reps F g H xs vs) (r2 : Reps F g H dd dv) (r3 : Reps F g H ys ws) : ∀ (pk : List Pk), pkOk pk xs.length ys.length dd.length = true → Reps F g H (pkx .non pk dd xs ys) (pkx .non pk dv vs ws)
  | [], _ => rfl
  | p :: pk, h => by
    unfold pkOk at h
    rw [List.all_cons] at h
    obtain ⟨h1, h2⟩ := Bool.and_eq_true_iff.mp h
    have q := pkx_reps r1 r2 r3 pk h2
    cases p with
    | a i => exact ⟨_, _, rfl, reps_getD r1 (by simpa using h1), q⟩
    | k i => exact ⟨_, _, rfl, reps_getD r3 (by simpa using h1), q⟩
    | d i => exact ⟨_, _, rfl, reps_getD r2 (by simpa using h1), q⟩
theorem sel_none {α : Type} : ∀ {io : List Bool} {vs : List α}, io.all (fun b => !b) = true → sel io vs = []
  | [], _, _ => by unfold sel; rfl
  | true :: _, _, h => by simp at h
  | false :: io, [], _ => by unfold sel; rfl
  | false :: io, v :: vs, h => by
    show sel io vs = []
    exact sel_none (by simpa using h)
theorem sim_kw {f : FM} {io : List Bool} {dd : List D} {dv : List V} {pk : List Pk} {n m : Nat} {t tk : TA} {a b : M (List D)} (hd : dvals dd = some dv) (ha : SimA g W t a) (hb : SimA g W tk b) :
    SimE g W (tKw n m (spV g io f) (fun vs zs => pkx .non pk dv vs zs) (WE W) t tk) (mCallK io f dd pk n m a b) := fun F B H σ ρ T Q res ρ' S e px h => by
  refine ha.bind S e px fun ds ρ1 F1 B1 H1 vs e1 x1 l S1 => ?_
  refine hb.bind S1 e1 ((px.shift x1).more) fun es ρ2 F2 B2 H2 zs e2 x2 l2 S2 => ?_
  rcases bnd_some e2 with ⟨ys, ρ3, e3, e4⟩ | ⟨c, fs, e3, e4⟩
  · obtain ⟨ys', hy, F3, B3, x3, S3, r3⟩ := S2.fFrzs l2 e3
    cases hy
    rcases bnd_some e4 with ⟨xs, ρ4, e5, e6⟩ | ⟨c, fs, e5, e6⟩
    · obtain ⟨xs', hx, F4, B4, x4, S4, r4⟩ := S3.fFrzs l e5
      cases hx
      split at e6
      · rename_i hok
        obtain ⟨⟨ok1, ok2, ok3⟩, ok4, ok5⟩ := hok
        split at e6
        · rename_i r cs e7
          cases e6
          have r3' := Reps.mono (x4.ag S3.fb) _ _ r3
          have rd : Reps F4 g H2 dd dv := dvals_reps hd
          have ra := pkx_reps r4 rd r3' pk ok5
          refine ⟨by rw [← r4.length]; exact ok3, by rw [← r3.length]; exact ok4, ?_⟩
          have S5 : Sat F4 B4 g H2 σ ρ' ((pkx .non pk dv vs zs).zip (pkx .non pk dd xs ys) ++ T) := S4.pushs ra
          have nA2 : ∀ x ∈ (pkx .non pk dv vs zs).zip (pkx .non pk dd xs ys), ∀ i, x.2 ≠ .sl i := fun x hx => ra.nsl _ (List.of_mem_zip (show (x.1, x.2) ∈ _ from hx)).2
          obtain ⟨Bc, S6, kk⟩ := Sat.call nA2 S5
          have es0 : sel io (pkx V.non pk dv vs zs) = [] := sel_none ok1
          have x14 := ((x1.trans x2).trans x3).trans x4
          refine ⟨F4, Bc, pkx .non pk dd xs ys, res, cs, by rw [ok2]; simp [pkx], by rw [ok2]; simp [pkx], ra.nsl, S6, e7, fun d hd F' B' H' v x lc ns S7 => ?_, fun c fs hd F' B' H' cls dx x lc ns S7 xa => ?_⟩
          · rw [es0] at lc S7
            subst hd
            have nr : ∀ i, d ≠ .sl i := fun i z => by
              obtain ⟨_, r5⟩ := S7.top
              rw [z] at r5
              have q : ([] : St)[i]? = some (some v) := r5.1
              simp at q
            obtain ⟨B6, x6, S8⟩ := kk F' B' H' [(v, d)] (fun y hy => by
              rw [List.mem_singleton.mp hy]; exact nr) x (by simpa using S7)
            exact h d rfl F' B6 H' v (x14.trans x6) S8
          · subst hd
            obtain ⟨B6, x6, S8⟩ := kk F' B' H' [] (fun y hy => by simp at hy) x (by rw [es0] at S7; simpa using S7)
            exact px c fs rfl F' B6 H' cls dx (x14.trans x6) S8 xa
        · cases e6
      · cases e6
    · obtain ⟨ds', hd, _⟩ := S3.fFrzs l e5
      cases hd
  · obtain ⟨ds', hd, _⟩ := S2.fFrzs l2 e3
    cases hd
theorem vk_nil : VK' X g W [] mNil := ⟨fun pos pins s σ H Q I h => by
  obtain ⟨F, B, ρ, T, r, ρ', S, e, px, q⟩ := h
  cases e
  exact pk_nil.run pos pins s σ H _ I (show tNil σ H Q from q [] rfl F B H [] Ext.refl rfl S)⟩
theorem vk_cons {nm : Option Str} {e : Expr} {kws : List Keyword} {kp : Pos} {me : M D} {ms : M (List D)} (he : VE X g W e me) (hr : VK' X g W kws ms) : VK' X g W (⟨nm, e, kp⟩ :: kws) (mCons me ms) := ⟨fun pos pins s σ H Q I h => by
  obtain ⟨F, B, ρ, T, r, ρ', S, e1, px, q⟩ := h
  exact (pk_cons he hr).run pos pins s σ H Q I (sim_cons selfE selfA F B H σ ρ T Q r ρ' S e1 px q)⟩
theorem v_callK {k : Nat} {f : Addr} {fd : FuncData} {ps ks : List Str} {io : List Bool} {fm : FM} {dd : List D} {dv : List V} {pk : List Pk} {n : Nat} {gg : List Value → List Value → List Value} {x : Str} {p pos : Pos} {a : Expr} {es : List Expr} {kws : List Keyword} {ms mk : M (List D)} (tk : Takes X W)
    (Fn : FnOk X.prog X.w X.K X.mg X.base (L2.CX X.prog X.w) k f fd ps (spV g io fm)) (hr : Room k X.A) (hg : Gl X x) (hm : X.mg x = some (.ref f)) (hk : PySem.W.keepIn X.K (.ref f) = true) (hb : KBn X.K fd ps n ks gg (fun vs zs => pkx .non pk dv vs zs)) (hd : dvals dd = some dv)
    (ha : VA X g W (a :: es) ms) (hkw : VK' X g W kws mk) (hall : (backToKw pos (keywordEach kws X.env)).all (·.1.isSome) = true := by rfl) (hks : (backToKw pos (keywordEach kws X.env)).filterMap (·.1) = ks := by rfl)
    (hdb : (x == ("__debug__" : Str)) = false := by decide) (he : starEach (a :: es) X.env = (false, eval a X.env) :: starEach es X.env := by rfl)
    (hpl : ((backTo pos (starEach (a :: es) X.env)).any (·.1) || (backToKw pos (keywordEach kws X.env)).any (·.1.isNone)) = false := by rfl) :
    VE X g W (.Call (.Name x p) (a :: es) kws pos) (mCallK io fm dd pk n ks.length ms mk) := .mk (pe_kw Fn hr hg hm hk hb (fun σ => passAt tk σ) ha hkw hall hks hdb he hpl) (sim_kw hd selfA selfA)
end
end SV
end
section
set_option Elab.async false
set_option linter.all false
set_option autoImplicit false
set_option maxRecDepth 100000
set_option maxHeartbeats 4000000
namespace SV
open PySem PySem.Spec L2
/-! ### in short -/
theorem takesF {X : Cx} : Takes X (fun _ _ _ _ => False) := fun _ _ x => by
  obtain ⟨_, _, _, _, _, _, _, _, _, _, _, _, _, _, _, _, z⟩ := x
  exact z.elim
section
variable {X : Cx} {g : Cn} {W : WX} {P : List Nat} {a b c : Expr} {ma mb mc : M D} {na nb : M Bool} {pos : Pos} {es : List Expr} {ms : M (List D)}
theorem w_var (i : Nat) {x : Str} {pos : Pos} (hN : X.N[i]? = some x := by rfl) (hv : Vis X.env.scope x := by first | exact Or.inl rfl | exact Or.inr (Or.inl rfl) | exact Or.inr (Or.inr rfl)) (hd : (x == ("__debug__" : Str)) = false := by decide) (hcd : (x == ("__classdict__" : Str)) = false := by decide) : VE X g W (.Name x pos) (mVar i) := v_var hN hv hd hcd
theorem w_add (ha : VE X g W a ma) (hb : VE X g W b mb) : VE X g W (.BinOp a .Add b pos) (mOp fAddA ma mb) := v_op op_addA r_addA ha hb
theorem w_sub (ha : VE X g W a ma) (hb : VE X g W b mb) : VE X g W (.BinOp a .Sub b pos) (mOp fSub ma mb) := v_op op_sub r_sub ha hb
theorem w_mul (ha : VE X g W a ma) (hb : VE X g W b mb) : VE X g W (.BinOp a .Mult b pos) (mOp fMul ma mb) := v_op op_mul r_mul ha hb
theorem w_div (ha : VE X g W a ma) (hb : VE X g W b mb) : VE X g W (.BinOp a .FloorDiv b pos) (mOp fDiv ma mb) := v_op op_fdivW r_div ha hb
theorem w_mod (ha : VE X g W a ma) (hb : VE X g W b mb) : VE X g W (.BinOp a .Mod b pos) (mOp fMod ma mb) := v_op op_mod r_mod ha hb
theorem w_pow (ha : VE X g W a ma) (hb : VE X g W b mb) : VE X g W (.BinOp a .Pow b pos) (mOp fPow ma mb) := v_op op_pow r_pow ha hb
theorem w_neg (ha : VE X g W a ma) : VE X g W (.UnaryOp .USub a pos) (mUn fNeg ma) := v_un un_neg u_neg ha
theorem w_lt (ha : VE X g W a ma) (hb : VE X g W b mb) : VE X g W (.Compare a [.Lt] [b] pos) (mOp fLt ma mb) := v_cmp op_lt r_lt ha hb (nomark _)
theorem w_le (ha : VE X g W a ma) (hb : VE X g W b mb) : VE X g W (.Compare a [.LtE] [b] pos) (mOp fLe ma mb) := v_cmp op_le r_le ha hb (nomark _)
theorem w_gt (ha : VE X g W a ma) (hb : VE X g W b mb) : VE X g W (.Compare a [.Gt] [b] pos) (mOp fGt ma mb) := v_cmp op_gt r_gt ha hb (nomark _)
theorem w_ge (ha : VE X g W a ma) (hb : VE X g W b mb) : VE X g W (.Compare a [.GtE] [b] pos) (mOp fGe ma mb) := v_cmp op_ge r_ge ha hb (nomark _)
abbrev fEq := fLook2 (gEq false)
abbrev fNe := fLook2 (gEq true)
abbrev fIn := fLook2 (gIn false)
abbrev fNi := fLook2 (gIn true)
abbrev fIx := fLook2 gIx
abbrev fIs := fLook2 (gIsB false)
abbrev fIsn := fLook2 (gIsB true)
theorem w_eq {k : Nat} (hr : Room k X.A) (ha : VE X g W a ma) (hb : VE X g W b mb) : VE X g W (.Compare a [.Eq] [b] pos) (mOp fEq ma mb) := v_cmp (op_eqD hr.units) r_eq ha hb (nomark _)
theorem w_ne {k : Nat} (hr : Room k X.A) (ha : VE X g W a ma) (hb : VE X g W b mb) : VE X g W (.Compare a [.NotEq] [b] pos) (mOp fNe ma mb) := v_cmp (op_neD hr.units) r_ne ha hb (nomark _)
theorem w_in (ha : VE X g W a ma) (hb : VE X g W b mb) (hm : behindInMarks .In b = false := by rfl) : VE X g W (.Compare a [.In] [b] pos) (mOp fIn ma mb) := v_cmp op_in_seq (r_in false) ha hb hm
theorem w_ni (ha : VE X g W a ma) (hb : VE X g W b mb) (hm : behindInMarks .NotIn b = false := by rfl) : VE X g W (.Compare a [.NotIn] [b] pos) (mOp fNi ma mb) := v_cmp op_notIn_seq (r_in true) ha hb hm
theorem w_is (ha : VE X g W a ma) (hb : VE X g W b mb) : VE X g W (.Compare a [.Is] [b] pos) (mOp fIs ma mb) := v_cmp op_isBl r_isB ha hb (nomark _)
theorem w_isn (ha : VE X g W a ma) (hb : VE X g W b mb) : VE X g W (.Compare a [.IsNot] [b] pos) (mOp fIsn ma mb) := v_cmp op_notBl r_notB ha hb (nomark _)
/-- the same as tests -/
theorem t_lt (ha : VE X g W a ma) (hb : VE X g W b mb) : VT X g W (.Compare a [.Lt] [b] pos) (mTb (mOp fLt ma mb)) := vt_cmp op_lt r_lt ha hb (nomark _)
theorem t_le (ha : VE X g W a ma) (hb : VE X g W b mb) : VT X g W (.Compare a [.LtE] [b] pos) (mTb (mOp fLe ma mb)) := vt_cmp op_le r_le ha hb (nomark _)
theorem t_gt (ha : VE X g W a ma) (hb : VE X g W b mb) : VT X g W (.Compare a [.Gt] [b] pos) (mTb (mOp fGt ma mb)) := vt_cmp op_gt r_gt ha hb (nomark _)
theorem t_ge (ha : VE X g W a ma) (hb : VE X g W b mb) : VT X g W (.Compare a [.GtE] [b] pos) (mTb (mOp fGe ma mb)) := vt_cmp op_ge r_ge ha hb (nomark _)
theorem t_eq {k : Nat} (hr : Room k X.A) (ha : VE X g W a ma) (hb : VE X g W b mb) : VT X g W (.Compare a [.Eq] [b] pos) (mTb (mOp fEq ma mb)) := vt_cmp (op_eqD hr.units) r_eq ha hb (nomark _)
theorem t_ne {k : Nat} (hr : Room k X.A) (ha : VE X g W a ma) (hb : VE X g W b mb) : VT X g W (.Compare a [.NotEq] [b] pos) (mTb (mOp fNe ma mb)) := vt_cmp (op_neD hr.units) r_ne ha hb (nomark _)
theorem t_in (ha : VE X g W a ma) (hb : VE X g W b mb) (hm : behindInMarks .In b = false := by rfl) : VT X g W (.Compare a [.In] [b] pos) (mTb (mOp fIn ma mb)) := vt_cmp op_in_seq (r_in false) ha hb hm
theorem t_ni (ha : VE X g W a ma) (hb : VE X g W b mb) (hm : behindInMarks .NotIn b = false := by rfl) : VT X g W (.Compare a [.NotIn] [b] pos) (mTb (mOp fNi ma mb)) := vt_cmp op_notIn_seq (r_in true) ha hb hm
theorem t_is (ha : VE X g W a ma) (hb : VE X g W b mb) : VT X g W (.Compare a [.Is] [b] pos) (mTb (mOp fIs ma mb)) := vt_cmp op_isBl r_isB ha hb (nomark _)
theorem t_isn (ha : VE X g W a ma) (hb : VE X g W b mb) : VT X g W (.Compare a [.IsNot] [b] pos) (mTb (mOp fIsn ma mb)) := vt_cmp op_notBl r_notB ha hb (nomark _)
/-- the built-in calls -/
abbrev fLen := fC1 (fLook gLen)
abbrev fInt := fC1 (fLook gInt)
abbrev fAbs := fC1 (fLook gAbs)
abbrev fMin2 := fC2 (fLook2 gMin2)
abbrev fMax2 := fC2 (fLook2 gMax2)
abbrev fTup := fC1 fTupOf
abbrev fLst := fC1 fLstOf
variable {p : Pos}
theorem w_len (hK : g.K = X.K) (hg : Gl X "len") (hm : X.mg "len" = none) (ha : VA X g W (a :: es) ms) (he : starEach (a :: es) X.env = (false, eval a X.env) :: starEach es X.env := by rfl) (hpl : (backTo pos (starEach es X.env)).any (·.1) = false := by rfl) : VE X g W (.Call (.Name "len" p) (a :: es) [] pos) (mCB fLen ms) := v_bi call_len (c_len hK) hg hm boot_len ha (by decide) (by decide) he hpl
theorem w_abs (hg : Gl X "abs") (hm : X.mg "abs" = none) (ha : VA X g W (a :: es) ms) (he : starEach (a :: es) X.env = (false, eval a X.env) :: starEach es X.env := by rfl) (hpl : (backTo pos (starEach es X.env)).any (·.1) = false := by rfl) : VE X g W (.Call (.Name "abs" p) (a :: es) [] pos) (mCB fAbs ms) := v_bi call_abs c_abs hg hm PyProof.Rows.boot_abs ha (by decide) (by decide) he hpl
theorem w_min (hc : X.calm = true) (hg : Gl X "min") (hm : X.mg "min" = none) (ha : VA X g W (a :: es) ms) (he : starEach (a :: es) X.env = (false, eval a X.env) :: starEach es X.env := by rfl) (hpl : (backTo pos (starEach es X.env)).any (·.1) = false := by rfl) : VE X g W (.Call (.Name "min" p) (a :: es) [] pos) (mCB fMin2 ms) := v_bi (call_min2 hc) c_min2 hg hm PyProof.Rows.boot_min ha (by decide) (by decide) he hpl
theorem w_max (hc : X.calm = true) (hg : Gl X "max") (hm : X.mg "max" = none) (ha : VA X g W (a :: es) ms) (he : starEach (a :: es) X.env = (false, eval a X.env) :: starEach es X.env := by rfl) (hpl : (backTo pos (starEach es X.env)).any (·.1) = false := by rfl) : VE X g W (.Call (.Name "max" p) (a :: es) [] pos) (mCB fMax2 ms) := v_bi (call_max2 hc) c_max2 hg hm PyProof.Rows.boot_max ha (by decide) (by decide) he hpl
theorem w_int (hg : Gl X "int") (hm : X.mg "int" = none) (ha : VA X g W (a :: es) ms) (he : starEach (a :: es) X.env = (false, eval a X.env) :: starEach es X.env := by rfl) (hpl : (backTo pos (starEach es X.env)).any (·.1) = false := by rfl) : VE X g W (.Call (.Name "int" p) (a :: es) [] pos) (mCB fInt ms) := v_ty call_int1 c_int hg hm PyProof.Rows.boot_int ha (by decide) (by decide) he hpl
theorem w_tuple (hg : Gl X "tuple") (hm : X.mg "tuple" = none) (ha : VA X g W (a :: es) ms) (he : starEach (a :: es) X.env = (false, eval a X.env) :: starEach es X.env := by rfl) (hpl : (backTo pos (starEach es X.env)).any (·.1) = false := by rfl) : VE X g W (.Call (.Name "tuple" p) (a :: es) [] pos) (mCB fTup ms) := v_ty call_tuple_of c_tuple hg hm PyProof.Rows.boot_tuple ha (by decide) (by decide) he hpl
theorem w_list (hg : Gl X "list") (hm : X.mg "list" = none) (ha : VA X g W (a :: es) ms) (he : starEach (a :: es) X.env = (false, eval a X.env) :: starEach es X.env := by rfl) (hpl : (backTo pos (starEach es X.env)).any (·.1) = false := by rfl) : VE X g W (.Call (.Name "list" p) (a :: es) [] pos) (mCB fLst ms) := v_ty call_list_of c_list hg hm PyProof.Rows.boot_list ha (by decide) (by decide) he hpl
theorem w_ix (ha : VE X g W a ma) (hb : VE X g W b mb) (hs : PlainIx b := by intro _ _; rfl) : VE X g W (.Subscript a b pos) (mOp fIx ma mb) := v_ix ha hb hs

variable {x : Str} {p1 p2 apos cpos : Pos} {e : Expr}
theorem w_append (i : Nat) (ha : VA X g W (e :: es) ms) (hN : X.N[i]? = some x := by rfl) (hv : Vis X.env.scope x := by first | exact Or.inl rfl | exact Or.inr (Or.inl rfl) | exact Or.inr (Or.inr rfl)) (hd : (x == ("__debug__" : Str)) = false := by decide) (hcd : (x == ("__classdict__" : Str)) = false := by decide)
    (hbase : attributeBase (.Name x p1) "append" X.env (eval (.Name x p1) X.env) = eval (.Name x p1) X.env := by rfl)
    (hfew : ((backTo cpos (starEach (e :: es) X.env)).all (fun x => !x.1) && (backToKw cpos (keywordEach [] X.env)).all (fun x => x.1.isSome) && decide ((e :: es).length + ([] : List Keyword).length + (if ([] : List Keyword).isEmpty then 0 else 1) < 30)) = true := by rfl)
    (hline : (apos.endLine == cpos.line) = true := by rfl) (hs : starEach (e :: es) X.env = (false, eval e X.env) :: starEach es X.env := by rfl) (hplain : (backTo cpos (starEach es X.env)).any (·.1) = false := by rfl) :
    VE X g W (.Call (.Attribute (.Name x p1) "append" apos) (e :: es) [] cpos) (mLM lAppend i ms) := .mk (pe_bm PySem.F.plainAttrs_list PySem.F.slot_list_append PySem.F.type_list_append mt_append (pe_var hN hv hd hcd) ha hbase hfew hline hs hplain) (sim_LM lr_append i selfA)
theorem w_insert (i : Nat) (ha : VA X g W (e :: es) ms) (hN : X.N[i]? = some x := by rfl) (hv : Vis X.env.scope x := by first | exact Or.inl rfl | exact Or.inr (Or.inl rfl) | exact Or.inr (Or.inr rfl)) (hd : (x == ("__debug__" : Str)) = false := by decide) (hcd : (x == ("__classdict__" : Str)) = false := by decide)
    (hbase : attributeBase (.Name x p1) "insert" X.env (eval (.Name x p1) X.env) = eval (.Name x p1) X.env := by rfl)
    (hfew : ((backTo cpos (starEach (e :: es) X.env)).all (fun x => !x.1) && (backToKw cpos (keywordEach [] X.env)).all (fun x => x.1.isSome) && decide ((e :: es).length + ([] : List Keyword).length + (if ([] : List Keyword).isEmpty then 0 else 1) < 30)) = true := by rfl)
    (hline : (apos.endLine == cpos.line) = true := by rfl) (hs : starEach (e :: es) X.env = (false, eval e X.env) :: starEach es X.env := by rfl) (hplain : (backTo cpos (starEach es X.env)).any (·.1) = false := by rfl) :
    VE X g W (.Call (.Attribute (.Name x p1) "insert" apos) (e :: es) [] cpos) (mLM lInsert i ms) := .mk (pe_bm PySem.F.plainAttrs_list PySem.F.slot_list_insert PySem.F.type_list_insert mt_insert (pe_var hN hv hd hcd) ha hbase hfew hline hs hplain) (sim_LM lr_insert i selfA)
theorem mt_pop2 : MtR X "list.pop" (fun x vs H Q => rPop x vs H Q ∨ rPopAt x vs H Q) := by
  intro pins s σ H y xs v us Q I r1 r2 h
  rcases h with h | h
  · exact mt_pop pins s σ H y xs v us Q I r1 r2 h
  · exact mt_popAt pins s σ H y xs v us Q I r1 r2 h
theorem w_pop (i : Nat) (ha : VA X g W (e :: es) ms) (hN : X.N[i]? = some x := by rfl) (hv : Vis X.env.scope x := by first | exact Or.inl rfl | exact Or.inr (Or.inl rfl) | exact Or.inr (Or.inr rfl)) (hd : (x == ("__debug__" : Str)) = false := by decide) (hcd : (x == ("__classdict__" : Str)) = false := by decide)
    (hbase : attributeBase (.Name x p1) "pop" X.env (eval (.Name x p1) X.env) = eval (.Name x p1) X.env := by rfl)
    (hfew : ((backTo cpos (starEach (e :: es) X.env)).all (fun x => !x.1) && (backToKw cpos (keywordEach [] X.env)).all (fun x => x.1.isSome) && decide ((e :: es).length + ([] : List Keyword).length + (if ([] : List Keyword).isEmpty then 0 else 1) < 30)) = true := by rfl)
    (hline : (apos.endLine == cpos.line) = true := by rfl) (hs : starEach (e :: es) X.env = (false, eval e X.env) :: starEach es X.env := by rfl) (hplain : (backTo cpos (starEach es X.env)).any (·.1) = false := by rfl) :
    VE X g W (.Call (.Attribute (.Name x p1) "pop" apos) (e :: es) [] cpos) (mLM lPop i ms) := .mk (pe_bm PySem.F.plainAttrs_list PySem.F.slot_list_pop PySem.F.type_list_pop mt_pop2 (pe_var hN hv hd hcd) ha hbase hfew hline hs hplain) (sim_LM lr_pop i selfA)
theorem va_c (ha : VE X g W a ma) (hr : VA X g W es ms) (hs : starEach (a :: es) X.env = (false, eval a X.env) :: starEach es X.env := by rfl) : VA X g W (a :: es) (mCons ma ms) := va_cons ha hr hs
theorem vss_stuck {st : List Stmt} : VSs X g W P st stuckS := ⟨fun pins s σ H D I h => by
  obtain ⟨F, B, ρ, fl, ρ', S, e, p⟩ := h
  cases e⟩
end
/-! ### exception classes -/
theorem oexB_ok {K : PySem.W.Frag} {C : Addr} (h : oexB K C = true) : OexC K C := by
  obtain ⟨h1, h⟩ := Bool.and_eq_true_iff.mp h
  obtain ⟨h2, h⟩ := Bool.and_eq_true_iff.mp h
  obtain ⟨h3, h⟩ := Bool.and_eq_true_iff.mp h
  obtain ⟨h4, h5⟩ := Bool.and_eq_true_iff.mp h
  refine ⟨?_, of_decide_eq_true h2, of_decide_eq_true h3, of_decide_eq_true h4, h5⟩
  split at h1
  · rename_i t dd cd sl lk
    split at h1
    · rename_i C' bm k0 k1 k2 k3 n k5 e1 e2
      obtain ⟨q0, h1⟩ := Bool.and_eq_true_iff.mp h1
      obtain ⟨q1, h1⟩ := Bool.and_eq_true_iff.mp h1
      obtain ⟨q2, h1⟩ := Bool.and_eq_true_iff.mp h1
      obtain ⟨q3, h1⟩ := Bool.and_eq_true_iff.mp h1
      obtain ⟨q4, q5⟩ := Bool.and_eq_true_iff.mp h1
      have q0 := of_decide_eq_true q0
      have q1 := of_decide_eq_true q1
      have q2 := of_decide_eq_true q2
      subst q0 q1 q2
      obtain ⟨nm, bs, mro, ns, qn, hd, sn, sub, ab, col, del⟩ := cd
      dsimp only at e1 q3 q4
      have q3 : del = false := by simpa using q3
      subst e1 q3 q4
      have hsl : sl = #[k0, k1, k2, k3, some (.builtin "ValueError.__new__"), k5] := by
        obtain ⟨l⟩ := sl
        simp only at e2
        rw [e2]
      subst hsl
      exact ⟨nm, qn, ns, bs, bm, sn, sub, ab, col, dd, k0, k1, k2, k3, k5, lk, q5⟩
    · cases h1
  · cases h1
structure ExF (K : PySem.W.Frag) (x : Str) (ns : List Str) : Prop where
  oex : OexC K (He.ga K x)
  ini : PySem.W.findIn K (.ref (He.ga K x)) "__init__" = some (some (.ref (He.ma K (He.ga K x) "__init__")))
  tyI : PySem.W.typeIn K (.ref (He.ma K (He.ga K x) "__init__")) = some (.type "function")
  xf : XfC K (He.ga K x)
  no : ∀ n ∈ ns, PySem.W.findIn K (.ref (He.ga K x)) n = some none
theorem exFB_ok {K : PySem.W.Frag} {x : Str} {ns : List Str} (h : exFB K x ns = true) : ExF K x ns := by
  obtain ⟨h1, h⟩ := Bool.and_eq_true_iff.mp h
  obtain ⟨h2, h⟩ := Bool.and_eq_true_iff.mp h
  obtain ⟨h3, h⟩ := Bool.and_eq_true_iff.mp h
  obtain ⟨h4, h5⟩ := Bool.and_eq_true_iff.mp h
  exact ⟨oexB_ok h1, of_decide_eq_true h2, of_decide_eq_true h3, xfB_ok h4, fun n hn => of_decide_eq_true (List.all_eq_true.mp h5 n hn)⟩
theorem exmTab_ok {K : PySem.W.Frag} {l : List ((Str × Str) × Bool)} (h : exmTab K l = true) {c c2 : Str} {b : Bool} (e : l.lookup (c, c2) = some b) : PySem.W.exmOne K (.ref (He.ga K c)) (.ref (He.ga K c2)) = some b := by
  have key : ∀ {l : List ((Str × Str) × Bool)} {k : Str × Str}, l.lookup k = some b → (k, b) ∈ l := by
    intro l k
    induction l with
    | nil => intro z; cases z
    | cons q r ih =>
      obtain ⟨k2, b2⟩ := q
      intro z
      unfold List.lookup at z
      split at z
      · rename_i z2
        cases z
        rw [beq_iff_eq.mp z2]
        exact List.mem_cons_self
      · exact List.mem_cons_of_mem _ (ih z)
  exact of_decide_eq_true (List.all_eq_true.mp h _ (key e))
/-! ### the law -/
theorem reps_ints {F : Addr → Prop} {g : Cn} {H : Hp} : ∀ ns : List Int, Reps F g H (ns.map D.int) (ns.map V.int)
  | [] => rfl
  | n :: ns => ⟨.int n, ns.map V.int, rfl, rfl, reps_ints ns⟩
theorem law_sp {K : PySem.W.Frag} {mg : Str → Option Value} {f : FM} {n : Nat} (hf : ∀ ns : List Int, ns.length ≤ n → f [.fz (ns.map D.int)] = some (.ok (.bl true), [])) (H : Hp) (a : Addr) (ns : List Int) (hl : ns.length ≤ n) (hO : Only H) (hS : SqL K H a (ns.map V.int)) :
    spV (cn mg K) [false] f [.ref a] H (fun v _ => v = .bl true) fun _ _ _ => False := by
  refine ⟨fun b => b = a ∧ ∃ o, H a = some o, fun b => b = a ∧ ∃ o, H a = some o, [.fz (ns.map D.int)], .ok (.bl true), [], rfl, rfl, ?_, ?_, hf ns hl, ?_, fun c fs h => by cases h⟩
  · intro d hd i
    rw [List.mem_singleton.mp hd]
    intro z
    cases z
  · refine ⟨⟨[], [], rfl, ⟨[], [], rfl, ⟨⟨a, ns.map V.int, rfl, ?_, reps_ints ns⟩, rfl⟩, rfl⟩, List.nodup_nil, fun b hb => by simp at hb⟩, fun _ h => h, fun b ⟨e, o, h⟩ => ⟨o, by rw [e]; exact h⟩⟩
    rcases hS with (h | ⟨o, h⟩) | h
    · rcases hO a with z | ⟨o, xs, z⟩
      · rw [z] at h; cases h
      · rw [z] at h; cases h
    · exact .inl ⟨⟨rfl, _, h⟩, o, h⟩
    · exact .inr h
  · intro d hd F' B' H' v _ _ _ S
    cases hd
    obtain ⟨_, r⟩ := S.top
    exact rt_bl r
end SV
end
section
set_option Elab.async false
set_option linter.all false
set_option autoImplicit false
set_option maxRecDepth 100000
set_option maxHeartbeats 4000000
namespace SV
open PySem PySem.Spec L2
def mNotT (a : M D) : M D := bnd (mTru a) fun k => ret (.bl (!k))
section
variable {X : Cx} {g : Cn} {W : WX} {P : List Nat} {a : Expr} {ma : M D} {pos : Pos} {K : PySem.W.Frag}
theorem sim_notT {t : TE} (ha : SimE g W t ma) : SimE g W (tNotT K t) (mNotT ma) := fun F B H σ ρ T Q r ρ' S e px h => by
  refine SimT.bind (sim_tru (K := K) ha) S e px fun d ρ1 F1 B1 H1 e1 x1 S1 => ?_
  cases e1
  exact h _ rfl F1 B1 H1 _ x1 (S1.push rfl)
theorem w_not (ha : VE X g W a ma) : VE X g W (.UnaryOp .Not a pos) (mNotT ma) := .mk (pe_notT ha) (sim_notT selfE)
theorem sub_of {mg : Str → Option Value} {TAB : List ((Str × Str) × Bool)} {XN : List Str} (h : exmTab K TAB = true) (hx : ∀ c ∈ XN, mg c = some (.ref (He.ga K c))) (hn : TAB.all (fun q => XN.contains q.1.1 && XN.contains q.1.2) = true) :
    ∀ (c c2 : Str) (b : Bool) (C C2 : Addr), TAB.lookup (c, c2) = some b → mg c = some (.ref C) → mg c2 = some (.ref C2) → PySem.W.exmOne K (.ref C) (.ref C2) = some b := by
  intro c c2 b C C2 e h1 h2
  have key : ∀ {l : List ((Str × Str) × Bool)} {k : Str × Str}, l.lookup k = some b → (k, b) ∈ l := by
    intro l k
    induction l with
    | nil => intro z; cases z
    | cons q r ih =>
      obtain ⟨k2, b2⟩ := q
      intro z
      unfold List.lookup at z
      split at z
      · rename_i z2
        cases z
        rw [beq_iff_eq.mp z2]
        exact List.mem_cons_self
      · exact List.mem_cons_of_mem _ (ih z)
  obtain ⟨n1, n2⟩ := Bool.and_eq_true_iff.mp (List.all_eq_true.mp hn _ (key e))
  have q1 := hx c (by simpa using n1)
  have q2 := hx c2 (by simpa using n2)
  rw [h1] at q1
  rw [h2] at q2
  cases q1
  cases q2
  exact exmTab_ok h e
theorem xf_of {mg : Str → Option Value} {XL : List (Str × List Str)} {ok : List Str} {n : Str} (h : ∀ q ∈ XL, ExF K q.1 q.2) (hx : ∀ q ∈ XL, mg q.1 = some (.ref (He.ga K q.1))) (hn : ok.all (fun c => XL.any fun q => decide (q.1 = c) && q.2.contains n) = true) :
    ∀ (c : Str) (C : Addr), c ∈ ok → mg c = some (.ref C) → XfC K C ∧ PySem.W.findIn K (.ref C) n = some none := by
  intro c C hc hm
  obtain ⟨q, hq, h2⟩ := List.any_eq_true.mp (List.all_eq_true.mp hn c hc)
  obtain ⟨e1, e2⟩ := Bool.and_eq_true_iff.mp h2
  have e1 := of_decide_eq_true e1
  subst e1
  have q1 := hx q hq
  rw [hm] at q1
  cases q1
  exact ⟨(h q hq).xf, (h q hq).no n (by simpa using e2)⟩
/-- a def's args are all bound, or defaults fill up -/
structure Bd (K : PySem.W.Frag) (fd : FuncData) (ps : List Str) (dv : List V) : Prop where
  ex : ∃ dus : List Value, Vals dv dus ∧ Binds K fd ps dus
theorem w_call {k k2 : Nat} {f : Addr} {fd : FuncData} {ps : List Str} {io : List Bool} {fm : FM} {dd : List D} {dv : List V} {x : Str} {p pos : Pos} {a : Expr} {es : List Expr} {ms : M (List D)} (tk : Takes X W) (hr : Room k2 X.A)
    (Fn : FnOk X.prog X.w X.K X.mg X.base (L2.CX X.prog X.w) k f fd ps (spV g io fm)) (hb : Bd X.K fd ps dv) (hm : X.mg x = some (.ref f)) (hk : PySem.W.keepIn X.K (.ref f) = true)
    (ha : VA X g W (a :: es) ms) (hd : dvals dd = some dv := by rfl) (hkk : k ≤ k2 := by decide) (hg : Gl X x := by rfl) (hdb : (x == ("__debug__" : Str)) = false := by decide) (he : starEach (a :: es) X.env = (false, eval a X.env) :: starEach es X.env := by rfl) (hpl : (backTo pos (starEach es X.env)).any (·.1) = false := by rfl) :
    VE X g W (.Call (.Name x p) (a :: es) [] pos) (mCall io fm dd ms) := by
  obtain ⟨dus, h1, h2⟩ := hb.ex
  exact v_call tk Fn (hr.mono hkk) hg hm hk h2 h1 hd ha hdb he hpl
structure Bk (K : PySem.W.Frag) (fd : FuncData) (ps : List Str) (n : Nat) (ks : List Str) (pk : List Pk) (dv : List V) : Prop where
  ex : ∃ gg : List Value → List Value → List Value, KBn K fd ps n ks gg (fun vs zs => pkx .non pk dv vs zs)
theorem w_callK {k k2 : Nat} {f : Addr} {fd : FuncData} {ps ks : List Str} {io : List Bool} {fm : FM} {dd : List D} {dv : List V} {pk : List Pk} {n : Nat} {x : Str} {p pos : Pos} {a : Expr} {es : List Expr} {kws : List Keyword} {ms mk : M (List D)} (tk : Takes X W) (hr : Room k2 X.A)
    (Fn : FnOk X.prog X.w X.K X.mg X.base (L2.CX X.prog X.w) k f fd ps (spV g io fm)) (hb : Bk X.K fd ps n ks pk dv) (hm : X.mg x = some (.ref f)) (hk : PySem.W.keepIn X.K (.ref f) = true)
    (ha : VA X g W (a :: es) ms) (hkw : VK' X g W kws mk) (hd : dvals dd = some dv := by rfl) (hkk : k ≤ k2 := by decide) (hg : Gl X x := by rfl) (hall : (backToKw pos (keywordEach kws X.env)).all (·.1.isSome) = true := by rfl) (hks : (backToKw pos (keywordEach kws X.env)).filterMap (·.1) = ks := by rfl)
    (hdb : (x == ("__debug__" : Str)) = false := by decide) (he : starEach (a :: es) X.env = (false, eval a X.env) :: starEach es X.env := by rfl)
    (hpl : ((backTo pos (starEach (a :: es) X.env)).any (·.1) || (backToKw pos (keywordEach kws X.env)).any (·.1.isNone)) = false := by rfl) :
    VE X g W (.Call (.Name x p) (a :: es) kws pos) (mCallK io fm dd pk n ks.length ms mk) := by
  obtain ⟨gg, h⟩ := hb.ex
  exact v_callK tk Fn (hr.mono hkk) hg hm hk h hd ha hkw hall hks hdb he hpl
end
section
variable {P : Program} {w : World} {K : PySem.W.Frag} {mg : Str → Option Value} {base : Heap} {N : List Str} {qual : Str} {scope : Scope} {f : Addr} {cd : Value} {A : Around} {outer : List PySem.Env} {s : Shared} {H : Hp} {E : XK}
theorem tk_def : Takes (cxOf (L2.CX P w) P w K mg base N qual scope f cd A outer s H E) (fun cls d _ H' => E cls d H') := takes_of rfl rfl rfl rfl
theorem ps_def : PassesOwn (model P w) (cxOf (L2.CX P w) P w K mg base N qual scope f cd A outer s H E).A (cxOf (L2.CX P w) P w K mg base N qual scope f cd A outer s H E).env (cxOf (L2.CX P w) P w K mg base N qual scope f cd A outer s H E).xe := passes_of rfl
end
end SV
end
section
set_option Elab.async false
set_option linter.all false
set_option autoImplicit false
set_option maxRecDepth 100000
set_option maxHeartbeats 4000000
namespace SV
open PySem PySem.Spec L2
def blkB (N : List Str) (sc scope : Scope) (own : List (Str × Nat)) : Bool :=
  decide (scope.kind = .function) && ((scope.names.all fun y => decide (scope.names.lookup y.1 = some y.2)) && ((own.all fun p => decide (N[p.2]? = some p.1)) &&
    ((scope.names.all fun y => !decide (y.2 = .free) || (decide (sc.names.lookup y.1 = some .cell) || decide (sc.names.lookup y.1 = some .free))) &&
      (scope.names.all fun y => !(decide (y.2 = .local) || decide (y.2 = .cell)) || ((own.map (·.1)).contains y.1 || !N.contains y.1)))))
theorem blk_ok {N : List Str} {sc scope : Scope} {own : List (Str × Nat)} (h : blkB N sc scope own = true) : BlkOk N sc scope own := by
  obtain ⟨h1, h⟩ := Bool.and_eq_true_iff.mp h
  obtain ⟨h2, h⟩ := Bool.and_eq_true_iff.mp h
  obtain ⟨h3, h⟩ := Bool.and_eq_true_iff.mp h
  obtain ⟨h4, h5⟩ := Bool.and_eq_true_iff.mp h
  refine ⟨of_decide_eq_true h1, fun y hy => of_decide_eq_true (List.all_eq_true.mp h2 y hy), fun p hp => of_decide_eq_true (List.all_eq_true.mp h3 p hp), fun y hy e => ?_, fun y hy e => ?_⟩
  · have q := List.all_eq_true.mp h4 y hy
    simpa [e] using q
  · have q := List.all_eq_true.mp h5 y hy
    rcases e with e | e <;> simpa [e] using q
theorem butP_no {n i : Nat} {vs : List Nat} (h : vs.contains i = true) : i ∉ butP n vs := fun z => by
  have q := List.mem_filter.mp z
  simp at h q
  exact q.2 h
end SV
end
section
set_option Elab.async false
set_option linter.all false
set_option autoImplicit false
set_option maxRecDepth 100000
set_option maxHeartbeats 4000000
namespace SV
open PySem PySem.Spec PyProof.Rows L2
/-- the law's end: its def in the value layer -/
theorem law_walk {l : PySem.W.OpenLaw} {n k : Nat} {q : Program} {loose : List Str} {XP : (Str → Option Value) → Heap → Prop} {YP : World → Heap → Prop} {d : DefRec} {x : Str} (hn : l.most = some n) (hn2 : n ≤ sizeLine) (hdf : d.params.defaults = []) (hr : Room k callerA)
    (G0 : ∀ (w : World) (mg : Str → Option Value) (fa : Addr) (h : Heap), YP w h → h.Ns mainGlobals mg → mg d.name = some (.ref fa) →
      ∃ (K : PySem.W.Frag) (fd : FuncData) (sp : Sp), K.In h ∧ (∀ (s : Shared) (u : Value), BindsTo s fd ⟨[u], []⟩ [(x, u)]) ∧ (∀ (H : Hp) (a : Addr) (ns : List Int), ns.length ≤ n → Only H → SqL K H a (ns.map V.int) → sp [.ref a] H (fun v _ => v = .bl true) fun _ _ _ => False) ∧
        ∀ base : Heap, K.In base → base.Ns mainGlobals mg → FnOk l.prog w K mg base (L2.CX l.prog w) k fa fd [x] sp) :
    PySem.W.WalkO q loose XP YP l.row.toRowW d [] (fun f vs => PySem.call f vs) := Att.attach_call hn hdf fun w s₀ s₁ mg mb fa o pm cd doc a vs ns G Y ho hd hcd hmg hobj hints hlen hg => by
  obtain ⟨K, fd, sp, KX, hb, hsp, hF⟩ := G0 w mg fa _ Y G.T.g hmg
  refine law_call KX G.T.g G.T.b G.T.builtins G.T.nolimit hg hobj hints (Nat.le_trans hlen hn2) hr hF hb (fun H hO hS => hsp H a ns hlen hO hS) fun H e s' z => ?_
  obtain ⟨_, _, _, _, _, _, _, _, _, _, _, _, z⟩ := z
  exact z
theorem fd_uniq {K : PySem.W.Frag} {x qual : Str} {params : Arguments} {body : List Stmt} {scope : Scope} {dvs : List V} {kws : List (Str × V)} {f : Addr} {fd fd2 : FuncData} (h : FunD K x qual params body scope dvs kws f fd) (h2 : FunD K x qual params body scope dvs kws f fd2) : fd = fd2 := by
  obtain ⟨oc, od, dV, kV, doc, pm, an, cdv, ct, osl, _, lk, _⟩ := h.ex
  obtain ⟨oc2, od2, dV2, kV2, doc2, pm2, an2, cdv2, ct2, osl2, _, lk2, _⟩ := h2.ex
  rw [lk] at lk2
  injection lk2 with e
  injection e with e1 e2 e3 e4
  injection e3
end SV
end
section
set_option Elab.async false
set_option linter.all false
set_option autoImplicit false
set_option maxRecDepth 100000
set_option maxHeartbeats 4000000
namespace SV
open PySem PySem.Spec L2
/-! ### what a reckoning ends in -/
def Ev {α : Type} (m : M α) (ρ : Env) (Q : Res α → Env → Prop) : Prop := ∃ r ρ', m ρ = some (r, ρ') ∧ Q r ρ'
def Es (s : SM) (ρ : Env) (Q : Fl → Env → Prop) : Prop := ∃ fl ρ', s ρ = some (fl, ρ') ∧ Q fl ρ'
def Ef (f : FM) (ds : List D) (Q : Res D → List D → Prop) : Prop := ∃ r cs, f ds = some (r, cs) ∧ Q r cs
def onOk {α β : Type} (Q : Res β → Env → Prop) (k : α → Env → Prop) : Res α → Env → Prop := fun r ρ => match r with
  | .ok a => k a ρ
  | .exc c fs => Q (.exc c fs) ρ
def onOkS {α : Type} (Q : Fl → Env → Prop) (k : α → Env → Prop) : Res α → Env → Prop := fun r ρ => match r with
  | .ok a => k a ρ
  | .exc c fs => Q (.exc c fs) ρ
def onNx (Q k : Fl → Env → Prop) : Fl → Env → Prop := fun fl ρ => match fl with
  | .nx => k .nx ρ
  | x => Q x ρ
section
variable {α β : Type} {ρ ρ1 : Env} {Q : Res α → Env → Prop} {R : Res β → Env → Prop} {QS : Fl → Env → Prop} {QD : Res D → Env → Prop} {QB : Res Bool → Env → Prop} {QL : Res (List D) → Env → Prop}
theorem onOk_ok {k : α → Env → Prop} {a : α} : onOk R k (.ok a) ρ = k a ρ := rfl
theorem onOk_exc {k : α → Env → Prop} {c : Str} {fs : List (Str × D)} : onOk (α := α) R k (.exc c fs) ρ = R (.exc c fs) ρ := rfl
theorem onOkS_ok {k : α → Env → Prop} {a : α} : onOkS QS k (.ok a) ρ = k a ρ := rfl
theorem onOkS_exc {k : α → Env → Prop} {c : Str} {fs : List (Str × D)} : onOkS (α := α) QS k (.exc c fs) ρ = QS (.exc c fs) ρ := rfl
theorem onNx_nx {k : Fl → Env → Prop} : onNx QS k .nx ρ = k .nx ρ := rfl
theorem onNx_ret {k : Fl → Env → Prop} {d : D} : onNx QS k (.ret d) ρ = QS (.ret d) ρ := rfl
theorem onNx_brk {k : Fl → Env → Prop} : onNx QS k .brk ρ = QS .brk ρ := rfl
theorem onNx_ct {k : Fl → Env → Prop} : onNx QS k .ct ρ = QS .ct ρ := rfl
theorem onNx_exc {k : Fl → Env → Prop} {c : Str} {fs : List (Str × D)} : onNx QS k (.exc c fs) ρ = QS (.exc c fs) ρ := rfl
theorem ev_ret {a : α} : Ev (ret a) ρ Q = Q (.ok a) ρ := by
  refine propext ⟨fun ⟨r, ρ', e, q⟩ => ?_, fun q => ⟨_, _, rfl, q⟩⟩
  cases e; exact q
theorem ev_bnd {m : M α} {k : α → M β} : Ev (bnd m k) ρ R = Ev m ρ (onOk R fun a ρ1 => Ev (k a) ρ1 R) := by
  refine propext ⟨fun ⟨r, ρ', e, q⟩ => ?_, fun ⟨r, ρ', e, q⟩ => ?_⟩
  · rcases bnd_some e with ⟨a, ρ1, e1, e2⟩ | ⟨c, fs, e1, e2⟩
    · exact ⟨_, _, e1, _, _, e2, q⟩
    · refine ⟨_, _, e1, ?_⟩
      have e2 : r = .exc c fs := e2
      rw [e2] at q
      exact q
  · cases r with
    | ok a =>
      obtain ⟨r2, ρ2, e2, q2⟩ := q
      exact ⟨r2, ρ2, by rw [bnd_ok e]; exact e2, q2⟩
    | exc c fs => exact ⟨_, _, by unfold bnd; rw [e], q⟩
theorem es_bndS {m : M α} {k : α → SM} : Es (bndS m k) ρ QS = Ev m ρ (onOkS QS fun a ρ1 => Es (k a) ρ1 QS) := by
  refine propext ⟨fun ⟨r, ρ', e, q⟩ => ?_, fun ⟨r, ρ', e, q⟩ => ?_⟩
  · rcases bndS_some e with ⟨a, ρ1, e1, e2⟩ | ⟨c, fs, e1, e2⟩
    · exact ⟨_, _, e1, _, _, e2, q⟩
    · refine ⟨_, _, e1, ?_⟩
      have e2 : r = .exc c fs := e2
      rw [e2] at q
      exact q
  · cases r with
    | ok a =>
      obtain ⟨r2, ρ2, e2, q2⟩ := q
      exact ⟨r2, ρ2, by unfold bndS; rw [e]; exact e2, q2⟩
    | exc c fs => exact ⟨_, _, by unfold bndS; rw [e], q⟩
theorem es_end {fl : Fl} : Es (endS fl) ρ QS = QS fl ρ := by
  refine propext ⟨fun ⟨r, ρ', e, q⟩ => ?_, fun q => ⟨_, _, rfl, q⟩⟩
  cases e; exact q
theorem es_seq {a b : SM} : Es (mSeq a b) ρ QS = Es a ρ (onNx QS fun _ ρ1 => Es b ρ1 QS) := by
  refine propext ⟨fun ⟨r, ρ', e, q⟩ => ?_, fun ⟨r, ρ', e, q⟩ => ?_⟩
  · unfold mSeq at e
    split at e
    · rename_i ρ1 e1
      exact ⟨_, _, e1, _, _, e, q⟩
    · rename_i x hx
      refine ⟨_, _, e, ?_⟩
      cases r with
      | nx => exact absurd e (hx _)
      | _ => exact q
  · cases r with
    | nx =>
      obtain ⟨r2, ρ2, e2, q2⟩ := q
      exact ⟨r2, ρ2, by unfold mSeq; rw [e]; exact e2, q2⟩
    | _ => exact ⟨_, _, by unfold mSeq; rw [e], q⟩
theorem ev_var {i : Nat} {d : D} (h : ρ[i]? = some (some d)) (o : d.own = false) (x : d.isX = false) : Ev (mVar i) ρ QD = QD (.ok d) ρ := by
  have e : mVar i ρ = some (.ok d, ρ) := by unfold mVar; rw [h]; simp [o, x]
  refine propext ⟨fun ⟨r, ρ', e1, q⟩ => ?_, fun q => ⟨_, _, e, q⟩⟩
  rw [e] at e1; cases e1; exact q
theorem ev_varO {i : Nat} {d : D} (h : ρ[i]? = some (some d)) (o : d.own = true) : Ev (mVar i) ρ QD = QD (.ok (.sl i)) ρ := by
  have e : mVar i ρ = some (.ok (.sl i), ρ) := by unfold mVar; rw [h]; simp [o]
  refine propext ⟨fun ⟨r, ρ', e1, q⟩ => ?_, fun q => ⟨_, _, e, q⟩⟩
  rw [e] at e1; cases e1; exact q
/-- a reckoning that is known -/
theorem ev_of {m : M α} {r : Res α} (e : m ρ = some (r, ρ1)) : Ev m ρ Q = Q r ρ1 := by
  refine propext ⟨fun ⟨r, ρ', e1, q⟩ => ?_, fun q => ⟨_, _, e, q⟩⟩
  rw [e] at e1; cases e1; exact q
theorem es_of {s : SM} {fl : Fl} (e : s ρ = some (fl, ρ1)) : Es s ρ QS = QS fl ρ1 := by
  refine propext ⟨fun ⟨r, ρ', e1, q⟩ => ?_, fun q => ⟨_, _, e, q⟩⟩
  rw [e] at e1; cases e1; exact q
theorem ev_ite {c : Prop} [Decidable c] {a b : M α} : Ev (if c then a else b) ρ Q = if c then Ev a ρ Q else Ev b ρ Q := by split <;> rfl
theorem es_ite {c : Prop} [Decidable c] {a b : SM} : Es (if c then a else b) ρ QS = if c then Es a ρ QS else Es b ρ QS := by split <;> rfl
theorem ev_add {i j : Int} : Ev (fAddA (.int i) (.int j)) ρ QD = QD (.ok (.int (i + j))) ρ := ev_of rfl
theorem ev_II {p : Int → Int → Bool} {g : Int → Int → D} {i j : Int} (h : p i j = true) : Ev (fII p g (.int i) (.int j)) ρ QD = QD (.ok (g i j)) ρ := ev_of (by unfold fII; simp [h, ret])
theorem ev_neg {i : Int} : Ev (fNeg (.int i)) ρ QD = QD (.ok (.int (-i))) ρ := ev_of rfl
theorem ev_look {g : D → Option D} {d x y : D} (h : dr ρ d = some x) (e : g x = some y) : Ev (fLook g d) ρ QD = QD (.ok y) ρ := ev_of (by unfold fLook; simp [h, e])
theorem ev_look2 {g : D → D → Option D} {d d2 x x2 y : D} (h : dr ρ d = some x) (h2 : dr ρ d2 = some x2) (e : g x x2 = some y) : Ev (fLook2 g d d2) ρ QD = QD (.ok y) ρ := ev_of (by unfold fLook2; simp [h, h2, e])
theorem ev_tru {a : M D} : Ev (mTru a) ρ QB = Ev a ρ (onOk QB fun d ρ1 => ∃ x b, dr ρ1 d = some x ∧ x.tru = some b ∧ QB (.ok b) ρ1) := by
  unfold mTru
  rw [ev_bnd]
  congr 1
  funext r ρ1
  cases r with
  | exc c fs => rfl
  | ok d =>
    rw [onOk_ok, onOk_ok]
    refine propext ⟨fun ⟨r, ρ', e1, q⟩ => ?_, fun ⟨x, b, h1, h2, q⟩ => ⟨_, _, by simp [h1, h2], q⟩⟩
    dsimp only at e1
    split at e1
    · rename_i x hx
      split at e1
      · rename_i b hb
        cases e1
        exact ⟨x, b, hx, hb, q⟩
      · cases e1
    · cases e1
theorem ev_frz {d : D} (h : ∀ i, d ≠ .sl i) : Ev (fFrz d) ρ QD = QD (.ok d.frz) ρ := ev_of (by unfold fFrz; split <;> first | rfl | exact absurd rfl (h _))
theorem ev_frzS {i : Nat} {c : D} (h : ρ[i]? = some (some c)) (x : c.isX = false) : Ev (fFrz (.sl i)) ρ QD = QD (.ok c.frz) (ρ.set i (some c.frz)) := ev_of (by unfold fFrz; simp [h, x])
theorem ev_mv {d : D} (h : ∀ i, d ≠ .sl i) : Ev (fMove d) ρ QD = QD (.ok d) ρ := ev_of (by unfold fMove; split <;> first | rfl | exact absurd rfl (h _))
theorem ev_mvS {i : Nat} {c : D} (h : ρ[i]? = some (some c)) (x : c.isX = false) : Ev (fMove (.sl i)) ρ QD = QD (.ok c) (ρ.set i none) := ev_of (by unfold fMove; simp [h, x])
theorem ev_own {d : D} (h : ∀ i, d ≠ .sl i) : Ev (fOwn d) ρ QD = QD (.ok d) ρ := ev_of (by unfold fOwn; split <;> first | rfl | exact absurd rfl (h _))
theorem ev_ownS {i : Nat} : Ev (fOwn (.sl i)) ρ QD = Ev (fFrz (.sl i)) ρ QD := rfl
theorem ev_call {io : List Bool} {f : FM} {dd : List D} {a : M (List D)} : Ev (mCall io f dd a) ρ QD = Ev a ρ (onOk QD fun ds ρ1 => Ev (fPreps io ds) ρ1 (onOk QD fun xs ρ2 => ioOk io ds.length dd.length = true ∧ Ef f (xs ++ dd) fun r cs => ∃ ρ3, callBack io ds cs ρ2 = some ρ3 ∧ QD r ρ3)) := by
  unfold mCall
  rw [ev_bnd]
  congr 1
  funext r ρ1
  cases r with
  | exc c fs => rfl
  | ok ds =>
    show Ev (bnd _ _) ρ1 QD = Ev _ ρ1 _
    rw [ev_bnd]
    congr 1
    funext r ρ2
    cases r with
    | exc c fs => rfl
    | ok xs =>
      rw [onOk_ok, onOk_ok]
      refine propext ⟨fun ⟨r, ρ', e1, q⟩ => ?_, fun ⟨h, r, cs, e, ρ3, e2, q⟩ => ⟨r, ρ3, by simp [h, e, e2], q⟩⟩
      dsimp only at e1
      split at e1
      · rename_i h
        split at e1
        · rename_i r2 cs e2
          split at e1
          · rename_i ρ3 e3
            cases e1
            exact ⟨h, r, cs, e2, ρ', e3, q⟩
          · cases e1
        · cases e1
      · cases e1
theorem ef_fun {n : Nat} {io : List Bool} {body : SM} {ds : List D} {Q : Res D → List D → Prop} (h : Es body (startE n ds) fun fl ρ => ∃ cs, ioGet io ρ = some cs ∧ match fl with
    | .ret d => Q (.ok d) cs
    | .nx => Q (.ok .non) cs
    | .exc c fs => Q (.exc c fs) cs
    | _ => False) : Ef (funM n io body) ds Q := by
  obtain ⟨fl, ρ, e, cs, e2, q⟩ := h
  unfold Ef funM
  cases fl with
  | ret d => exact ⟨_, _, by simp [e, e2], q⟩
  | nx => exact ⟨_, _, by simp [e, e2], q⟩
  | exc c fs => exact ⟨_, _, by simp [e, e2], q⟩
  | brk => exact q.elim
  | ct => exact q.elim
theorem Ev.imp {m : M α} {Q' : Res α → Env → Prop} (h : Ev m ρ Q) (i : ∀ r ρ1, Q r ρ1 → Q' r ρ1) : Ev m ρ Q' := let ⟨r, ρ', e, q⟩ := h; ⟨r, ρ', e, i _ _ q⟩
theorem Es.imp {s : SM} {Q' : Fl → Env → Prop} (h : Es s ρ QS) (i : ∀ r ρ1, QS r ρ1 → Q' r ρ1) : Es s ρ Q' := let ⟨r, ρ', e, q⟩ := h; ⟨r, ρ', e, i _ _ q⟩
theorem Ef.imp {f : FM} {ds : List D} {Q Q' : Res D → List D → Prop} (h : Ef f ds Q) (i : ∀ r cs, Q r cs → Q' r cs) : Ef f ds Q' := let ⟨r, ρ', e, q⟩ := h; ⟨r, ρ', e, i _ _ q⟩
/-- a for -/
def onBody (Q : Fl → Env → Prop) (k : Env → Prop) : Fl → Env → Prop := fun fl ρ => match fl with
  | .nx => k ρ
  | .ct => k ρ
  | .brk => Q .nx ρ
  | .ret d => Q (.ret d) ρ
  | .exc c fs => Q (.exc c fs) ρ
theorem onBody_nx {k : Env → Prop} : onBody QS k .nx ρ = k ρ := rfl
theorem onBody_ct {k : Env → Prop} : onBody QS k .ct ρ = k ρ := rfl
theorem onBody_brk {k : Env → Prop} : onBody QS k .brk ρ = QS .nx ρ := rfl
theorem onBody_ret {k : Env → Prop} {d : D} : onBody QS k (.ret d) ρ = QS (.ret d) ρ := rfl
theorem onBody_exc {k : Env → Prop} {c : Str} {fs : List (Str × D)} : onBody QS k (.exc c fs) ρ = QS (.exc c fs) ρ := rfl
theorem es_for {f : D → Env → Option Env} {body : SM} (I : List D → Env → Prop) (he : ∀ ρ, I [] ρ → QS .nx ρ) (hs : ∀ d ds ρ, I (d :: ds) ρ → ∃ ρ1, f d ρ = some ρ1 ∧ Es body ρ1 (onBody QS (I ds))) : ∀ (ds : List D) (ρ : Env), I ds ρ → Es (forL f body ds) ρ QS
  | [], ρ, h => ⟨_, _, rfl, he ρ h⟩
  | d :: ds, ρ, h => by
    obtain ⟨ρ1, e1, fl, ρ2, e2, q⟩ := hs d ds ρ h
    have nxt : ∀ ρ2, I ds ρ2 → Es (forL f body ds) ρ2 QS := es_for I he hs ds
    cases fl with
    | nx =>
      obtain ⟨fl3, ρ3, e3, q3⟩ := nxt _ q
      exact ⟨fl3, ρ3, by unfold forL; simp only [e1, e2]; exact e3, q3⟩
    | ct =>
      obtain ⟨fl3, ρ3, e3, q3⟩ := nxt _ q
      exact ⟨fl3, ρ3, by unfold forL; simp only [e1, e2]; exact e3, q3⟩
    | brk => exact ⟨_, _, by unfold forL; simp only [e1, e2], q⟩
    | ret d => exact ⟨_, _, by unfold forL; simp only [e1, e2], q⟩
    | exc c fs => exact ⟨_, _, by unfold forL; simp only [e1, e2], q⟩
/-- a while: n is enough -/
theorem es_while {c : M Bool} {body : SM} (I : Nat → Env → Prop) (hs : ∀ k ρ, I k ρ → Ev c ρ (onOkS QS fun b ρ1 => if b = true then 0 < k ∧ Es body ρ1 (onBody QS (I (k - 1))) else QS .nx ρ1)) : ∀ (n k : Nat) (ρ : Env), k < n → I k ρ → Es (whL c body n) ρ QS
  | 0, k, ρ, h, _ => absurd h (Nat.not_lt_zero k)
  | n + 1, k, ρ, h, i => by
    unfold whL
    rw [es_bndS]
    refine (hs k ρ i).imp fun r ρ1 q => ?_
    cases r with
    | exc c fs => exact q
    | ok b =>
      cases b with
      | false => rw [onOkS_ok] at *; simp at q ⊢; exact ⟨_, _, rfl, q⟩
      | true =>
        rw [onOkS_ok] at *
        rw [if_pos rfl] at *
        obtain ⟨hk, fl, ρ2, e2, q⟩ := q
        have nxt : ∀ ρ2, I (k - 1) ρ2 → Es (whL c body n) ρ2 QS := fun ρ2 z => es_while I hs n (k - 1) ρ2 (by omega) z
        cases fl with
        | nx =>
          obtain ⟨fl3, ρ3, e3, q3⟩ := nxt _ q
          exact ⟨fl3, ρ3, by simp only [e2]; exact e3, q3⟩
        | ct =>
          obtain ⟨fl3, ρ3, e3, q3⟩ := nxt _ q
          exact ⟨fl3, ρ3, by simp only [e2]; exact e3, q3⟩
        | brk => exact ⟨_, _, by simp only [e2], q⟩
        | ret d => exact ⟨_, _, by simp only [e2], q⟩
        | exc c fs => exact ⟨_, _, by simp only [e2], q⟩
/-- a comprehension -/
theorem ev_lc {m : M (List D)} {f : D → Env → Option Env} {tt : M Bool} {el : M D} {vs : List Nat} (I : List D → List D → Env → Prop) (h : Ev m ρ (onOk QD fun ds ρ1 => I ds [] (wipeE ρ1 vs) ∧ ds.length ≤ lim)) (he : ∀ acc ρ, I [] acc ρ → QD (.ok (.ol acc)) ρ)
    (hs : ∀ d ds acc ρ, I (d :: ds) acc ρ → ∃ ρ1, f d ρ = some ρ1 ∧ Ev tt ρ1 (fun r ρ2 => ∃ b, r = .ok b ∧ if b = true then Ev el ρ2 (fun r ρ3 => ∃ y, r = .ok y ∧ Ev (fOwn y) ρ3 fun r ρ4 => ∃ z, r = .ok z ∧ I ds (acc ++ [z]) (wipeE ρ4 vs)) else I ds acc (wipeE ρ2 vs))) :
    Ev (mLc m f tt el vs) ρ QD := by
  unfold mLc
  rw [ev_bnd]
  refine h.imp fun r ρ1 q => ?_
  cases r with
  | exc c fs => exact q
  | ok ds =>
    have key : ∀ (ds acc : List D) (ρ : Env), acc.length + ds.length ≤ lim → I ds acc ρ → ∃ acc2 ρ2, lcL f tt el vs ds acc ρ = some (acc2, ρ2) ∧ QD (.ok (.ol acc2)) ρ2 := by
      intro ds
      induction ds with
      | nil => exact fun acc ρ _ i => ⟨acc, ρ, rfl, he _ _ i⟩
      | cons d ds ih =>
        intro acc ρ hl i
        obtain ⟨ρ1, e1, r, ρ2, e2, b, rfl, q⟩ := hs d ds acc ρ i
        cases b with
        | false =>
          obtain ⟨a2, ρ3, e3, q3⟩ := ih acc _ (by simp at hl; omega) q
          exact ⟨a2, ρ3, by unfold lcL; simp only [e1, e2]; exact e3, q3⟩
        | true =>
          rw [if_pos rfl] at q
          obtain ⟨_, ρ3, e3, y, rfl, _, ρ4, e4, z, rfl, q⟩ := q
          obtain ⟨a2, ρ5, e5, q5⟩ := ih (acc ++ [z]) _ (by simp at hl ⊢; omega) q
          refine ⟨a2, ρ5, ?_, q5⟩
          have eb : bnd el fOwn ρ2 = some (.ok z, ρ4) := by rw [bnd_ok e3]; exact e4
          unfold lcL
          simp only [e1, e2, eb]
          rw [if_pos True.intro, if_pos (by simp at hl; omega)]
          exact e5
    obtain ⟨i, hl⟩ := q
    obtain ⟨a2, ρ2, e2, q2⟩ := key ds [] _ (by simpa using hl) i
    exact ⟨_, _, by simp only [e2], q2⟩
/-- try -/
theorem es_try {sub : Str → Str → Option Bool} {body : SM} {hs : List (Str × Option Nat × SM)} : Es (mTry sub body hs) ρ QS = Es body ρ fun fl ρ1 => match fl with
    | .exc c fs => Es (hdGo sub c fs hs) ρ1 QS
    | x => QS x ρ1 := by
  refine propext ⟨fun ⟨r, ρ', e, q⟩ => ?_, fun ⟨r, ρ', e, q⟩ => ?_⟩
  · unfold mTry at e
    split at e
    · rename_i c fs ρ1 e1
      exact ⟨_, _, e1, _, _, e, q⟩
    · rename_i x hx
      refine ⟨_, _, e, ?_⟩
      cases r with
      | exc c fs => exact absurd e (hx _ _ _)
      | _ => exact q
  · cases r with
    | exc c fs =>
      obtain ⟨r2, ρ2, e2, q2⟩ := q
      exact ⟨r2, ρ2, by unfold mTry; rw [e]; exact e2, q2⟩
    | _ => exact ⟨_, _, by unfold mTry; rw [e], q⟩
end
end SV
end
section
set_option Elab.async false
set_option linter.all false
set_option autoImplicit false
set_option maxRecDepth 100000
set_option maxHeartbeats 4000000
namespace SV
open PySem PySem.Spec L2
section
variable {α β : Type} {ρ ρ1 : Env} {QS : Fl → Env → Prop} {QD : Res D → Env → Prop} {QB : Res Bool → Env → Prop} {QL : Res (List D) → Env → Prop}
/-! ### .. reckoned by rewriting -/
def ofO {α : Type} (Q : Res α → Env → Prop) : Option (Res α × Env) → Prop
  | some (r, ρ1) => Q r ρ1
  | none => False
theorem ofO_s {Q : Res α → Env → Prop} {r : Res α} : ofO Q (some (r, ρ)) = Q r ρ := rfl
theorem ofO_n {Q : Res α → Env → Prop} : ofO Q none = False := rfl
theorem Ev.eqn {m : M α} {Q : Res α → Env → Prop} : Ev m ρ Q = ofO Q (m ρ) := by
  refine propext ⟨fun ⟨r, ρ', e1, q⟩ => by rw [e1]; exact q, fun q => ?_⟩
  cases h : m ρ with
  | none => rw [h] at q; exact False.elim q
  | some z => rw [h] at q; exact ⟨_, _, h, q⟩
theorem k_var {i : Nat} : Ev (mVar i) ρ QD = (match ρ[i]? with
  | some (some d) => if d.own = true then QD (.ok (.sl i)) ρ else if d.isX = true then False else QD (.ok d) ρ
  | _ => False) := by
  rw [Ev.eqn]
  unfold mVar
  cases h : ρ[i]? with
  | none => simp [ofO_s, ofO_n]
  | some o =>
    cases o with
    | none => simp [ofO_s, ofO_n]
    | some d =>
      cases h1 : d.own <;> cases h2 : d.isX <;> simp [ofO_s, ofO_n, h1, h2]
theorem k_look {g : D → Option D} {d : D} : Ev (fLook g d) ρ QD = (match dr ρ d with
  | some x => (match g x with
    | some y => QD (.ok y) ρ
    | none => False)
  | none => False) := by
  rw [Ev.eqn]
  unfold fLook
  cases h : dr ρ d with
  | none => simp [ofO_n]
  | some x => cases h2 : g x <;> simp [ofO_s, ofO_n, h2]
theorem k_look2 {g : D → D → Option D} {d d2 : D} : Ev (fLook2 g d d2) ρ QD = (match dr ρ d with
  | some x => (match dr ρ d2 with
    | some y => (match g x y with
      | some z => QD (.ok z) ρ
      | none => False)
    | none => False)
  | none => False) := by
  rw [Ev.eqn]
  unfold fLook2
  cases h : dr ρ d with
  | none => simp [ofO_n]
  | some x =>
    cases h1 : dr ρ d2 with
    | none => simp [ofO_n]
    | some y => cases h2 : g x y <;> simp [ofO_s, ofO_n, h2]
theorem k_II {p : Int → Int → Bool} {g : Int → Int → D} {i j : Int} : Ev (fII p g (.int i) (.int j)) ρ QD = (p i j = true ∧ QD (.ok (g i j)) ρ) := by
  rw [Ev.eqn]
  unfold fII
  cases h : p i j <;> simp [h, ret, stuck, ofO]
theorem k_st {i : Nat} {d : D} : Es (stS i d) ρ QS = (i < ρ.length ∧ QS .nx (ρ.set i (some d))) := by
  refine propext ⟨fun ⟨r, ρ', e1, q⟩ => ?_, fun ⟨h, q⟩ => ⟨_, _, by unfold stS; rw [if_pos h], q⟩⟩
  unfold stS at e1
  split at e1
  · rename_i h; cases e1; exact ⟨h, q⟩
  · cases e1
theorem k_mv {d : D} (h : ∀ i, d ≠ .sl i) : Ev (fMove d) ρ QD = QD (.ok d) ρ := ev_mv h
theorem k_mvS {i : Nat} : Ev (fMove (.sl i)) ρ QD = (match ρ[i]? with
  | some (some c) => if c.isX = true then False else QD (.ok c) (ρ.set i none)
  | _ => False) := by
  rw [Ev.eqn]
  unfold fMove
  cases h : ρ[i]? with
  | none => simp [h, ofO_n]
  | some o =>
    cases o with
    | none => simp [h, ofO_n]
    | some d => cases h2 : d.isX <;> simp [h, ofO_s, ofO_n, h2]
theorem k_frzS {i : Nat} : Ev (fFrz (.sl i)) ρ QD = (match ρ[i]? with
  | some (some c) => if c.isX = true then False else QD (.ok c.frz) (ρ.set i (some c.frz))
  | _ => False) := by
  rw [Ev.eqn]
  unfold fFrz
  cases h : ρ[i]? with
  | none => simp [h, ofO_n]
  | some o =>
    cases o with
    | none => simp [h, ofO_n]
    | some d => cases h2 : d.isX <;> simp [h, ofO_s, ofO_n, h2]
/-- owned and frozen, what is no slot's -/
theorem k_mv_int {i : Int} : Ev (fMove (.int i)) ρ QD = QD (.ok (.int i)) ρ := ev_of rfl
theorem k_mv_bl {i : Bool} : Ev (fMove (.bl i)) ρ QD = QD (.ok (.bl i)) ρ := ev_of rfl
theorem k_mv_non : Ev (fMove .non) ρ QD = QD (.ok .non) ρ := ev_of rfl
theorem k_mv_str {i : Str} : Ev (fMove (.str i)) ρ QD = QD (.ok (.str i)) ρ := ev_of rfl
theorem k_mv_tup {xs : List D} : Ev (fMove (.tup xs)) ρ QD = QD (.ok (.tup xs)) ρ := ev_of rfl
theorem k_mv_lst {xs : List D} : Ev (fMove (.lst xs)) ρ QD = QD (.ok (.lst xs)) ρ := ev_of rfl
theorem k_mv_ol {xs : List D} : Ev (fMove (.ol xs)) ρ QD = QD (.ok (.ol xs)) ρ := ev_of rfl
theorem k_mv_fz {xs : List D} : Ev (fMove (.fz xs)) ρ QD = QD (.ok (.fz xs)) ρ := ev_of rfl
theorem k_mv_dk {ks xs} : Ev (fMove (.dk ks xs)) ρ QD = QD (.ok (.dk ks xs)) ρ := ev_of rfl
theorem k_own_int {i : Int} : Ev (fOwn (.int i)) ρ QD = QD (.ok (.int i)) ρ := ev_of rfl
theorem k_own_bl {i : Bool} : Ev (fOwn (.bl i)) ρ QD = QD (.ok (.bl i)) ρ := ev_of rfl
theorem k_own_non : Ev (fOwn .non) ρ QD = QD (.ok .non) ρ := ev_of rfl
theorem k_own_str {i : Str} : Ev (fOwn (.str i)) ρ QD = QD (.ok (.str i)) ρ := ev_of rfl
theorem k_own_tup {xs : List D} : Ev (fOwn (.tup xs)) ρ QD = QD (.ok (.tup xs)) ρ := ev_of rfl
theorem k_own_lst {xs : List D} : Ev (fOwn (.lst xs)) ρ QD = QD (.ok (.lst xs)) ρ := ev_of rfl
theorem k_own_ol {xs : List D} : Ev (fOwn (.ol xs)) ρ QD = QD (.ok (.ol xs)) ρ := ev_of rfl
theorem k_own_dk {ks xs} : Ev (fOwn (.dk ks xs)) ρ QD = QD (.ok (.dk ks xs)) ρ := ev_of rfl
theorem k_own_sl {i : Nat} : Ev (fOwn (.sl i)) ρ QD = Ev (fFrz (.sl i)) ρ QD := rfl
theorem k_frz_int {i : Int} : Ev (fFrz (.int i)) ρ QD = QD (.ok (.int i)) ρ := ev_of rfl
theorem k_frz_bl {i : Bool} : Ev (fFrz (.bl i)) ρ QD = QD (.ok (.bl i)) ρ := ev_of rfl
theorem k_frz_non : Ev (fFrz .non) ρ QD = QD (.ok .non) ρ := ev_of rfl
theorem k_frz_str {i : Str} : Ev (fFrz (.str i)) ρ QD = QD (.ok (.str i)) ρ := ev_of rfl
theorem k_frz_tup {xs : List D} : Ev (fFrz (.tup xs)) ρ QD = QD (.ok (.tup xs)) ρ := ev_of rfl
theorem k_frz_lst {xs : List D} : Ev (fFrz (.lst xs)) ρ QD = QD (.ok (.lst xs)) ρ := ev_of rfl
theorem k_frz_fz {xs : List D} : Ev (fFrz (.fz xs)) ρ QD = QD (.ok (.fz xs)) ρ := ev_of rfl
theorem k_frz_ol {xs : List D} : Ev (fFrz (.ol xs)) ρ QD = QD (.ok (.lst (D.frzs xs))) ρ := ev_of rfl
theorem k_frz_dk {ks xs} : Ev (fFrz (.dk ks xs)) ρ QD = QD (.ok (.dk ks xs)) ρ := ev_of rfl
theorem k_prepT {d : D} : fPrep true d = fMove d := rfl
theorem k_prepF {d : D} : fPrep false d = fFrz d := rfl
theorem k_preps_nil {io : List Bool} : Ev (fPreps io []) ρ QL = QL (.ok []) ρ := by cases io <;> exact ev_of rfl
theorem k_preps {b : Bool} {io : List Bool} {d : D} {ds : List D} : Ev (fPreps (b :: io) (d :: ds)) ρ QL = Ev (fPrep b d) ρ (onOk QL fun x ρ1 => Ev (fPreps io ds) ρ1 (onOk QL fun xs ρ2 => QL (.ok (x :: xs)) ρ2)) := by
  show Ev (bnd _ _) ρ QL = _
  simp only [ev_bnd, ev_ret]
theorem k_owns_nil : Ev (fOwns []) ρ QL = QL (.ok []) ρ := ev_of rfl
theorem k_owns {d : D} {ds : List D} : Ev (fOwns (d :: ds)) ρ QL = Ev (fOwn d) ρ (onOk QL fun x ρ1 => Ev (fOwns ds) ρ1 (onOk QL fun xs ρ2 => QL (.ok (x :: xs)) ρ2)) := by
  show Ev (bnd _ _) ρ QL = _
  simp only [ev_bnd, ev_ret]
theorem k_frzs_nil : Ev (fFrzs []) ρ QL = QL (.ok []) ρ := ev_of rfl
theorem k_frzs {d : D} {ds : List D} : Ev (fFrzs (d :: ds)) ρ QL = Ev (fFrz d) ρ (onOk QL fun x ρ1 => Ev (fFrzs ds) ρ1 (onOk QL fun xs ρ2 => QL (.ok (x :: xs)) ρ2)) := by
  show Ev (bnd _ _) ρ QL = _
  simp only [ev_bnd, ev_ret]
theorem k_stuck {m : Res α → Env → Prop} : Ev (stuck : M α) ρ m = False := propext ⟨fun ⟨_, _, e, _⟩ => (nomatch e), fun h => False.elim h⟩
theorem k_stuckS : Es stuckS ρ QS = False := propext ⟨fun ⟨_, _, e, _⟩ => (nomatch e), fun h => False.elim h⟩
/-- x.append(..) and the like -/
theorem k_LM {f : LMeth} {i : Nat} {a : M (List D)} : Ev (mLM f i a) ρ QD = ((∃ ds, ρ[i]? = some (some (.ol ds))) ∧ Ev a ρ (onOk QD fun es ρ1 => Ev (fOwns es) ρ1 (onOk QD fun xs ρ2 => ∃ ds nd y, ρ2[i]? = some (some (.ol ds)) ∧ f ds xs = some (nd, y) ∧ QD (.ok y) (ρ2.set i (some (.ol nd)))))) := by
  have key : ∀ {ρ : Env}, Ev (bnd a fun es => bnd (fOwns es) fun xs ρ1 => match ρ1[i]? with
    | some (some (.ol ds)) => (match f ds xs with
      | some (nd, y) => some (.ok y, ρ1.set i (some (.ol nd)))
      | none => none)
    | _ => none) ρ QD = Ev a ρ (onOk QD fun es ρ1 => Ev (fOwns es) ρ1 (onOk QD fun xs ρ2 => ∃ ds nd y, ρ2[i]? = some (some (.ol ds)) ∧ f ds xs = some (nd, y) ∧ QD (.ok y) (ρ2.set i (some (.ol nd))))) := by
    intro ρ
    rw [ev_bnd]
    congr 1
    funext r ρ1
    cases r with
    | exc c fs => rfl
    | ok es =>
      rw [onOk_ok, onOk_ok, ev_bnd]
      congr 1
      funext r ρ2
      cases r with
      | exc c fs => rfl
      | ok xs =>
        rw [onOk_ok, onOk_ok]
        refine propext ⟨fun ⟨r, ρ', e1, q⟩ => ?_, fun ⟨ds, nd, y, h1, h2, q⟩ => ⟨_, _, by simp only [h1, h2], q⟩⟩
        dsimp only at e1
        split at e1
        · rename_i ds h1
          split at e1
          · rename_i nd y h2
            cases e1
            exact ⟨ds, nd, y, h1, h2, q⟩
          · cases e1
        · cases e1
  refine propext ⟨fun ⟨r, ρ', e1, q⟩ => ?_, fun ⟨⟨ds, h⟩, q⟩ => ?_⟩
  · unfold mLM at e1
    split at e1
    · rename_i ds h
      refine ⟨⟨ds, h⟩, ?_⟩
      rw [← key]
      exact ⟨r, ρ', e1, q⟩
    · cases e1
  · rw [← key] at q
    obtain ⟨r, ρ', e1, q⟩ := q
    refine ⟨r, ρ', ?_, q⟩
    unfold mLM
    rw [h]
    exact e1
/-- x[k] = .. -/
theorem k_setD {i : Nat} {mk : M D} {d : D} : Es (mSetD i mk d) ρ QS = ((∃ ds, ρ[i]? = some (some (.ol ds))) ∧ Ev mk ρ (onOkS QS fun z ρ1 => ∃ k ds j, z = .int k ∧ ρ1[i]? = some (some (.ol ds)) ∧ ixN ds.length k = some j ∧ QS .nx (ρ1.set i (some (.ol (ds.set j d)))))) := by
  have key : ∀ {ρ : Env}, Es (bndS mk fun z => stI i z d) ρ QS = Ev mk ρ (onOkS QS fun z ρ1 => ∃ k ds j, z = .int k ∧ ρ1[i]? = some (some (.ol ds)) ∧ ixN ds.length k = some j ∧ QS .nx (ρ1.set i (some (.ol (ds.set j d))))) := by
    intro ρ
    rw [es_bndS]
    congr 1
    funext r ρ1
    cases r with
    | exc c fs => rfl
    | ok z =>
      rw [onOkS_ok, onOkS_ok]
      refine propext ⟨fun ⟨r, ρ', e1, q⟩ => ?_, fun ⟨k, ds, j, h0, h1, h2, q⟩ => ⟨_, _, by unfold stI; simp only [h0, h1, h2], q⟩⟩
      unfold stI at e1
      split at e1
      · rename_i k ds h1 h9
        split at e1
        · rename_i j h2
          cases e1
          exact ⟨k, ds, j, by first | rfl | assumption, h1, h2, q⟩
        · cases e1
      · cases e1
  refine propext ⟨fun ⟨r, ρ', e1, q⟩ => ?_, fun ⟨⟨ds, h⟩, q⟩ => ?_⟩
  · unfold mSetD at e1
    split at e1
    · rename_i ds h
      refine ⟨⟨ds, h⟩, ?_⟩
      rw [← key]
      exact ⟨r, ρ', e1, q⟩
    · cases e1
  · rw [← key] at q
    obtain ⟨r, ρ', e1, q⟩ := q
    refine ⟨r, ρ', ?_, q⟩
    unfold mSetD
    rw [h]
    exact e1
end
end SV
end
section
set_option Elab.async false
set_option linter.all false
set_option autoImplicit false
set_option maxRecDepth 100000
set_option maxHeartbeats 4000000
namespace SV
open PySem PySem.Spec L2
/-! ### the same, step by step -/
def D.seqF : D → Option (Bool × List D)
  | .tup xs => some (true, xs)
  | .lst xs => some (false, xs)
  | .fz xs => some (false, xs)
  | _ => none
section
variable {α β : Type} {ρ ρ1 : Env} {Q : Res α → Env → Prop} {R : Res β → Env → Prop} {QS : Fl → Env → Prop} {QD : Res D → Env → Prop} {QB : Res Bool → Env → Prop} {QL : Res (List D) → Env → Prop} {m ma mb : M D} {n na nb : M Bool} {d x y z : D}
theorem b_ok {k : α → Env → Prop} {a : α} (h : k a ρ) : onOk R k (.ok a) ρ := h
theorem b_exc {k : α → Env → Prop} {c : Str} {fs : List (Str × D)} (h : R (.exc c fs) ρ) : onOk (α := α) R k (.exc c fs) ρ := h
theorem b_okS {k : α → Env → Prop} {a : α} (h : k a ρ) : onOkS QS k (.ok a) ρ := h
theorem b_excS {k : α → Env → Prop} {c : Str} {fs : List (Str × D)} (h : QS (.exc c fs) ρ) : onOkS (α := α) QS k (.exc c fs) ρ := h
theorem b_nx {k : Fl → Env → Prop} (h : k .nx ρ) : onNx QS k .nx ρ := h
theorem b_nret {k : Fl → Env → Prop} (h : QS (.ret d) ρ) : onNx QS k (.ret d) ρ := h
theorem b_nbrk {k : Fl → Env → Prop} (h : QS .brk ρ) : onNx QS k .brk ρ := h
theorem b_nct {k : Fl → Env → Prop} (h : QS .ct ρ) : onNx QS k .ct ρ := h
theorem b_nexc {k : Fl → Env → Prop} {c : Str} {fs : List (Str × D)} (h : QS (.exc c fs) ρ) : onNx QS k (.exc c fs) ρ := h
theorem b_ret {a : α} (h : Q (.ok a) ρ) : Ev (ret a) ρ Q := by rw [ev_ret]; exact h
theorem b_bnd {m : M α} {k : α → M β} (h : Ev m ρ (onOk R fun a ρ1 => Ev (k a) ρ1 R)) : Ev (bnd m k) ρ R := by rw [ev_bnd]; exact h
theorem b_end {fl : Fl} (h : QS fl ρ) : Es (endS fl) ρ QS := by rw [es_end]; exact h
theorem b_seq {a b : SM} (h : Es a ρ (onNx QS fun _ ρ1 => Es b ρ1 QS)) : Es (mSeq a b) ρ QS := by rw [es_seq]; exact h
theorem b_var {i : Nat} (h : ρ[i]? = some (some d)) (o : d.own = false) (x : d.isX = false) (q : QD (.ok d) ρ) : Ev (mVar i) ρ QD := by rw [ev_var h o x]; exact q
theorem b_varO {i : Nat} (h : ρ[i]? = some (some d)) (o : d.own = true) (q : QD (.ok (.sl i)) ρ) : Ev (mVar i) ρ QD := by rw [ev_varO h o]; exact q
theorem b_op {f : D → D → M D} (h : Ev ma ρ (onOk QD fun x ρ1 => Ev mb ρ1 (onOk QD fun y ρ2 => Ev (f x y) ρ2 QD))) : Ev (mOp f ma mb) ρ QD := by
  unfold mOp
  simp only [ev_bnd]
  exact h
theorem b_un {f : D → M D} (h : Ev ma ρ (onOk QD fun x ρ1 => Ev (f x) ρ1 QD)) : Ev (mUn f ma) ρ QD := by unfold mUn; rw [ev_bnd]; exact h
theorem b_neg {i : Int} (h : QD (.ok (.int (-i))) ρ) : Ev (fNeg (.int i)) ρ QD := by rw [ev_neg]; exact h
theorem b_add {i j : Int} (h : QD (.ok (.int (i + j))) ρ) : Ev (fAddA (.int i) (.int j)) ρ QD := by rw [ev_add]; exact h
theorem b_II {p : Int → Int → Bool} {g : Int → Int → D} {i j : Int} (c : p i j = true) (h : QD (.ok (g i j)) ρ) : Ev (fII p g (.int i) (.int j)) ρ QD := by rw [ev_II c]; exact h
theorem b_look {g : D → Option D} (h : dr ρ d = some x) (e : g x = some y) (q : QD (.ok y) ρ) : Ev (fLook g d) ρ QD := by rw [ev_look h e]; exact q
theorem b_look2 {g : D → D → Option D} {d2 x2 : D} (h : dr ρ d = some x) (h2 : dr ρ d2 = some x2) (e : g x x2 = some y) (q : QD (.ok y) ρ) : Ev (fLook2 g d d2) ρ QD := by rw [ev_look2 h h2 e]; exact q
theorem b_CB {f : List D → M D} {a : M (List D)} (h : Ev a ρ (onOk QD fun ds ρ1 => Ev (f ds) ρ1 QD)) : Ev (mCB f a) ρ QD := by unfold mCB; rw [ev_bnd]; exact h
theorem b_C1 {g : D → M D} (h : Ev (g d) ρ QD) : Ev (fC1 g [d]) ρ QD := h
theorem b_C2 {g : D → D → M D} (h : Ev (g x y) ρ QD) : Ev (fC2 g [x, y]) ρ QD := h
theorem b_nil (h : QL (.ok []) ρ) : Ev mNil ρ QL := by unfold mNil; rw [ev_ret]; exact h
theorem b_cons {r : M (List D)} (h : Ev ma ρ (onOk QL fun x ρ1 => Ev r ρ1 (onOk QL fun xs ρ2 => QL (.ok (x :: xs)) ρ2))) : Ev (mCons ma r) ρ QL := by
  unfold mCons
  simp only [ev_bnd, ev_ret]
  exact h
theorem b_set {i : Nat} (h : Ev ma ρ (onOkS QS fun a ρ1 => Ev (fMove a) ρ1 (onOkS QS fun d ρ2 => i < ρ2.length ∧ QS .nx (ρ2.set i (some d))))) : Es (mSet i ma) ρ QS := by
  unfold mSet
  rw [es_bndS, ev_bnd]
  refine h.imp fun r ρ1 q => ?_
  cases r with
  | exc c fs => exact q
  | ok a =>
    refine Ev.imp (show Ev (fMove a) ρ1 _ from q) fun r ρ2 q => ?_
    cases r with
    | exc c fs => exact q
    | ok d =>
      show Es (stS i d) ρ2 QS
      rw [k_st]
      exact q
theorem b_st {i : Nat} {P : Prop} (c : i < ρ.length) (h : P) : i < ρ.length ∧ P := ⟨c, h⟩
theorem b_aug {i : Nat} {f : D → D → M D} (h : Es (mSet i (mOp f (mVar i) ma)) ρ QS) : Es (mAug i f ma) ρ QS := h
theorem b_mret (h : Ev ma ρ (onOkS QS fun a ρ1 => Ev (fMove a) ρ1 (onOkS QS fun d ρ2 => QS (.ret d) ρ2))) : Es (mRet ma) ρ QS := by
  unfold mRet
  rw [es_bndS, ev_bnd]
  refine h.imp fun r ρ1 q => ?_
  cases r with
  | exc c fs => exact q
  | ok a =>
    refine Ev.imp (show Ev (fMove a) ρ1 _ from q) fun r ρ2 q => ?_
    cases r with
    | exc c fs => exact q
    | ok d =>
      show Es (endS (.ret d)) ρ2 QS
      rw [es_end]
      exact q
theorem b_expr (h : Ev ma ρ (onOkS QS fun _ ρ1 => QS .nx ρ1)) : Es (mExpr ma) ρ QS := by
  unfold mExpr
  rw [es_bndS]
  refine h.imp fun r ρ1 q => ?_
  cases r with
  | exc c fs => exact q
  | ok a => show Es (endS .nx) ρ1 QS; rw [es_end]; exact q
theorem b_if {a b : SM} (h : Ev n ρ (onOkS QS fun k ρ1 => Es (if k = true then a else b) ρ1 QS)) : Es (mIf n a b) ρ QS := by unfold mIf; rw [es_bndS]; exact h
theorem b_ifT {a b : SM} {k : Bool} (c : k = true) (h : Es a ρ QS) : Es (if k = true then a else b) ρ QS := by rw [if_pos c]; exact h
theorem b_ifF {a b : SM} {k : Bool} (c : k = false) (h : Es b ρ QS) : Es (if k = true then a else b) ρ QS := by rw [if_neg (by simp [c])]; exact h
theorem b_ite {a b : SM} {k : Bool} (h1 : k = true → Es a ρ QS) (h2 : k = false → Es b ρ QS) : Es (if k = true then a else b) ρ QS := by cases k <;> simp_all
theorem b_eT {a b : M α} {k : Bool} (c : k = true) (h : Ev a ρ Q) : Ev (if k = true then a else b) ρ Q := by rw [if_pos c]; exact h
theorem b_eF {a b : M α} {k : Bool} (c : k = false) (h : Ev b ρ Q) : Ev (if k = true then a else b) ρ Q := by rw [if_neg (by simp [c])]; exact h
theorem b_eite {a b : M α} {k : Bool} (h1 : k = true → Ev a ρ Q) (h2 : k = false → Ev b ρ Q) : Ev (if k = true then a else b) ρ Q := by cases k <;> simp_all
theorem b_ifE (h : Ev n ρ (onOk QD fun k ρ1 => Ev (if k = true then ma else mb) ρ1 QD)) : Ev (mIfE n ma mb) ρ QD := by unfold mIfE; rw [ev_bnd]; exact h
/-- tests that are known: a value that is a bool -/
theorem b_tb (h : Ev ma ρ (onOk QB fun d ρ1 => ∃ b, d = .bl b ∧ QB (.ok b) ρ1)) : Ev (mTb ma) ρ QB := by
  unfold mTb
  rw [ev_bnd]
  refine h.imp fun r ρ1 q => ?_
  cases r with
  | exc c fs => exact q
  | ok d =>
    obtain ⟨b, rfl, q2⟩ := (show ∃ b, d = .bl b ∧ QB (.ok b) ρ1 from q)
    show Ev (ret b) ρ1 QB
    rw [ev_ret]
    exact q2
theorem b_bl {b : Bool} (h : QB (.ok b) ρ) : ∃ c, D.bl b = .bl c ∧ QB (.ok c) ρ := ⟨b, rfl, h⟩
theorem b_tru (h : Ev ma ρ (onOk QB fun d ρ1 => ∃ x b, dr ρ1 d = some x ∧ x.tru = some b ∧ QB (.ok b) ρ1)) : Ev (mTru ma) ρ QB := by rw [ev_tru]; exact h
theorem b_trv {b : Bool} (h : dr ρ d = some x) (t : x.tru = some b) (q : QB (.ok b) ρ) : ∃ x b, dr ρ d = some x ∧ x.tru = some b ∧ QB (.ok b) ρ := ⟨x, b, h, t, q⟩
theorem b_and (h : Ev na ρ (onOk QB fun c ρ1 => Ev (if c = true then nb else ret false) ρ1 QB)) : Ev (mAnd na nb) ρ QB := by unfold mAnd; rw [ev_bnd]; exact h
theorem b_or (h : Ev na ρ (onOk QB fun c ρ1 => Ev (if c = true then ret true else nb) ρ1 QB)) : Ev (mOr na nb) ρ QB := by unfold mOr; rw [ev_bnd]; exact h
theorem b_not (h : Ev na ρ (onOk QB fun c ρ1 => QB (.ok (!c)) ρ1)) : Ev (mNot na) ρ QB := by
  unfold mNot
  simp only [ev_bnd, ev_ret]
  exact h
theorem b_notT (h : Ev (mTru ma) ρ (onOk QD fun c ρ1 => QD (.ok (.bl (!c))) ρ1)) : Ev (mNotT ma) ρ QD := by
  unfold mNotT
  simp only [ev_bnd, ev_ret]
  exact h
theorem b_andV (h : Ev ma ρ (onOk QD fun d ρ1 => ∃ b, d = .bl b ∧ Ev (if b = true then mb else ret (.bl false)) ρ1 QD)) : Ev (mAndV ma mb) ρ QD := by
  unfold mAndV
  rw [ev_bnd]
  refine h.imp fun r ρ1 q => ?_
  cases r with
  | exc c fs => exact q
  | ok d =>
    obtain ⟨b, rfl, q2⟩ := (show ∃ b, d = .bl b ∧ _ from q)
    exact q2
theorem b_orV (h : Ev ma ρ (onOk QD fun d ρ1 => ∃ b, d = .bl b ∧ Ev (if b = true then ret (.bl true) else mb) ρ1 QD)) : Ev (mOrV ma mb) ρ QD := by
  unfold mOrV
  rw [ev_bnd]
  refine h.imp fun r ρ1 q => ?_
  cases r with
  | exc c fs => exact q
  | ok d =>
    obtain ⟨b, rfl, q2⟩ := (show ∃ b, d = .bl b ∧ _ from q)
    exact q2
theorem b_blE {b : Bool} {P : Bool → Prop} (h : P b) : ∃ c, D.bl b = .bl c ∧ P c := ⟨b, rfl, h⟩
theorem b_mvS {i : Nat} (h : ρ[i]? = some (some d)) (x : d.isX = false) (q : QD (.ok d) (ρ.set i none)) : Ev (fMove (.sl i)) ρ QD := by rw [ev_mvS h x]; exact q
theorem b_mv (h : ∀ i, d ≠ .sl i) (q : QD (.ok d) ρ) : Ev (fMove d) ρ QD := by rw [ev_mv h]; exact q
theorem b_frzS {i : Nat} (h : ρ[i]? = some (some d)) (x : d.isX = false) (q : QD (.ok d.frz) (ρ.set i (some d.frz))) : Ev (fFrz (.sl i)) ρ QD := by rw [ev_frzS h x]; exact q
theorem b_frz (h : ∀ i, d ≠ .sl i) (q : QD (.ok d.frz) ρ) : Ev (fFrz d) ρ QD := by rw [ev_frz h]; exact q
theorem b_own (h : ∀ i, d ≠ .sl i) (q : QD (.ok d) ρ) : Ev (fOwn d) ρ QD := by rw [ev_own h]; exact q
theorem b_ownS {i : Nat} (h : Ev (fFrz (.sl i)) ρ QD) : Ev (fOwn (.sl i)) ρ QD := h
theorem b_prepT (h : Ev (fMove d) ρ QD) : Ev (fPrep true d) ρ QD := h
theorem b_prepF (h : Ev (fFrz d) ρ QD) : Ev (fPrep false d) ρ QD := h
theorem b_preps0 {io : List Bool} (h : QL (.ok []) ρ) : Ev (fPreps io []) ρ QL := by rw [k_preps_nil]; exact h
theorem b_preps {b : Bool} {io : List Bool} {ds : List D} (h : Ev (fPrep b d) ρ (onOk QL fun x ρ1 => Ev (fPreps io ds) ρ1 (onOk QL fun xs ρ2 => QL (.ok (x :: xs)) ρ2))) : Ev (fPreps (b :: io) (d :: ds)) ρ QL := by rw [k_preps]; exact h
theorem b_owns0 (h : QL (.ok []) ρ) : Ev (fOwns []) ρ QL := by rw [k_owns_nil]; exact h
theorem b_owns {ds : List D} (h : Ev (fOwn d) ρ (onOk QL fun x ρ1 => Ev (fOwns ds) ρ1 (onOk QL fun xs ρ2 => QL (.ok (x :: xs)) ρ2))) : Ev (fOwns (d :: ds)) ρ QL := by rw [k_owns]; exact h
theorem b_frzs0 (h : QL (.ok []) ρ) : Ev (fFrzs []) ρ QL := by rw [k_frzs_nil]; exact h
theorem b_frzs {ds : List D} (h : Ev (fFrz d) ρ (onOk QL fun x ρ1 => Ev (fFrzs ds) ρ1 (onOk QL fun xs ρ2 => QL (.ok (x :: xs)) ρ2))) : Ev (fFrzs (d :: ds)) ρ QL := by rw [k_frzs]; exact h
theorem b_call {io : List Bool} {f : FM} {dd : List D} {a : M (List D)} (h : Ev a ρ (onOk QD fun ds ρ1 => Ev (fPreps io ds) ρ1 (onOk QD fun xs ρ2 => ioOk io ds.length dd.length = true ∧ Ef f (xs ++ dd) fun r cs => ∃ ρ3, callBack io ds cs ρ2 = some ρ3 ∧ QD r ρ3))) : Ev (mCall io f dd a) ρ QD := by rw [ev_call]; exact h
theorem b_io {io : List Bool} {n k : Nat} {P : Prop} (c : ioOk io n k = true) (h : P) : ioOk io n k = true ∧ P := ⟨c, h⟩
theorem b_back {io : List Bool} {ds cs : List D} {ρ3 : Env} {P : Env → Prop} (c : callBack io ds cs ρ = some ρ3) (h : P ρ3) : ∃ ρ3, callBack io ds cs ρ = some ρ3 ∧ P ρ3 := ⟨ρ3, c, h⟩
theorem b_setI {i : Nat} {mk me : M D} (h : Ev me ρ (onOkS QS fun d0 ρ1 => Ev (fOwn d0) ρ1 (onOkS QS fun d ρ2 => Es (mSetD i mk d) ρ2 QS))) : Es (mSetI i mk me) ρ QS := by
  unfold mSetI
  rw [es_bndS]
  refine h.imp fun r ρ1 q => ?_
  cases r with
  | exc c fs => exact q
  | ok d0 =>
    rw [onOkS_ok] at *
    rw [es_bndS]
    exact q
theorem b_setD {i : Nat} {mk : M D} {ds : List D} (h0 : ρ[i]? = some (some (.ol ds))) (h : Ev mk ρ (onOkS QS fun z ρ1 => ∃ k ds j, z = .int k ∧ ρ1[i]? = some (some (.ol ds)) ∧ ixN ds.length k = some j ∧ QS .nx (ρ1.set i (some (.ol (ds.set j d)))))) : Es (mSetD i mk d) ρ QS := by
  rw [k_setD]
  exact ⟨⟨ds, h0⟩, h⟩
theorem b_setK {i j : Nat} {k : Int} {ds : List D} {P : Env → Prop} (h1 : ρ[i]? = some (some (.ol ds))) (h2 : ixN ds.length k = some j) (h : P (ρ.set i (some (.ol (ds.set j d))))) : ∃ k1 ds j, D.int k = .int k1 ∧ ρ[i]? = some (some (.ol ds)) ∧ ixN ds.length k1 = some j ∧ P (ρ.set i (some (.ol (ds.set j d)))) := ⟨k, ds, j, rfl, h1, h2, h⟩
theorem b_LM {f : LMeth} {i : Nat} {a : M (List D)} {ds : List D} (h0 : ρ[i]? = some (some (.ol ds))) (h : Ev a ρ (onOk QD fun es ρ1 => Ev (fOwns es) ρ1 (onOk QD fun xs ρ2 => ∃ ds nd y, ρ2[i]? = some (some (.ol ds)) ∧ f ds xs = some (nd, y) ∧ QD (.ok y) (ρ2.set i (some (.ol nd)))))) : Ev (mLM f i a) ρ QD := by
  rw [k_LM]
  exact ⟨⟨ds, h0⟩, h⟩
theorem b_LMr {f : LMeth} {i : Nat} {ds nd xs : List D} {P : D → Env → Prop} (h1 : ρ[i]? = some (some (.ol ds))) (h2 : f ds xs = some (nd, y)) (h : P y (ρ.set i (some (.ol nd)))) : ∃ ds nd y, ρ[i]? = some (some (.ol ds)) ∧ f ds xs = some (nd, y) ∧ P y (ρ.set i (some (.ol nd))) := ⟨ds, nd, y, h1, h2, h⟩
theorem b_tup {a : M (List D)} (h : Ev a ρ (onOk QD fun ds ρ1 => Ev (fFrzs ds) ρ1 (onOk QD fun xs ρ2 => xs.length ≤ lim ∧ QD (.ok (.tup xs)) ρ2))) : Ev (mTup a) ρ QD := by
  unfold mTup
  rw [ev_bnd]
  refine h.imp fun r ρ1 q => ?_
  cases r with
  | exc c fs => exact q
  | ok ds =>
    rw [onOk_ok] at *
    rw [ev_bnd]
    refine q.imp fun r ρ2 q => ?_
    cases r with
    | exc c fs => exact q
    | ok xs =>
      rw [onOk_ok] at *
      rw [if_pos q.1, ev_ret]
      exact q.2
theorem b_lst {a : M (List D)} (h : Ev a ρ (onOk QD fun ds ρ1 => Ev (fOwns ds) ρ1 (onOk QD fun xs ρ2 => xs.length ≤ lim ∧ QD (.ok (.ol xs)) ρ2))) : Ev (mLst a) ρ QD := by
  unfold mLst
  rw [ev_bnd]
  refine h.imp fun r ρ1 q => ?_
  cases r with
  | exc c fs => exact q
  | ok ds =>
    rw [onOk_ok] at *
    rw [ev_bnd]
    refine q.imp fun r ρ2 q => ?_
    cases r with
    | exc c fs => exact q
    | ok xs =>
      rw [onOk_ok] at *
      rw [if_pos q.1, ev_ret]
      exact q.2
theorem b_lim {xs : List D} {P : Prop} (c : xs.length ≤ lim) (h : P) : xs.length ≤ lim ∧ P := ⟨c, h⟩
theorem b_isN (h : Ev ma ρ (onOk QD fun d ρ1 => Ev (fLook (fun d => some (.bl d.isNon)) d) ρ1 QD)) : Ev (mIsN ma) ρ QD := by unfold mIsN mUn; rw [ev_bnd]; exact h
theorem b_notN (h : Ev ma ρ (onOk QD fun d ρ1 => Ev (fLook (fun d => some (.bl !d.isNon)) d) ρ1 QD)) : Ev (mNotN ma) ρ QD := by unfold mNotN mUn; rw [ev_bnd]; exact h
theorem b_isi {ts : List Ty} (h : Ev ma ρ (onOk QD fun d ρ1 => Ev (fLook (gIsi ts) d) ρ1 QD)) : Ev (mIsi ts ma) ρ QD := by unfold mIsi mUn; rw [ev_bnd]; exact h
theorem b_raise {c : Str} {ns : List Str} {a : M (List D)} (h : Ev a ρ (onOkS QS fun ds ρ1 => Ev (fFrzs ds) ρ1 (onOkS QS fun xs ρ2 => (xs.length = ns.length ∧ 0 < ns.length ∧ ns.length ≤ 900) ∧ QS (.exc c (ns.zip xs)) ρ2))) : Es (mRaise c ns a) ρ QS := by
  unfold mRaise
  rw [es_bndS, ev_bnd]
  refine h.imp fun r ρ1 q => ?_
  cases r with
  | exc c fs => exact q
  | ok ds =>
    refine Ev.imp (show Ev (fFrzs ds) ρ1 _ from q) fun r ρ2 q => ?_
    cases r with
    | exc c fs => exact q
    | ok xs =>
      rw [onOkS_ok] at *
      rw [if_pos q.1, es_end]
      exact q.2
theorem b_andI {P P2 : Prop} (c : P) (h : P2) : P ∧ P2 := ⟨c, h⟩
theorem b_mfor {f : D → Env → Option Env} {body : SM} {m : M (List D)} (h : Ev m ρ (onOkS QS fun ds ρ1 => Es (forL f body ds) ρ1 QS)) : Es (mFor m f body) ρ QS := by unfold mFor; rw [es_bndS]; exact h
theorem b_fseq {QP : Res (Bool × List D) → Env → Prop} (h : Ev (fFrz d) ρ (onOk QP fun x ρ2 => ∃ b xs, x.seqF = some (b, xs) ∧ QP (.ok (b, xs)) ρ2)) : Ev (fSeq d) ρ QP := by
  unfold fSeq
  rw [ev_bnd]
  refine h.imp fun r ρ1 q => ?_
  cases r with
  | exc c fs => exact q
  | ok x =>
    obtain ⟨b, xs, e, q2⟩ := (show ∃ b xs, x.seqF = some (b, xs) ∧ _ from q)
    rw [onOk_ok]
    cases x <;> first | (cases e; exact b_ret q2) | cases e
theorem b_iter (h : Ev ma ρ (onOk QL fun d ρ1 => Ev (fSeq d) ρ1 (onOk QL fun z ρ2 => QL (.ok z.2) ρ2))) : Ev (mIter ma) ρ QL := by
  unfold mIter
  simp only [ev_bnd, ev_ret]
  exact h
theorem b_seqF {QP : Res (Bool × List D) → Env → Prop} {b : Bool} {xs : List D} (e : x.seqF = some (b, xs)) (h : QP (.ok (b, xs)) ρ) : ∃ b xs, x.seqF = some (b, xs) ∧ QP (.ok (b, xs)) ρ := ⟨b, xs, e, h⟩
theorem b_try {sub : Str → Str → Option Bool} {body : SM} {hs : List (Str × Option Nat × SM)} (h : Es body ρ fun fl ρ1 => match fl with
    | .exc c fs => Es (hdGo sub c fs hs) ρ1 QS
    | x => QS x ρ1) : Es (mTry sub body hs) ρ QS := by rw [es_try]; exact h
end
end SV
end
section
set_option Elab.async false
set_option linter.all false
set_option autoImplicit false
set_option maxRecDepth 100000
set_option maxHeartbeats 4000000
namespace SV
open PySem PySem.Spec PyProof.Rows L2
/-! ### repr of lists and tuples: only where no repr is under way -/
theorem call_reprD {X : Cx} (hg : X.A.guards = some []) (hu : X.A.units + 70 < cLine) :
    CallR X (.builtin "repr") (fun xs H Q => ∃ v d, xs = [v] ∧ Dp X.K H v d ∧ (SeqAt.shaped d = true ∧ isDisplay d = true) ∧ (d.showable = true ∧ d.shown.length ≤ sizeLine) ∧ Q (.str d.shown) H) := by
  intro pins s σ H xs us Q I r h
  obtain ⟨v, d, rfl, hd, ⟨sh, di⟩, ⟨sw, sz⟩, q⟩ := h
  obtain ⟨u, rfl, ru⟩ := vals1 r
  obtain ⟨as, rd⟩ := Dp.reads I d v u hd ru
  obtain ⟨a, rfl⟩ := isRef_of_reads rd di
  have dp := SeqAt.depth_of_shaped sh
  exact repr_of_reads' rd sw (PyData.noDict_hsm (PyData.hasDict_of_canLay _ (SeqAt.canLay_of_shaped sh))) hg (by omega) (fun _ _ e => e) (fun h' u tk hk => ⟨.str _, H, I.kept hk, ⟨_, rfl⟩, q⟩) sz
def okRep (p : PyData) : Bool := (SeqAt.shaped p && isDisplay p) && (p.showable && decide (p.shown.length ≤ sizeLine))
def gRepr : D → Option D := fun x => match x.py with
  | some p => if okRep p = true then some (.str p.shown) else none
  | none => none
section
variable {F B : Addr → Prop} {g : Cn} {W : WX} {P : List Nat} {X : Cx} {K : PySem.W.Frag}
theorem c_repr : SimC g W (fun xs H Q => ∃ v d, xs = [v] ∧ Dp K H v d ∧ (SeqAt.shaped d = true ∧ isDisplay d = true) ∧ (d.showable = true ∧ d.shown.length ≤ sizeLine) ∧ Q (.str d.shown) H) (fC1 (fLook gRepr)) := simC1 (simU_look fun F B H x d y f Q rp e q => by
  unfold gRepr at e
  split at e
  · rename_i p hp
    split at e
    · rename_i hk
      cases e
      obtain ⟨h1, h2⟩ := Bool.and_eq_true_iff.mp hk
      obtain ⟨h3, h4⟩ := Bool.and_eq_true_iff.mp h2
      exact ⟨x, p, rfl, RepO.dp _ _ _ _ rp hp, Bool.and_eq_true_iff.mp h1, ⟨h3, of_decide_eq_true h4⟩, q _ (by rfl)⟩
    · cases e
  · cases e)
abbrev fRepr := fC1 (fLook gRepr)
theorem w_repr {k : Nat} {e : Expr} {es : List Expr} {ms : M (List D)} {p pos : Pos} (hG : X.A.guards = some []) (hr : Room k X.A) (hg : Gl X "repr") (hm : X.mg "repr" = none) (ha : VA X g W (e :: es) ms) (he : starEach (e :: es) X.env = (false, eval e X.env) :: starEach es X.env := by rfl) (hpl : (backTo pos (starEach es X.env)).any (·.1) = false := by rfl) : VE X g W (.Call (.Name "repr" p) (e :: es) [] pos) (mCB fRepr ms) := v_bi (call_reprD hG (by have := hr.un; omega)) c_repr hg hm rfl ha (by decide) (by decide) he hpl
end
/-! ### {i: j} -/
section
variable {g : Cn} {W : WX} {X : Cx}
theorem v_dict1 {i j : Int} {q1 q2 : Nat} {p1 p2 pos : Pos} : VE X g W (.Dict [some (.Constant (.int i) q1 p1)] [.Constant (.int j) q2 p2] pos) (ret (.dk [.inl i] [.int j])) := .mk (pe_disp (pps_cons pe_int pe_int pps_nil) rfl rfl (by intro z; cases z) (Nat.le_of_ble_eq_true rfl)) fun F B H σ ρ T Q r ρ' S e px h p hp => by
  cases e
  refine ⟨upd_same, [(.inl i, .int j)], rfl, Nat.le_of_ble_eq_true rfl, ?_⟩
  obtain ⟨F3, B3, x3, S3, fp⟩ := S.newF (o := .dK [(.inl i, .int j)]) hp
  have S4 := S3.push (d := .dk [.inl i] [.int j]) (v := .ref p) ⟨p, [(.inl i, .int j)], rfl, fp, upd_same, rfl, ⟨_, _, rfl, rfl, rfl⟩⟩
  rw [upd_upd]
  exact h _ rfl F3 B3 _ _ x3 S4
end
/-! ### a def that is walked where no repr is under way -/
structure FnG (Pg : Program) (w : World) (K : PySem.W.Frag) (mg : Str → Option Value) (base : Heap) (k : Nat) (f : Addr) (fd : FuncData) (ps : List Str) (sp : Sp) : Prop where
  go : ∀ (A : Around) (outer : List PySem.Env) (s : Shared) (H : Hp) (args : Args) (us : List Value) (vs : List V) (Q : VK) (E : XK), A.guards = some [] → Room k A → Env0 Pg w K mg base A outer s H → BindsTo s fd args (ps.zip us) → Vals vs us → sp vs H Q E →
    codeAny (model Pg w) A (.call (.ref f) args) (CR (L2.CX Pg w) outer Pg w H s Q E) s
theorem funG {Pg : Program} {w : World} {K : PySem.W.Frag} {mg : Str → Option Value} {base : Heap} {x qual : Str} {params : Arguments} {bd : List Stmt} {scope : Scope} {dvs : List V} {kws : List (Str × V)} {f : Addr} {fd : FuncData} {N ps : List Str} {k : Nat}
    (Fn : FunD K x qual params bd scope dvs kws f fd) (Sc : FnScope N ps scope) (io : List Bool) (body : SM) (hio : io.length = ps.length) (hN : ps.length ≤ N.length)
    (hb : ∀ (cdv : Value) (A : Around) (outer : List PySem.Env) (s : Shared) (H : Hp) (E : XK), (A.deeper (envOfC qual scope s.heap.objs.size f cdv)).guards = some [] → Room k (A.deeper (envOfC qual scope s.heap.objs.size f cdv)) →
      VSs (cxOf (L2.CX Pg w) Pg w K mg base N qual scope f cdv A outer s H E) (cn mg K) (fun cls d _ H' => E cls d H') (ioP 0 io) bd body) :
    FnG Pg w K mg base (k + 1) f fd ps (spV (cn mg K) io (funM N.length io body)) := by
  refine ⟨fun A outer s H args us vs Q E gd hr z bt rv h => ?_⟩
  have lv : vs.length = ps.length := spV_len hio h
  have bk : ∀ b o, base.get? b = some o → s.heap.get? b = some o := fun b o q => (z.bs b o q).1
  have kin : K.In s.heap := z.mod.kin.keeps bk
  obtain ⟨oc, od, dV, kV, doc, pm, an, cdv, ct, osl, rfl, lk, cd, _, _⟩ := Fn.ex
  have par : ∀ y ∈ ps.zip us, scope.names.lookup y.1 = some .local ∨ (scope.names.lookup y.1 = some .cell ∧ ((cellsFrom (s.heap.objs.size + 1) scope.names []).lookup y.1).isSome = true) := by
    rintro ⟨n, u⟩ hy
    refine (Sc.par n (List.of_mem_zip hy).1).imp id fun q => ⟨q, ?_⟩
    exact PySem.W.cellsFrom_some _ _ _ (Or.inl q)
  have step : ∀ (env : PySem.Env), env = newEnv scope s.heap.objs.size mainGlobals (cellsFrom (s.heap.objs.size + 1) scope.names []) (qual ++ ".<locals>.") (some f) cdv none builtinsNs → True := fun _ _ => trivial
  refine codeAny_call_function hr.depth (kin _ _ lk) rfl Sc.co Sc.gen rfl (PySem.W.codeRec_of kin cd) (bt _ _ _ _ (wpAny_newFunctionEnv_cells Sc.kind par ?_))
  rintro env rfl s1 xc
  refine ⟨(z.mod.nolimit.keeps bk).keeps xc.toInCall.keep, codeAny_func ?_⟩
  have I0 := inv_start (CX := L2.CX Pg w) (E := E) Sc hr.hd z lv rv xc
  have go := (hb cdv A outer s H E gd (hr.deeper _)).run [] s1 (L2.start N vs) H _ I0 (coreV io body hio hN h)
  refine wpAny_mono go ?_ fun _ _ q => q
  intro fl s2 q
  cases fl with
  | ret u =>
    obtain ⟨v, σ2, H2, J, ru, q2⟩ := q
    exact ⟨v, H2, J.os, J.bare, J.base, J.hok, ru, q2⟩
  | next =>
    obtain ⟨σ2, H2, J, q2⟩ := q
    exact ⟨V.non, H2, J.os, J.bare, J.base, J.hok, rfl, q2⟩
  | brk =>
    obtain ⟨_, _, _, q2⟩ := q
    exact (q2 : False).elim
  | cont =>
    obtain ⟨_, _, _, q2⟩ := q
    exact (q2 : False).elim
/-- the call of the law at the top, where no repr is under way -/
theorem topG {Pg : Program} {w : World} {K : PySem.W.Frag} {mg mb : Str → Option Value} {k : Nat} {fa a : Addr} {fd : FuncData} {x : Str} {sp : Sp} {t : Shared} {us : List Value} {H : Hp}
    (kin : K.In t.heap) (ng : t.heap.Ns mainGlobals mg) (nb : t.heap.Ns builtinsNs mb) (boot : ∀ y : Str, y ≠ "__name__" → mb y = bootBuiltins y) (lim : t.heap.NoLimit) (gens : t.gens = #[])
    (obj : t.heap.get? a = some { cls := .type "list", data := .seq us.toArray }) (room : Room k callerA) (bt : BindsTo t fd ⟨[.ref a], []⟩ [(x, .ref a)])
    (hO : Only H) (hok : HOk Pg w H t.heap) (only : ∀ b, H b ≠ none → b = a ∧ K.lookup a = none) (pr : sp [.ref a] H (fun v _ => v = .bl true) fun _ _ _ => False)
    (G : ∀ base : Heap, K.In base → base.Ns mainGlobals mg → FnG Pg w K mg base k fa fd [x] sp) :
    codeAny (model Pg w) callerA (.call (.ref fa) ⟨[.ref a], []⟩) (fun r s' => r = .ok (.ret (.bool true)) ∧ OldK t.heap s'.heap ∧ s'.os = t.os ∧ AllBare s'.gens) t := by
  -- what is not tracked stays in the base
  have free : ∀ b o, t.heap.get? b = some o → (∀ xs n, o.data ≠ .seq xs n) → H b = none := fun b o e nd => Classical.byContradiction fun z => by
    obtain ⟨rfl, _⟩ := only b z
    rw [obj] at e
    cases e
    exact nd _ _ rfl
  have ns_ : ∀ (b : Addr) (m : Str → Option Value), t.heap.Ns b m → (hidT t.heap H).Ns b m := by
    rintro b m ⟨o, es, ep, e, d, r⟩
    exact ⟨o, es, ep, hidT_get e (free b o e fun xs n z => by rw [d] at z; cases z), d, r⟩
  have kb : K.In (hidT t.heap H) := fun b o e => hidT_get (kin b o e) (Classical.byContradiction fun z => by
    obtain ⟨rfl, q⟩ := only b z
    rw [q] at e
    cases e)
  obtain ⟨mc, l1, l2⟩ := lim
  have env : Env0 Pg w K mg (hidT t.heap H) callerA [] t H := {
    frames := rfl
    mod := { kin := kb, glob := ns_ _ _ ng, blt := ⟨mb, ns_ _ _ nb, boot⟩, nolimit := ⟨mc, ns_ _ _ l1, l2⟩ }
    bs := fun _ _ e => of_hidT e
    bsz := by rw [hidT_size]; exact Nat.le_refl _
    funs := trivial
    frf := fun b z => by cases z
    hok := hok
    bare := AllBare.of_eq gens }
  have run := (G _ kb (ns_ _ _ ng)).go callerA [] t H ⟨[.ref a], []⟩ [.ref a] [.ref a] (fun v _ => v = .bl true) (fun _ _ _ => False) rfl room env bt (.cons rfl .nil) pr
  refine codeAny_mono run ?_
  intro r s2 q
  cases r with
  | error e =>
    obtain ⟨_, _, _, _, _, _, _, _, _, _, _, _, z⟩ := q
    exact z.elim
  | ok fl =>
    cases fl with
    | next => exact (q : False).elim
    | brk => exact (q : False).elim
    | cont => exact (q : False).elim
    | ret u =>
      obtain ⟨v, H2, os, bare, un, hok2, ru, (rfl : v = .bl true)⟩ := q
      have ru : u = Value.bool true := ru
      subst ru
      refine ⟨rfl, OldK.of_keep ?_, os, bare⟩
      intro b o e
      rcases hO b with hn | ⟨od, xs, hf⟩
      · exact un.keep b o e hn (List.not_mem_nil) (List.not_mem_nil)
      · have k1 := (hok b _ hf).1
        have k2 := (hok2 b _ (un.frzs b od _ hf)).1
        rw [k1] at e
        rw [k2, e]
theorem law_walkG {l : PySem.W.OpenLaw} {n k : Nat} {q : Program} {loose : List Str} {XP : (Str → Option Value) → Heap → Prop} {YP : World → Heap → Prop} {d : DefRec} {x : Str} (hn : l.most = some n) (hn2 : n ≤ sizeLine) (hdf : d.params.defaults = []) (hr : Room k callerA)
    (G0 : ∀ (w : World) (mg : Str → Option Value) (fa : Addr) (h : Heap), YP w h → h.Ns mainGlobals mg → mg d.name = some (.ref fa) →
      ∃ (K : PySem.W.Frag) (fd : FuncData) (sp : Sp), K.In h ∧ (∀ (s : Shared) (u : Value), BindsTo s fd ⟨[u], []⟩ [(x, u)]) ∧ (∀ (H : Hp) (a : Addr) (ns : List Int), ns.length ≤ n → Only H → SqL K H a (ns.map V.int) → sp [.ref a] H (fun v _ => v = .bl true) fun _ _ _ => False) ∧
        ∀ base : Heap, K.In base → base.Ns mainGlobals mg → FnG l.prog w K mg base k fa fd [x] sp) :
    PySem.W.WalkO q loose XP YP l.row.toRowW d [] (fun f vs => PySem.call f vs) := Att.attach_call hn hdf fun w s₀ t mg mb fa o pm cd doc a us ns G Y ho hd hcd hmg obj hin len gens => by
  obtain ⟨K, fd, sp, kin, bt, pr, hG⟩ := G0 w mg fa _ Y G.T.g hmg
  have rv := vals_ints hin
  have lus : us.length = ns.length := hin.length
  have lz : ns.length ≤ sizeLine := Nat.le_trans len hn2
  by_cases hk : ∃ o, K.lookup a = some o
  · -- the script is one of the written things
    obtain ⟨oa, hk⟩ := hk
    have e := kin a oa hk
    rw [obj] at e
    have H0 : ∀ b : Addr, (fun _ => none : Hp) b ≠ none → False := fun b z => z rfl
    refine topG (H := fun _ => none) kin G.T.g G.T.b G.T.builtins G.T.nolimit gens obj hr (bt _ _) (fun _ => Or.inl rfl) (fun b u z => by cases z) (fun b z => (H0 b z).elim) (pr _ a ns len (fun _ => Or.inl rfl) ?_) hG
    cases e
    exact Or.inr ⟨_, us.toArray, _, hk, rfl, rfl, rfl, by rw [List.size_toArray, lus]; exact lz, by simpa using rv⟩
  · have hk : K.lookup a = none := by
      cases z : K.lookup a with
      | none => rfl
      | some o => exact absurd ⟨o, z⟩ hk
    obtain ⟨H, hH⟩ : ∃ H : Hp, H = fun b => if b = a then some (.frz { cls := .type "list", data := .seq us.toArray } (.lst (ns.map V.int))) else none := ⟨_, rfl⟩
    have at_ : H a = some (.frz { cls := .type "list", data := .seq us.toArray } (.lst (ns.map V.int))) := by rw [hH]; exact if_pos rfl
    have off : ∀ b, b ≠ a → H b = none := fun b z => by rw [hH]; exact if_neg z
    have hO : Only H := fun b => if z : b = a then Or.inr ⟨_, _, z ▸ at_⟩ else Or.inl (off b z)
    refine topG (H := H) kin G.T.g G.T.b G.T.builtins G.T.nolimit gens obj hr (bt _ _) hO (fun b u z => ?_) (fun b z => ⟨Classical.byContradiction fun y => z (off b y), hk⟩) (pr H a ns len hO (Or.inl (Or.inr ⟨_, at_⟩))) hG
    by_cases hb : b = a
    · subst hb
      rw [at_] at z
      cases z
      exact ⟨obj, by rw [List.length_map]; exact lz, us, _, rv, obj⟩
    · rw [off b hb] at z
      cases z
end SV
end
section
set_option Elab.async false
set_option linter.all false
set_option autoImplicit false
set_option maxRecDepth 100000
set_option maxHeartbeats 4000000
namespace SV
open PySem PySem.Spec PyProof.Rows L2
/-! ### an item of a fresh list: the list is frozen whole -/
def fIxF : D → D → M D := fun x y => match x with
  | .ol xs => fIx (.lst (D.frzs xs)) y
  | _ => stuck
section
variable {g : Cn} {W : WX} {X : Cx} {K : PySem.W.Frag} {ma mb : M D} {a b : Expr} {pos : Pos}
theorem r_ixF : SimR g W (rIx K) fIxF := fun F B H σ ρ T x y dx dy Q res ρ' S e px h => by
  unfold fIxF at e
  split at e
  · rename_i xs
    have S1 := S.perm (List.Perm.swap _ _ _)
    obtain ⟨F1, B1, x1, S2, _⟩ := S1.freeze (fun i z => by cases z)
    have S3 := S2.perm (List.Perm.swap _ _ _)
    exact r_ix F1 B1 H σ ρ T x y _ dy Q res ρ' S3 e (px.shift x1) fun d hd F2 B2 H2 v x2 S4 => h d hd F2 B2 H2 v (x1.trans x2) S4
  · cases e
theorem w_ixF (ha : VE X g W a ma) (hb : VE X g W b mb) (hs : PlainIx b := by intro _ _; rfl) : VE X g W (.Subscript a b pos) (mOp fIxF ma mb) := .mk (pe_ix ix_seq ha hb hs) (sim_op r_ixF selfE selfE)
end
end SV
end
section
set_option Elab.async false
set_option linter.all false
set_option autoImplicit false
set_option maxRecDepth 100000
set_option maxHeartbeats 4000000
namespace SV
open PySem PySem.Spec L2
open PyProof.Rows (boot_range boot_list boot_min)
/-! ### a range kept in a name -/
theorem cr_range1 {X : Cx} : CallR X (.type "range") (fun vs H Q => ∃ j, vs = [V.int j] ∧ ∀ p, H p = none → Q (.ref p) (upd H p (.rng 0 j))) := by
  intro pins s σ H vs us Q I r h
  obtain ⟨j, rfl, q⟩ := h
  obtain ⟨u, rfl, t, rfl⟩ := vals1 r
  exact call_range_1 ⟨.ref s.heap.objs.size, upd H s.heap.objs.size (.rng 0 j), I.laid (t' := _) (fun b o e => Heap.get?_push_of_some _ e) (Nat.le_refl _) ⟨_, _, _, Heap.get?_push_size _ rfl⟩, rfl, q _ (I.hok.fresh (Nat.le_refl _))⟩
def fRgV : D → M D := fun d => match d with
  | .int j => ret (.rg 0 j)
  | _ => stuck
section
variable {F B : Addr → Prop} {g : Cn} {W : WX} {P : List Nat} {X : Cx} {K : PySem.W.Frag} {H : Hp} {σ : St} {ρ : Env} {T : Tm} {tg : Expr}
theorem c_rgV : SimC g W (fun vs H Q => ∃ j, vs = [V.int j] ∧ ∀ p, H p = none → Q (.ref p) (upd H p (.rng 0 j))) (fC1 fRgV) := simC1 fun F B H σ ρ T x dx Q res ρ' S e px h => by
  unfold fRgV at e
  split at e
  · rename_i j
    cases e
    have S1 := S
    obtain ⟨f, rx⟩ := S.top
    cases rt_int rx
    refine ⟨j, rfl, fun p hp => ?_⟩
    obtain ⟨F3, B3, x3, S3, fp⟩ := S1.pop.newF (o := .rng 0 j) hp
    exact h _ rfl F3 B3 _ _ x3 (S3.push (d := .rg 0 j) (v := .ref p) ⟨p, rfl, fp, upd_same⟩)
  · cases e
theorem v_rgV {e : Expr} {es : List Expr} {ms : M (List D)} {p pos : Pos} (hg : Gl X "range") (hm : X.mg "range" = none) (ha : VA X g W (e :: es) ms) (he : starEach (e :: es) X.env = (false, eval e X.env) :: starEach es X.env := by rfl) (hpl : (backTo pos (starEach es X.env)).any (·.1) = false := by rfl) : VE X g W (.Call (.Name "range" p) (e :: es) [] pos) (mCB (fC1 fRgV) ms) := v_ty cr_range1 c_rgV hg hm boot_range ha (by decide) (by decide) he hpl
/-- .. and walked -/
theorem pi_rgV {l : Expr} {tl : TE} (hl : PE X l tl) : PI X tg l (fun σ H R => tl σ H fun x H1 => ∃ a lo hi, x = .ref a ∧ H1 a = some (.rng lo hi) ∧ ((-(2 ^ 62) ≤ lo ∧ lo < 2 ^ 62) ∧ (-(2 ^ 62) ≤ hi ∧ hi < 2 ^ 62)) ∧ R (Itr lo (hi - lo).toNat) H1) := by
  refine ⟨fun pins s σ H R I h => ?_⟩
  refine thn (hl.run pins s σ H _ I h) fun v s1 ⟨x, H1, I1, r1, q1⟩ => ?_
  obtain ⟨a, lo, hi, rfl, ha, ⟨⟨h1, h2⟩, h3, h4⟩, q⟩ := q1
  cases r1
  obtain ⟨t, u, w, ho⟩ := I1.hok a _ ha
  refine wpAny_pyIter_range (show IsRange s1.heap a lo hi 1 t u w from ho) (small_one h1 h2 h3 h4) ?_
  refine ⟨s1.heap.objs.size, [s1.heap.objs.size], _, _, H1, rfl, I1.kept (t' := s1.toks) fun b o e => Heap.get?_push_of_some _ e, turn_range _ lo (hi - lo).toNat, ?_, fun b hb => ?_, q⟩
  · have e1 : lo + ((0 : Nat) : Int) * 1 = lo := by simp
    have e2 : (((hi - lo).toNat : Nat) : Int) - ((0 : Nat) : Int) = Builtin.Range.rangeSize lo hi 1 := by rw [rangeSize_one]; split <;> omega
    show IsRangeIter _ _ (lo + ((0 : Nat) : Int) * 1) ((((hi - lo).toNat : Nat) : Int) - ((0 : Nat) : Int)) 1
    rw [e1, e2]
    exact Heap.get?_push_size _ rfl
  · have e : b = s1.heap.objs.size := by simpa using hb
    subst e
    exact I1.fpOk (Nat.le_refl _) (I1.hok.fresh (Nat.le_refl _))
def mRgI (a : M D) : M (List D) := bnd a fun d ρ => match dr ρ d with
  | some (.rg lo hi) => if okR lo = true ∧ okR hi = true then some (.ok (upTo lo (hi - lo).toNat), ρ) else none
  | _ => none
theorem sim_rgI {t : TE} {a : M D} (ha : SimE g W t a) : SimI g W (fun σ H R => t σ H fun x H1 => ∃ a lo hi, x = .ref a ∧ H1 a = some (.rng lo hi) ∧ ((-(2 ^ 62) ≤ lo ∧ lo < 2 ^ 62) ∧ (-(2 ^ 62) ≤ hi ∧ hi < 2 ^ 62)) ∧ R (Itr lo (hi - lo).toNat) H1) (mRgI a) := fun F B H σ ρ T R r ρ' S e px h => by
  refine ha.bind S e px fun d ρ1 F1 B1 H1 v e1 x1 S1 => ?_
  split at e1
  · rename_i lo hi hd
    split at e1
    · rename_i hj
      cases e1
      obtain ⟨f, rp⟩ := S1.look1 hd
      obtain ⟨a, rfl, fa, ho⟩ := rp.1
      exact ⟨a, lo, hi, rfl, ho, ⟨okR_ok hj.1, okR_ok hj.2⟩, h _ rfl F1 B1 H1 _ x1 S1.pop jr⟩
    · cases e1
  · cases e1
theorem vi_rgV {e : Expr} {m : M D} (he : VE X g W e m) : VI X g W tg e (mRgI m) := .mk (pi_rgV he) (sim_rgI selfE)
/-! ### list(range(n)) -/
def fLstRg : D → M D := fun d => match d with
  | .int j => if 0 ≤ j ∧ j ≤ 16777216 then ret (.ol (upTo 0 j.toNat)) else stuck
  | _ => stuck
theorem rgV_upTo {j : Int} : ∀ {F : Addr → Prop} {H : Hp}, Reps F g H (upTo 0 j.toNat) (rgV 0 j) := by
  intro F H
  have key : ∀ (n : Nat) (f : Nat → Int), Reps F g H ((List.range n).map fun i => D.int (f i)) ((List.range n).map fun i => V.int (f i)) := by
    intro n
    induction n with
    | zero => exact fun f => rfl
    | succ n ih =>
      intro f
      rw [List.range_succ, List.map_append, List.map_append]
      exact Reps.append (ih f) ⟨_, _, rfl, rfl, rfl⟩
  unfold upTo rgV
  rw [Int.sub_zero]
  exact key j.toNat fun i => 0 + (i : Nat)
theorem sim_lstRg {t : TE} {a : M D} (ha : SimE g W t a) : SimE g W (tLstRg (tRg1 t)) (mUn fLstRg a) := fun F B H σ ρ T Q r ρ' S e px h => by
  refine ha.bind S e px fun d ρ1 F1 B1 H1 v e1 x1 S1 => ?_
  unfold fLstRg at e1
  split at e1
  · rename_i j
    split at e1
    · rename_i hj
      cases e1
      obtain ⟨f, rx⟩ := S1.top
      cases rt_int rx
      refine ⟨j, rfl, RgOk.of_le (by omega) hj.2 (by omega) hj.1, fun q hq => ?_⟩
      obtain ⟨F2, B2, x2, S2⟩ := S1.pop.newLF (ds := upTo 0 j.toNat) (vs := rgV 0 j) rgV_upTo hq
      exact h _ rfl F2 B2 _ _ (x1.trans x2) S2
    · cases e1
  · cases e1
theorem v_lstRg {e : Expr} {m : M D} {p p2 pos pos2 : Pos} (hc : X.calm = true) (hgl : Gl X "list") (hml : X.mg "list" = none) (hg : Gl X "range") (hm : X.mg "range" = none) (he : VE X g W e m) (na : starEach [e] X.env = (false, eval e X.env) :: starEach [] X.env := by rfl)
    (na2 : starEach [.Call (.Name "range" p2) [e] [] pos2] X.env = (false, eval (.Call (.Name "range" p2) [e] [] pos2) X.env) :: starEach [] X.env := by rfl) : VE X g W (.Call (.Name "list" p) [.Call (.Name "range" p2) [e] [] pos2] [] pos) (mUn fLstRg m) := .mk (pe_listRg hc hgl hml (prg_1 hg hm he na) na2) (sim_lstRg selfE)
/-! ### min of a list -/
def intsOf : List D → Option (List Int)
  | [] => some []
  | .int i :: ds => (match intsOf ds with
    | some is => some (i :: is)
    | none => none)
  | _ => none
def minI : Int → List Int → Int
  | m, [] => m
  | m, i :: is => minI (if i < m then i else m) is
theorem minI_ok : ∀ (is : List Int) (m : Int), (minI m is = m ∨ minI m is ∈ is) ∧ minI m is ≤ m ∧ ∀ y ∈ is, minI m is ≤ y
  | [], m => ⟨.inl rfl, Int.le_refl _, fun y hy => by cases hy⟩
  | i :: is, m => by
    have hk : ∃ k, k = (if i < m then i else m) ∧ k ≤ m ∧ k ≤ i ∧ (k = m ∨ k = i) := ⟨_, rfl, by split <;> omega, by split <;> omega, by split <;> simp⟩
    obtain ⟨k, ek, k1, k2, k3⟩ := hk
    simp only [minI]
    rw [← ek]
    obtain ⟨h1, h2, h3⟩ := minI_ok is k
    refine ⟨?_, by omega, fun y hy => ?_⟩
    · rcases h1 with h | h
      · rw [h]
        rcases k3 with z | z
        · exact .inl z
        · exact .inr (by simp [z])
      · exact .inr (by simp [h])
    · rcases List.mem_cons.mp hy with rfl | hy
      · omega
      · exact h3 y hy
def gMinL : D → Option D := fun x => match x with
  | .ol xs => (match intsOf xs with
    | some (i :: is) => some (.int (minI i is))
    | _ => none)
  | .lst xs => (match intsOf xs with
    | some (i :: is) => some (.int (minI i is))
    | _ => none)
  | _ => none
theorem intsOf_reps : ∀ {xs : List D} {is : List Int} {vs : List V} {f : List Addr}, intsOf xs = some is → RepOs F g H xs vs f → vs = is.map V.int
  | [], is, vs, f, h, r => by
    cases h
    exact r.1
  | d :: ds, is, vs, f, h, ⟨v, vs', f1, f2, e1, e2, r1, r2⟩ => by
    cases d with
    | int i =>
      simp only [intsOf] at h
      split at h
      · rename_i js hj
        cases h
        rw [e1, show v = .int i from r1.1, intsOf_reps hj r2]
        rfl
      · cases h
    | _ => cases h
theorem c_minL : SimC g W (rMin K) (fC1 (fLook gMinL)) := simC1 (simU_look fun F B H x d y f Q rp e q => by
  unfold gMinL at e
  have fin : ∀ {a : Addr} {i : Int} {is : List Int}, SqL K H a ((i :: is).map V.int) → (∀ u, Rep F g H (.int (minI i is)) u → Q u H) → rMin K [.ref a] H Q := fun {a i is} hs q => by
    obtain ⟨m1, m2, m3⟩ := minI_ok is i
    refine ⟨a, i :: is, rfl, hs, by simp, fun m hm hle => ?_⟩
    have e : m = minI i is := by
      have l1 : minI i is ≤ m := by
        rcases List.mem_cons.mp hm with rfl | hm
        · exact m2
        · exact m3 m hm
      have l2 : m ≤ minI i is := by
        rcases m1 with h | h
        · rw [h]; exact hle i (by simp)
        · exact hle _ (by simp [h])
      omega
    rw [e]
    exact q _ rfl
  split at e
  · rename_i xs
    split at e
    · rename_i i is hi
      cases e
      obtain ⟨a, vs, f', rfl, _, ha, rs⟩ := rp
      have ev := intsOf_reps hi rs
      subst ev
      exact fin (.inl (.inl ha)) q
    · cases e
  · rename_i xs
    split at e
    · rename_i i is hi
      cases e
      obtain ⟨⟨a, vs, rfl, _, ha, rs⟩, _⟩ := rp
      have ev := intsOf_reps hi (Reps.owned _ _ rs)
      subst ev
      exact fin (.inl (.inl ha)) q
    · cases e
  · cases e)
abbrev fMinL := fC1 (fLook gMinL)
theorem w_minL {e : Expr} {es : List Expr} {ms : M (List D)} {p pos : Pos} (hK : X.K = K) (hc : X.calm = true) (hg : Gl X "min") (hm : X.mg "min" = none) (ha : VA X g W (e :: es) ms) (he : starEach (e :: es) X.env = (false, eval e X.env) :: starEach es X.env := by rfl) (hpl : (backTo pos (starEach es X.env)).any (·.1) = false := by rfl) : VE X g W (.Call (.Name "min" p) (e :: es) [] pos) (mCB fMinL ms) := by
  subst hK
  exact v_bi (cr_min hc) c_minL hg hm boot_min ha (by decide) (by decide) he hpl
end
end SV
end
section
set_option Elab.async false
set_option linter.all false
set_option autoImplicit false
set_option maxRecDepth 100000
set_option maxHeartbeats 4000000
namespace SV
open PySem PySem.Spec L2
/-- a thing is frozen where it is read -/
def mFz (a : M D) : M D := bnd a fFrz
section
variable {g : Cn} {W : WX} {X : Cx} {e : Expr} {m : M D} {ρ : Env} {QD : Res D → Env → Prop}
theorem sim_fz {t : TE} (ha : SimE g W t m) : SimE g W t (mFz m) := fun F B H σ ρ T Q r ρ' S e px h => by
  unfold mFz at e
  rcases bnd_some e with ⟨d, ρ1, e1, e2⟩ | ⟨c, fs, e1, e2⟩
  · refine ha F B H σ ρ T Q (.ok d) ρ1 S e1 PX.ok fun d1 hd F1 B1 H1 v x1 S1 => ?_
    cases hd
    obtain ⟨d', hz, F2, B2, x2, S2, _⟩ := S1.fFrz e2
    exact h d' hz F2 B2 H1 v (x1.trans x2) S2
  · cases e2
    exact ha F B H σ ρ T Q (.exc c fs) _ S e1 px fun d hd => by cases hd
theorem v_fz (ha : VE X g W e m) : VE X g W e (mFz m) := .mk ⟨fun pins s σ H Q I h => ha.run pins s σ H Q I h⟩ (sim_fz selfE)
theorem b_fz (h : Ev m ρ (onOk QD fun x ρ1 => Ev (fFrz x) ρ1 QD)) : Ev (mFz m) ρ QD := by
  unfold mFz
  rw [ev_bnd]
  exact h
end
end SV
end
section
set_option Elab.async false
set_option linter.all false
set_option autoImplicit false
set_option maxRecDepth 100000
set_option maxHeartbeats 4000000
namespace SV
open PySem PySem.Spec L2
open PyProof.Rows hiding St
/-! ### an exception that is made and kept -/
theorem exV_ok {Pg : Program} {w : World} {H : Hp} {h : Heap} {a : Addr} {cls : Value} {d : Option Addr} {oe : Obj} {vs : Array Value} (e : h.get? a = some oe) (z : Zc cls d oe) (f : oe.data = .fields vs) : ObjOk Pg w H h a (exV cls d a) :=
  ⟨⟨oe, vs, e, z, f⟩, ⟨_, e⟩, fun _ _ ⟨o, v, q, r⟩ k => ⟨o, v, k _ q, r⟩⟩
theorem exV_at {Pg : Program} {w : World} {H : Hp} {h : Heap} {a : Addr} {cls : Value} {d : Option Addr} (ok : HOk Pg w H h) (e : H a = some (exV cls d a)) : ∃ (oe : Obj) (vs : Array Value), h.get? a = some oe ∧ Zc cls d oe ∧ oe.data = .fields vs :=
  (show ObjOk Pg w H h a (.ext fun h => ∃ (oe : Obj) (vs : Array Value), h.get? a = some oe ∧ Zc cls d oe ∧ oe.data = .fields vs) from ok a _ e).1
section
variable {X : Cx} {e : Expr} {te : TE} {pos : Pos}
/-- what `raise` would make, made and not raised -/
theorem pe_kept {t : St → Hp → XK → Prop} (h : PMk X e t) : PE X e (fun σ H Q => t σ H fun cls d H1 => ∀ a, H1 a = none → Q (.ref a) (upd H1 a (exV cls d a))) := by
  refine ⟨fun pins s σ H Q I q => wpAny_mono (h pins s σ H _ I q) ?_ fun _ _ x => x⟩
  rintro u s2 ⟨a, oe, vs, s1, H1, cls, d, rfl, J, k, na, ea, z, f, _, hn, os, bare, _, q⟩
  exact ⟨.ref a, _, J.call' (ch := []) os (Un.laidN k na hn) (J.hok.laidN k hn (exV_ok ea z f)) bare (fun b z => absurd z (by simp)), rfl, q a hn⟩
/-- its field -/
def tXv (K : PySem.W.Frag) (f : Str) (te : TE) : TE := fun σ H Q => te σ H fun x H1 => ∃ (a C dd : Addr) (fs : List (Str × V)) (v : V), x = .ref a ∧ (H1 a = some (exV (.ref C) (some dd) a) ∧ H1 dd = some (.xd fs)) ∧ (XfC K C ∧ PySem.W.findIn K (.ref C) f = some none) ∧ fs.lookup f = some v ∧ Q v H1
/-- the object, its dict, and how a name is found in it -/
theorem exV_inst {pins : List (Addr × Obj)} {σ : St} {H : Hp} {s : Shared} {a C dd : Addr} {fs : List (Str × V)} (I : Inv X pins σ H s) (ea : H a = some (exV (.ref C) (some dd) a)) (ed : H dd = some (.xd fs)) :
    ∃ (oe od : Obj) (mA : Str → Option Value), PySem.W.InstAt s.heap a oe C (some od) ∧ (∀ n, PySem.W.lookIn n od = some (mA n)) ∧ ∀ n, RelO (fs.lookup n) (mA n) := by
  obtain ⟨oe, vs, ho, ⟨z1, z2⟩, hf⟩ := exV_at I.hok ea
  obtain ⟨mA, hn, hr⟩ := (show ObjOk X.prog X.w H s.heap dd (.xd fs) from I.hok dd _ ed)
  obtain ⟨od, hod, hl⟩ := lookIn_ns hn
  exact ⟨oe, od, mA, ⟨ho, z1, by unfold PySem.W.notCls; rw [hf] <;> rfl, by rw [z2]; exact hod⟩, fun n => by rw [hl], hr⟩
theorem pe_xv {n : Str} (he : PE X e te) (hb : attributeBase e n X.env (eval e X.env) = eval e X.env := by rfl) : PE X (.Attribute e n pos) (tXv X.K n te) := by
  refine ⟨fun pins s σ H Q I h => attr_of hb (thn (he.run pins s σ H _ I h) ?_)⟩
  rintro u s1 ⟨x, H1, J, rx, a, C, dd, fs, v, rfl, ⟨ea, ed⟩, ⟨T, no⟩, l, q⟩
  obtain rfl : u = Value.ref a := rx
  obtain ⟨oe, od, mA, inst, hl, hr⟩ := exV_inst J ea ed
  obtain ⟨y, hy, ry⟩ := RelO.some_of (v := v) (o := mA n) (by rw [← l]; exact hr n)
  exact HandSPX.exc_get J.kIn inst T.ga T.gg T.exC (PySem.W.findObj_own T.hdC no rfl (by rw [hl, hy])) (handed_of ry) ⟨v, H1, J.tok _, ry, q⟩
/-- isinstance of it -/
def rIsV (K : PySem.W.Frag) : List V → Hp → VK → Prop := fun xs H Q => ∃ (a D : Addr) (c : V) (cv : Value) (b : Bool), xs = [.ref a, c] ∧ ((∃ (dd : Addr) (fs : List (Str × V)), H a = some (exV (.ref D) (some dd) a) ∧ H dd = some (.xd fs)) ∨ H a = some (exV (.ref D) none a)) ∧ ClsV c cv ∧ ExcC K D ∧ PySem.W.kitOne K (.ref D) cv = some b ∧ Q (.bl b) H
theorem call_isV : CallR X (.builtin "isinstance") (rIsV X.K) := by
  rintro pins s σ H xs us Q I r ⟨a, D, c, cv, b, rfl, ea, kc, C, e, q⟩
  obtain ⟨u1, u2, rfl, r1, r2⟩ := vals2 r
  obtain rfl := kc.eq r2
  obtain rfl : u1 = Value.ref a := r1
  have hcl : (PySem.W.clsIn X.K D).isSome = true := by
    obtain ⟨cd, hc, _⟩ := PySem.W.any_some C.hd
    rw [hc]
    rfl
  have fin : ∀ {oe : Obj} {od : Option Obj}, PySem.W.InstAt s.heap a oe D od → wpAny (model X.prog X.w) X.A (call (.builtin "isinstance") [.ref a, u2]) (EP X pins σ Q) X.xe s := fun {oe od} J =>
    PySem.W.kia_one (PySem.W.kitx_exc (x := a) (ox := oe) (od := od) hcl C.hg C.hk C.hs C.ha C.hn C.ht C.hm) I.kIn J e (fun z => by cases z) fun tk => ⟨.bl b, H, I.tok tk, rfl, q⟩
  rcases ea with ⟨dd, fs, ea, ed⟩ | ea
  · obtain ⟨oe, od, _, J, _⟩ := exV_inst I ea ed
    exact fin J
  · obtain ⟨oe, vs, ho, ⟨z1, z2⟩, hf⟩ := exV_at I.hok ea
    exact fin (od := none) ⟨ho, z1, by unfold PySem.W.notCls; rw [hf] <;> rfl, by rw [z2]; trivial⟩
end
end SV
end
section
set_option Elab.async false
set_option linter.all false
set_option autoImplicit false
set_option maxRecDepth 100000
set_option maxHeartbeats 4000000
namespace SV
open PySem PySem.Spec L2
section
variable {F B F' B' : Addr → Prop} {g : Cn} {W : WX} {P : List Nat} {H H' : Hp} {σ σ' : St} {ρ ρ' : Env} {T T' : Tm} {v : V} {d : D} {X : Cx} {K : PySem.W.Frag}
/-! ### X(e, ..) that is kept -/
def mMkV (c : Str) (ns : List Str) (a : M (List D)) : M D := bnd (bnd a fFrzs) fun xs => if xs.length = ns.length ∧ 0 < ns.length ∧ ns.length ≤ 900 then ret (.xv c ns xs) else stuck
theorem sim_mkV {C : Addr} {c : Str} {ns : List Str} {t : TA} {a : M (List D)} (hm : g.mg c = some (.ref C)) (nd : ns.Nodup) (ha : SimA g W t a) : SimE g W (fun σ H Q => tMkO C (spIni C ns) [] t σ H fun cls d H1 => ∀ a, H1 a = none → Q (.ref a) (upd H1 a (exV cls d a))) (mMkV c ns a) := fun F B H σ ρ T Q r ρ' S e px h => by
  unfold mMkV at e
  rcases bnd_some e with ⟨xs, ρ1, e1, e2⟩ | ⟨c', fs, e1, e2⟩
  · rcases bnd_some e1 with ⟨ds, ρ0, e3, e4⟩ | ⟨c', fs, e3, e4⟩
    · refine ha F B H σ ρ T _ (.ok ds) ρ0 S e3 PX.ok fun d1 hd F1 B1 H1 vs x1 l S1 => ?_
      cases hd
      obtain ⟨xs', hx, F2, B2, x2, S2, r2⟩ := S1.fFrzs l e4
      cases hx
      split at e2
      · rename_i hl
        cases e2
        have lv := r2.length
        refine ⟨by omega, fun o ho => ⟨o, vs, by simp, by rw [← lv]; exact hl.1, hl.2.1, upd_same, fun dx hdx hne => ⟨rfl, dx, _, upd_same, by rw [upd_ne hne, upd_same], ?_, ?_⟩⟩⟩
        · have := hdx
          rw [upd_ne hne] at this
          exact this
        · have hdx1 : H1 dx = none := by
            have := hdx
            rw [upd_ne hne] at this
            exact this
          have eH : upd (del (upd (upd (upd H1 o (exo o C none)) dx (exd dx (ns.zip vs).reverse)) o (exo o C (some dx))) o) dx (.xd (ns.zip vs).reverse) = upd H1 dx (.xd (ns.zip vs).reverse) := by
            funext b
            by_cases h1 : b = dx
            · rw [h1, upd_same, upd_same]
            · rw [upd_ne h1, upd_ne h1]
              by_cases h2 : b = o
              · rw [h2, del_same, ho]
              · rw [del_ne h2, upd_ne h2, upd_ne h1, upd_ne h2]
          rw [eH]
          intro p hp
          obtain ⟨F3, B3, x3, S3, f3⟩ := S2.newF (o := .xd (ns.zip vs).reverse) hdx1
          obtain ⟨F4, B4, x4, S4, f4⟩ := S3.newF (o := exV (.ref C) (some dx) p) hp
          refine h _ rfl F4 B4 _ (.ref p) (((x1.trans x2).trans x3).trans x4) (S4.push (d := .xv c ns xs) (v := .ref p) ⟨p, C, dx, vs, rfl, ⟨f4, x4.f _ f3⟩, ⟨upd_same, by rw [upd_ne (ne_of_none upd_same hp), upd_same]⟩, hm, ⟨nd, hl.1.symm⟩, Reps.mono ((x3.trans x4).ag S2.fb) _ _ r2⟩)
      · cases e2
    · cases e4
  · rcases bnd_some e1 with ⟨ds, ρ0, e3, e4⟩ | ⟨c2, fs2, e3, e4⟩
    · refine ha F B H σ ρ T _ (.ok ds) ρ0 S e3 PX.ok fun d1 hd F1 B1 H1 vs x1 l S1 => ?_
      cases hd
      obtain ⟨xs', hx, _⟩ := S1.fFrzs l e4
      cases hx
    · cases e2
      cases e4
      exact ha F B H σ ρ T _ (.exc _ _) _ S e3 px.cast fun d hd => by cases hd
theorem v_mkV {C fI : Addr} {c : Str} {ns : List Str} {k : Nat} {fd : FuncData} {ps : List Str} {e : Expr} {es : List Expr} {ms : M (List D)} {p pos : Pos} (To : OexC X.K C) (iC : PySem.W.findIn X.K (.ref C) "__init__" = some (some (.ref fI))) (tI : PySem.W.typeIn X.K (.ref fI) = some (.type "function"))
    (F1 : FnOk X.prog X.w X.K X.mg X.base (L2.CX X.prog X.w) k fI fd ps (spIni C ns)) (hr : Room (k + 1) X.A) (hb : Binds X.K fd ps []) (hg : Gl X c) (hm : X.mg c = some (.ref C)) (hgm : g.mg = X.mg) (nd : ns.Nodup) (ha : VA X g W (e :: es) ms)
    (hdb : (c == ("__debug__" : Str)) = false := by decide) (he : starEach (e :: es) X.env = (false, eval e X.env) :: starEach es X.env := by rfl) (hpl : (backTo pos (starEach es X.env)).any (·.1) = false := by rfl) :
    VE X g W (.Call (.Name c p) (e :: es) [] pos) (mMkV c ns ms) :=
  .mk (pe_kept (pmk_oex To iC tI F1 hr hb .nil passL hg hm ha hdb he hpl)) (sim_mkV (by rw [hgm]; exact hm) nd selfA)
/-- X('..') of a class without an __init__ of its own -/
theorem v_mkW {C : Addr} {c m : Str} {bmB : List Value} {Bs nI iI : String} {j : Nat} {p p2 pos : Pos} (Fb : PySem.ExcBaseFacts Bs nI iI bmB) (q : PySem.W.excIn X.K C bmB nI = true) (hm : X.mg c = some (.ref C)) (hk : PySem.W.keepIn X.K (.ref C) = true) (r : Raises X (.ref C)) (hgm : g.mg = X.mg) (hg : Gl X c)
    (hdb : (c == ("__debug__" : Str)) = false := by decide) : VE X g W (.Call (.Name c p) [.Constant (.str m) j p2] [] pos) (ret (.xw c)) :=
  .mk (pe_kept (pmk_own Fb q hm hk r hg hdb)) fun F B H σ ρ T Q r ρ' S e px h => by
    cases e
    intro a ha
    obtain ⟨F3, B3, x3, S3, f3⟩ := S.newF (o := exV (.ref C) none a) ha
    exact h _ rfl F3 B3 _ (.ref a) x3 (S3.push (d := .xw c) (v := .ref a) ⟨a, C, rfl, f3, upd_same, by rw [hgm]; exact hm⟩)
/-! ### its fields -/
def gXv (ok : List Str) (n : Str) : D → Option D
  | .xv c ns xs => if c ∈ ok then (ns.zip xs).lookup n else none
  | _ => none
theorem sim_xv {ok : List Str} {n : Str} {te : TE} {a : M D} (hok : ∀ (c : Str) (C : Addr), c ∈ ok → g.mg c = some (.ref C) → XfC K C ∧ PySem.W.findIn K (.ref C) n = some none) (ha : SimE g W te a) : SimE g W (tXv K n te) (mUn (fLook (gXv ok n)) a) := fun F B H σ ρ T Q res ρ' S e px h => by
  refine SimE.bind ha S e px fun d ρ1 F1 B1 H1 v e1 x1 S1 => ?_
  obtain ⟨x, y, e2, e3, e4⟩ := fLook_some e1
  cases e4
  obtain ⟨f, rx⟩ := S1.look1 e2
  unfold gXv at e3
  split at e3
  · rename_i c ns xs
    split at e3
    · rename_i hc
      obtain ⟨⟨p, C, dx, vs, rfl, _, h12, m, ⟨nd, ln⟩, s⟩, _⟩ := rx
      obtain ⟨w, q, r⟩ := zip_lookup s e3
      exact ⟨p, C, dx, _, w, rfl, h12, hok c C hc m, lookup_rev nd (by rw [ln, s.length]) q, h _ rfl F1 B1 H1 w x1 (S1.pop.push r)⟩
    · cases e3
  · cases e3
theorem v_xv {ok : List Str} {n : Str} {e : Expr} {m : M D} {pos : Pos} (hok : ∀ (c : Str) (C : Addr), c ∈ ok → g.mg c = some (.ref C) → XfC X.K C ∧ PySem.W.findIn X.K (.ref C) n = some none) (he : VE X g W e m) (hb : attributeBase e n X.env (eval e X.env) = eval e X.env := by rfl) :
    VE X g W (.Attribute e n pos) (mUn (fLook (gXv ok n)) m) := .mk (pe_xv he hb) (sim_xv hok selfE)
/-! ### isinstance of it -/
def gIsC (tab : List (Str × Bool)) : D → Option D
  | .xv c _ _ => (match tab.lookup c with
    | some b => some (.bl b)
    | none => none)
  | .xw c => (match tab.lookup c with
    | some b => some (.bl b)
    | none => none)
  | _ => none
theorem sim_isC {tab : List (Str × Bool)} {cV : V} {cv : Value} {te : TE} {a : M D} (kc : ClsV cV cv) (ht : ∀ (c : Str) (b : Bool) (C : Addr), tab.lookup c = some b → g.mg c = some (.ref C) → ExcC K C ∧ PySem.W.kitOne K (.ref C) cv = some b) (ha : SimE g W te a) :
    SimE g W (tCB (rIsV K) (tCons te (tCons (tC cV) tNil))) (mUn (fLook (gIsC tab)) a) := fun F B H σ ρ T Q res ρ' S e px h => by
  refine SimE.bind ha S e px fun d ρ1 F1 B1 H1 v e1 x1 S1 => ?_
  obtain ⟨x, y, e2, e3, e4⟩ := fLook_some e1
  cases e4
  obtain ⟨f, rx⟩ := S1.look1 e2
  unfold gIsC at e3
  split at e3
  · rename_i c ns xs
    split at e3
    · rename_i b hb
      cases e3
      obtain ⟨⟨p, C, dx, vs, rfl, _, h12, m, _, s⟩, _⟩ := rx
      obtain ⟨h1, h2⟩ := ht c b C hb m
      exact ⟨p, C, cV, cv, b, rfl, .inl ⟨dx, _, h12⟩, kc, h1, h2, h _ rfl F1 B1 H1 (.bl b) x1 (S1.pop.push rfl)⟩
    · cases e3
  · rename_i c
    split at e3
    · rename_i b hb
      cases e3
      obtain ⟨⟨p, C, rfl, _, h1, m⟩, _⟩ := rx
      obtain ⟨h2, h3⟩ := ht c b C hb m
      exact ⟨p, C, cV, cv, b, rfl, .inr h1, kc, h2, h3, h _ rfl F1 B1 H1 (.bl b) x1 (S1.pop.push rfl)⟩
    · cases e3
  · cases e3
theorem v_isC {tab : List (Str × Bool)} {x : Str} {C : Addr} {a : Expr} {ma : M D} {p p2 pos : Pos} (hg : Gl X "isinstance") (hm : X.mg "isinstance" = none) (ha : VE X g W a ma) (hg2 : Gl X x) (hx : X.mg x = some (.ref C))
    (ht : ∀ (c : Str) (b : Bool) (C1 : Addr), tab.lookup c = some b → g.mg c = some (.ref C1) → ExcC X.K C1 ∧ PySem.W.kitOne X.K (.ref C1) (.ref C) = some b)
    (hd : (x == ("__debug__" : Str)) = false := by decide) (he : starEach [a, .Name x p2] X.env = (false, eval a X.env) :: starEach [.Name x p2] X.env := by rfl) (hpl : (backTo pos (starEach [.Name x p2] X.env)).any (·.1) = false := by rfl) :
    VE X g W (.Call (.Name "isinstance" p) [a, .Name x p2] [] pos) (mUn (fLook (gIsC tab)) ma) :=
  .mk (pe_callB call_isV hg hm PyProof.Rows.boot_isinstance (pa_cons ha (pa_cons (pe_glob (v := .ref C) hg2 hx rfl hd) pa_nil starEach_name) he) (by decide) (by decide) he hpl) (sim_isC (.own C) ht selfE)
theorem v_isCT {tab : List (Str × Bool)} {x : Str} {n : String} {a : Expr} {ma : M D} {p p2 pos : Pos} (hg : Gl X "isinstance") (hm : X.mg "isinstance" = none) (ha : VE X g W a ma) (hg2 : Gl X x) (hx : X.mg x = none) (hv : bootBuiltins x = some (.type n)) (hn : x ≠ "__name__")
    (ht : ∀ (c : Str) (b : Bool) (C1 : Addr), tab.lookup c = some b → g.mg c = some (.ref C1) → ExcC X.K C1 ∧ PySem.W.kitOne X.K (.ref C1) (.type n) = some b)
    (hd : (x == ("__debug__" : Str)) = false := by decide) (he : starEach [a, .Name x p2] X.env = (false, eval a X.env) :: starEach [.Name x p2] X.env := by rfl) (hpl : (backTo pos (starEach [.Name x p2] X.env)).any (·.1) = false := by rfl) :
    VE X g W (.Call (.Name "isinstance" p) [a, .Name x p2] [] pos) (mUn (fLook (gIsC tab)) ma) :=
  .mk (pe_callB call_isV hg hm PyProof.Rows.boot_isinstance (pa_cons ha (pa_cons (pe_tyn hg2 hx hv hn hd) pa_nil starEach_name) he) (by decide) (by decide) he hpl) (sim_isC (.ty n) ht selfE)
end
/-! ### what the written part says of many classes -/
theorem excCB_ok {K : PySem.W.Frag} {D : Addr} (h : excCB K D = true) : ExcC K D := by
  obtain ⟨h1, h⟩ := Bool.and_eq_true_iff.mp h
  obtain ⟨h2, h⟩ := Bool.and_eq_true_iff.mp h
  obtain ⟨h3, h⟩ := Bool.and_eq_true_iff.mp h
  obtain ⟨h4, h⟩ := Bool.and_eq_true_iff.mp h
  obtain ⟨h5, h⟩ := Bool.and_eq_true_iff.mp h
  obtain ⟨h6, h⟩ := Bool.and_eq_true_iff.mp h
  obtain ⟨h7, h8⟩ := Bool.and_eq_true_iff.mp h
  exact ⟨of_decide_eq_true h1, of_decide_eq_true h2, of_decide_eq_true h3, h4, of_decide_eq_true h5, of_decide_eq_true h6, of_decide_eq_true h7, of_decide_eq_true h8⟩
theorem kitTab_ok {K : PySem.W.Frag} {MR : List (Str × List Str)} {CS : List (Str × Value)} (h : kitTab K MR CS = true) {q : Str × List Str} {z : Str × Value} (hq : q ∈ MR) (hz : z ∈ CS) :
    ExcC K (He.ga K q.1) ∧ PySem.W.kitOne K (.ref (He.ga K q.1)) z.2 = some (q.2.contains z.1) := by
  obtain ⟨h1, h2⟩ := Bool.and_eq_true_iff.mp h
  have c1 := List.all_eq_true.mp h1 z hz
  obtain ⟨h3, h4⟩ := Bool.and_eq_true_iff.mp (List.all_eq_true.mp h2 q hq)
  refine ⟨excCB_ok h3, ?_⟩
  split at h4
  · rename_i cd hcd
    obtain ⟨h5, h6⟩ := Bool.and_eq_true_iff.mp h4
    obtain ⟨h7, h8⟩ := Bool.and_eq_true_iff.mp (List.all_eq_true.mp h6 z hz)
    have h7 := beq_iff_eq.mp h7
    have sub : PySem.W.subIn K (.ref (He.ga K q.1)) z.2 = some (q.2.contains z.1) := by
      show PySem.W.mroIn K (He.ga K q.1) z.2 = _
      unfold PySem.W.mroIn
      rw [hcd, Option.bind_some, if_neg (by simpa using h5), h7]
    unfold PySem.W.kitOne
    split
    · rename_i e
      rw [e] at h8
      rw [show q.2.contains z.1 = true from by simpa using h8]
    · unfold PySem.W.kitCls
      obtain ⟨zn, zv⟩ := z
      cases zv with
      | ref C =>
        have c2 : ((PySem.W.clsIn K C).isSome && PySem.W.typeIn K (.ref C) == some (.type "type")) = true := c1
        simp only
        rw [if_pos c2]
        exact sub
      | type T =>
        have c2 : PySem.W.kitMeta T = true := c1
        simp only
        rw [if_pos c2]
        exact sub
      | _ => cases c1
  · cases h4
theorem lookup_mem {α β : Type} [BEq α] [LawfulBEq α] : ∀ {l : List (α × β)} {k : α} {b : β}, l.lookup k = some b → (k, b) ∈ l
  | [], _, _, h => by cases h
  | (k2, b2) :: r, k, b, h => by
    unfold List.lookup at h
    split at h
    · rename_i e
      cases h
      rw [beq_iff_eq.mp e]
      exact List.mem_cons_self
    · exact List.mem_cons_of_mem _ (lookup_mem h)
theorem clsV_ref {K : PySem.W.Frag} {x : Str} (h : x ≠ "ValueError") : clsV K x = .ref (He.ga K x) := if_neg h
theorem clsV_VE {K : PySem.W.Frag} : clsV K "ValueError" = .type "ValueError" := if_pos rfl
theorem it_of {K : PySem.W.Frag} {mg : Str → Option Value} {MR : List (Str × List Str)} {CSN : List Str} (h : kitTab K MR (CSN.map fun n => (n, clsV K n)) = true) (hx : ∀ q ∈ MR, mg q.1 = some (.ref (He.ga K q.1))) {x : Str} (hn : x ∈ CSN) :
    ∀ (c : Str) (b : Bool) (C1 : Addr), (MR.map fun q => (q.1, q.2.contains x)).lookup c = some b → mg c = some (.ref C1) → ExcC K C1 ∧ PySem.W.kitOne K (.ref C1) (clsV K x) = some b := fun c b C1 e m => by
  obtain ⟨q, hq, z⟩ := List.mem_map.mp (lookup_mem e)
  cases z
  have m2 := hx q hq
  rw [m] at m2
  cases m2
  exact kitTab_ok h hq (List.mem_map.mpr ⟨x, hn, rfl⟩)
end SV
end
section
set_option Elab.async false
set_option linter.all false
set_option autoImplicit false
set_option maxRecDepth 100000
set_option maxHeartbeats 4000000
namespace SV
open PySem PySem.Spec L2
open PyProof.Rows hiding St
/-! ### a comprehension whose element may let an exception out -/
def compPX (M : Model) (A : Around) (E : Value → Shared → Prop) (Q : Value → Shared → Prop) (acc : Value) (ce : PySem.Env) (r : Result) (s' : Shared) : Prop :=
  match r with
  | .ok _ => ∃ m, s'.heap.Ns ce.locals m ∧ ∀ h', Heap.SameBut ce.locals s'.heap h' → Q acc { s' with heap := h' }
  | .error x => ∃ m, s'.heap.Ns ce.locals m ∧ ∀ h', Heap.SameBut ce.locals s'.heap h' → wpAny M A (passOn "comprehension.variables-let-go" x ce : Sem Value) (fun _ _ => False) E { s' with heap := h' }
section
variable {M : Model} {A : Around} {E : Value → Shared → Prop} {s : Shared} {env : PySem.Env}
theorem comprehension_px {e : Expr} {scope : Scope} {pos : Pos} {newAcc first : Sem Value} {g : Comprehension} {gs : List Comprehension} {cl : List (Str × Addr)}
    {Q : Value → Shared → Prop}
    (hcl : clausesOf e = g :: gs) (hs : ∀ x, foldedSetIterable g.iter env x = pure x) (hclos : closureFor scope env = pure cl)
    (hkind : scope.kind = .function) (hnames : ∀ x ∈ scope.names, x.2 = .local → scope.names.lookup x.1 = some .local)
    (h : wpAny M A first (fun x s₁ => wpAny M A (pyIter x) (fun it s₂ => wpAny M A newAcc (fun acc s₃ =>
      wpAny M A (newFunctionEnv scope env.globals cl [] env.qual none .none (some env)) (fun cenv s₄ =>
        codeAny M A (.compStart e 0 it acc { cenv with scope := relabel scope env }) (compPX M A E Q acc { cenv with scope := relabel scope env }) s₄) E s₃) E s₂) E s₁) E s) :
    wpAny M A (comprehension e scope env pos newAcc false first) Q E s := by
  unfold comprehension
  rw [hclos, hcl]
  refine wpAny_bind (wpAny_mono h (fun x s₁ h₁ => wpAny_bind (wpAny_standAt (wpAny_bind (wpAny_of_eq (hs x) (wpAny_bind (wpAny_holding (wpAny_mono h₁ (fun it s₂ h₂ =>
    wpAny_standIf (wpAny_bind (wpAny_mono h₂ (fun acc s₃ h₃ => wpAny_bind (wpAny_pure (wpAny_bind (wpAny_mono h₃ (fun cenv s₄ h₄ => ?_) fun _ _ h' => h')))) fun _ _ h' => h')))
      fun _ _ h' => h'))))))) fun _ _ h' => h')
  dsimp only
  have hv : ∀ x ∈ (scope.names.filter fun x => (x.2 == .local || x.2 == .cell) && x.1 != (".0" : Str)).reverse, x.2 = .local →
      Env.kindOf { cenv with scope := relabel scope env } x.1 = some .local := fun x hx hl => lookup_relabel_local (hnames x (List.mem_filter.mp (List.mem_reverse.mp hx)).1 hl)
  have hv' : ∀ x ∈ (scope.names.filter fun x => (x.2 == .local || x.2 == .cell) && x.1 != (".0" : Str)).reverse.drop 1 ++ (scope.names.filter fun x => (x.2 == .local || x.2 == .cell) && x.1 != (".0" : Str)).reverse.take 1,
      x.2 = .local → Env.kindOf { cenv with scope := relabel scope env } x.1 = some .local := fun x hx hl => by
    rcases List.mem_append.mp hx with h1 | h1
    · exact hv x (List.mem_of_mem_drop h1) hl
    · exact hv x (List.mem_of_mem_take h1) hl
  refine wpAny_holding (wpAny_bind (wpAny_attempt (wpAny_holding (wpAny_run (codeAny_mono h₄ fun r s' hr => ?_)))))
  cases r with
  | ok f =>
    obtain ⟨m, hn, hr⟩ := hr
    exact wpAny_bind (wpAny_holding (wpAny_comp_letGo (cenv := { cenv with scope := relabel scope env }) hkind _ s' m hv hn fun h' m' _ hs' => wpAny_pure (hr h' hs')))
  | error x =>
    obtain ⟨m, hn, hr⟩ := hr
    exact wpAny_bind (wpAny_holding (wpAny_comp_letGo (cenv := { cenv with scope := relabel scope env }) hkind _ s' m hv hn fun h' m' _ hs' => wpAny_mono (hr h' hs') (fun _ _ f => f.elim) fun _ _ y => y))
end
section
variable {M : Model} {A : Around} {E : Value → Shared → Prop} {s : Shared} {Z : Obj → Prop} {base : Heap} {env ce : PySem.Env} {outer l : List PySem.Env} {L e : Addr}
/-- an exception that another frame's hand let fly is noted -/
theorem looks_anyZ {fl : Value} {Q : Unit → Shared → Prop} (hZ : HandSPX.Steady Z) (hfr : A.frames = some (env :: outer)) (hf : env.frame = some L) (hfl : (fl == rawInt L) = false) (hkb : base.StaysIn s.heap) (hen : base.get? e = none) (hl : s.heap.FunFrames base (env :: outer)) (ht : HandSPX.TracedZ s.heap base e Z fl)
    (hQ : ∀ h', HandSPX.HeldZ base (env :: outer) e Z L h' → s.heap.UpToSlots h' → Q () { s with heap := h' }) : wpAny M A (noteFrame (.ref e) env) Q E s := by
  obtain ⟨oe, vs, T, oT, ts, he, hz, hd, h1, hnT, hTe, hT, hdT, h3⟩ := ht
  unfold noteFrame
  simp only [hf]
  refine wpAny_bind (wpAny_field he hd h1 ?_)
  rw [if_pos (show (Value.ref T != Value.none) = true from by simp)]
  refine wpAny_bind (wpAny_field hT hdT h3 ?_)
  rw [if_neg (show ¬ ((fl == rawInt L) = true) from by simp [hfl])]
  refine wpAny_bind (wpAny_setField hT hdT (Array.getElem?_eq_some_iff.mp h3).1 ?_)
  have other : ∀ b, b ≠ T → (s.heap.update T (Obj.mapFields (·.setIfInBounds 3 Value.none))).get? b = s.heap.get? b := fun b hb => Heap.get?_update_other _ _ (Ne.symm hb)
  have noRecord : ∀ b o, s.heap.get? b = some o → (∀ vs, o.data ≠ .fields vs) → b ≠ T := fun b o hb hnf q => by
    rw [q, hT] at hb; injection hb with hb; subst hb; exact hnf ts hdT
  refine HandSPX.wpAny_entryZ hZ hfr (hl.of_keeps fun b o hb hnf => ⟨o, (other b (noRecord b o hb hnf)).trans hb, rfl⟩) hf ((other e (Ne.symm hTe)).trans he)
    (fun b o hbo => (other b fun q => by rw [q, hnT] at hbo; cases hbo).trans (hkb b o hbo)) hen hd (Array.getElem?_eq_some_iff.mp h1).1 hz fun h' hN => ?_
  obtain ⟨x1, x2, x3, x4⟩ := hN
  exact hQ h' ⟨x1, hen, x2, x3⟩ fun b o hb hnf => x4 b o ((other b (noRecord b o hb hnf)).trans hb) hnf
theorem funFrames_at : ∀ {l : List PySem.Env} {h h' B : Heap}, h.FunFrames B l → (∀ b ∈ frs l, h'.get? b = h.get? b) → h'.FunFrames B l
  | [], _, _, _, _, _ => trivial
  | env :: l, h, h', B, ⟨hk, ⟨L, o, hf, hn, ho, hd⟩, hr⟩, q => ⟨hk, ⟨L, o, hf, hn, (q L (List.mem_filterMap.mpr ⟨env, List.mem_cons_self, hf⟩)).trans ho, hd⟩, funFrames_at hr fun b hb => by
      obtain ⟨e, he, z⟩ := List.mem_filterMap.mp hb
      exact q b (List.mem_filterMap.mpr ⟨e, List.mem_cons_of_mem _ he, z⟩)⟩
/-- noted in this frame's hand, whatever was there -/
theorem Sky.noted {B : Heap} {C a : Addr} {Q : Unit → Shared → Prop} (hZ : HandSPX.Steady Z) (hfr : A.frames = some (env :: outer)) (hf : env.frame = some L) (hce : ce.frame = env.frame)
    (x : Sky B (env :: outer) a Z C s.heap) (hQ : ∀ h', HandSPX.HeldZ B (env :: outer) a Z L h' → s.heap.UpToSlots h' → Q () { s with heap := h' }) :
    wpAny M A (noteFrame (.ref a) ce) Q E s := by
  have en : noteFrame (.ref a) ce = noteFrame (.ref a) env := by
    unfold noteFrame PySem.frameOf
    rw [hce]
  rw [en]
  rcases x with ⟨hB, hn, hl, oe, vs, he, hz, hd, h1⟩ | fl | hh
  · exact HandSPX.look_newZ hZ hfr hl hf he hB hn hd h1 hz hQ
  · exact HandSPX.looks_onZ hZ hfr hf fl hQ
  · obtain ⟨f1, f2, f3, f4⟩ := hh
    by_cases hCL : C = L
    · subst hCL
      exact HandSPX.againZ hf f4 (hQ s.heap ⟨f1, f2, f3, f4⟩ (Heap.UpToSlots.refl _))
    · exact looks_anyZ hZ hfr hf (by simp [rawInt]; exact fun z => hCL (Int.ofNat.inj z)) f1 f2 f3 f4 hQ
end
section
variable {X : Cx}
theorem lcX_core {pins : List (Addr × Obj)} {s : Shared} {σ : St} {H : Hp} {Q : VK} {elt tg iter : Expr} {ifs : List Expr} {scope : Scope} {own : List (Str × Nat)} {pos pos' : Pos} {wi : TI} {g : TG} {tt : TT} {te : WX → TE} {W : WX} {Qf : Value → Shared → Prop}
    (hc : X.calm = true) (hN : X.N.Nodup) (hs0 : X.stack = X.env :: X.outer) (hf : X.env.frame = some X.env.locals) (tk : Takes X W) (I : Inv X pins σ H s) (hi : PI X tg iter wi) (ok : BlkOk X.N X.env.scope scope own)
    (hg : ∀ (s : Shared) (H : Hp) (C : Addr) (cl : List (Str × Addr)) (fp : List Addr), PG (X.blk s H scope (compEnvC scope cl C X.env) fp) tg g) (ht : ∀ (s : Shared) (H : Hp) (C : Addr) (cl : List (Str × Addr)) (fp : List Addr), PTs (X.blk s H scope (compEnvC scope cl C X.env) fp) ifs tt)
    (he : ∀ (s : Shared) (H : Hp) (C : Addr) (cl : List (Str × Addr)) (fp : List Addr) (Wb : WX) (pn : List (Addr × Obj)) (xe : Value → Shared → Prop), Takes ((X.blk s H scope (compEnvC scope cl C X.env) fp).tr pn xe) Wb → PE ((X.blk s H scope (compEnvC scope cl C X.env) fp).tr pn xe) elt (te Wb))
    (hs : ∀ x, foldedSetIterable iter X.env x = pure x)
    (h : tLc wi g tt (te fun c d _ H' => W c d σ H') (own.map (·.2)) σ H Q)
    (hRR : ∀ D ce s' m H', Inv X pins σ H' s' → Q (.ref D) H' → s'.heap.Ns ce.locals m → FpOk X pins H' ce.locals → compPX (model X.prog X.w) X.A X.xe Qf (.ref D) ce (.ok .next) s') :
    wpAny (model X.prog X.w) X.A (comprehension (.ListComp elt [⟨tg, iter, ifs, 0⟩] scope pos) scope X.env pos' (newList []) false (eval iter X.env)) Qf X.xe s := by
  have hfree : ∀ y ∈ scope.names, y.2 = .free → ∃ c, X.env.cells.lookup y.1 = some c := fun y hy e => by
    rcases ok.free y hy e with k | k
    · exact I.ok.has _ (.inl k)
    · exact I.ok.has _ (.inr k)
  refine comprehension_px rfl hs (closure_ok hfree) ok.kind (fun y hy e => by rw [ok.uniq y hy, e])
    (thn (hi.run pins s σ H _ I h) fun xv s1 hx => thn hx fun itv s2 h2 => ?_)
  obtain ⟨it, fp, tn, J, H2, e, I2, T, st2, f2, q⟩ := h2
  subst e
  refine wpAny_newObj_type (newEnv_comp ?_) (by show 0 ≤ sizeLine; decide)
  generalize hD : s2.heap.objs.size = D
  have hDn : H2 D = none := I2.hok.fresh (Nat.le_of_eq hD)
  obtain ⟨W', ⟨m0, w0⟩, turn⟩ := q D hDn
  generalize hs3 : ({ s2 with heap := s2.heap.push { cls := .type "list", data := .seq ([] : List Value).toArray } } : Shared) = s3
  have I3 : Inv X pins σ (upd H2 D (.lst [])) s3 := by
    rw [← hs3]
    refine I2.laid (t' := s2.toks) (fun b o e => Heap.get?_push_of_some _ e) (Nat.le_of_eq hD) ⟨Nat.zero_le _, [], 0, .nil, ?_⟩
    rw [← hD]
    exact Heap.get?_push_size _ rfl
  have h3 : s3.heap = s2.heap.push { cls := .type "list", data := .seq ([] : List Value).toArray } := by rw [← hs3]
  have sz : ∀ b ∈ fp, b < s2.heap.objs.size := fun b hb => by
    obtain ⟨o, e, _⟩ := T.obj _ _ st2 b hb
    exact Heap.lt_size e
  have f3 : ∀ b ∈ fp, FpOk X pins (upd H2 D (.lst [])) b ∧ b < s3.heap.objs.size := fun b hb => by
    have hlt := sz b hb
    refine ⟨⟨?_, (f2 b hb).2⟩, by rw [h3, Heap.size_push]; exact Nat.lt_succ_of_lt hlt⟩
    rw [upd_ne (by rw [← hD]; exact Nat.ne_of_lt hlt)]
    exact (f2 b hb).1
  have st3 : tn 0 s3.heap := T.keep _ _ _ st2 fun b _ o e => by rw [h3]; exact Heap.get?_push_of_some _ e
  have I4 := block_start I3 ok hN f3
  have pg := hg s3 (upd H2 D (.lst [])) s3.heap.objs.size (cellsFrom (s3.heap.objs.size + 1) scope.names (cloFrom X.env.cells scope.names [])) fp
  have pt := ht s3 (upd H2 D (.lst [])) s3.heap.objs.size (cellsFrom (s3.heap.objs.size + 1) scope.names (cloFrom X.env.cells scope.names [])) fp
  have pe := he s3 (upd H2 D (.lst [])) s3.heap.objs.size (cellsFrom (s3.heap.objs.size + 1) scope.names (cloFrom X.env.cells scope.names [])) fp
  show codeAny _ _ (.compStart (.ListComp elt [⟨tg, iter, ifs, 0⟩] scope pos) 0 (.ref it) (.ref D) (compEnvC scope (cellsFrom (s3.heap.objs.size + 1) scope.names (cloFrom X.env.cells scope.names [])) s3.heap.objs.size X.env)) (compPX (model X.prog X.w) X.A X.xe Qf (.ref D) (compEnvC scope (cellsFrom (s3.heap.objs.size + 1) scope.names (cloFrom X.env.cells scope.names [])) s3.heap.objs.size X.env)) { s3 with heap := pushCells (s3.heap.push { cls := .type "dict", data := .dict #[] }) scope.names }
  have nfp : ∀ b ∈ fp, (upd H2 D (.lst [])) b = none := fun b hb => (f3 b hb).1.1
  generalize hce : compEnvC scope (cellsFrom (s3.heap.objs.size + 1) scope.names (cloFrom X.env.cells scope.names [])) s3.heap.objs.size X.env = ce at I4 pg pt pe ⊢
  have cL : ce.locals = s3.heap.objs.size := by subst hce; rfl
  have cF : ce.frame = X.env.frame := by subst hce; rfl
  generalize hH3 : upd H2 D (.lst []) = H3 at I3 I4 pg pt pe w0 nfp f3
  generalize hs4 : ({ s3 with heap := pushCells (s3.heap.push { cls := .type "dict", data := .dict #[] }) scope.names } : Shared) = s4 at I4 ⊢
  have st4 : tn 0 s4.heap := T.keep _ _ _ st3 fun b _ o e => by rw [← hs4]; exact pushCells_keeps _ _ _ _ (Heap.get?_push_of_some _ e)
  have stat : ∀ {σ' : St} {H' : Hp} {s' : Shared}, Inv (X.blk s3 H3 scope ce fp) [] σ' H' s' → (∀ b ∈ fp, H' b = none) → ∀ b ∈ fp, FpOk (X.blk s3 H3 scope ce fp) [] H' b := fun {σ' H' s'} I' hn b hb =>
    ⟨hn b hb, (I'.ok.exf b hb).1, I'.ok.exfs b hb, .inl hb, fun x c e => (I'.ok.exf b hb).2 x c e, fun p hp => absurd (show p ∈ ([] : List (Addr × Obj)) ++ [] from hp) (by simp)⟩
  -- an exception of the element goes on to the def
  have tkb : ∀ pn : List (Addr × Obj), Takes ((X.blk s3 H3 scope ce fp).tr pn (notedBy (model X.prog X.w) X.A ce fun e s' => compPX (model X.prog X.w) X.A X.xe Qf (.ref D) ce (.error e) s')) (fun c d _ H' => W c d σ H') := by
    rintro pn u s' ⟨a, B, sI, pins', σ', H', cls, d, rfl, I', nb, up, sky, na, os, ag, w⟩
    show wpAny _ _ (noteFrame (.ref a) ce) _ _ _
    have sky : Sky B X.stack a (Zc cls d) ce.locals s'.heap := sky
    rw [hs0] at sky
    refine Sky.noted (L := X.env.locals) Zc.steady (by rw [I.ok.frames, hs0]) hf cF sky fun h1 hh up1 => ?_
    obtain ⟨m, hn, _⟩ := I'.loc
    have hn : sI.heap.Ns ce.locals m := hn
    obtain ⟨o, es, ep, ho, hd, hrest⟩ := hn
    have hCf : ce.locals ∉ frs X.stack := fun hm => by
      obtain ⟨_, o', e', _⟩ := I3.stack.mem hm
      have z := Heap.lt_size e'
      rw [cL] at z
      exact Nat.lt_irrefl _ z
    have hB : B.get? ce.locals = some o := nb _ o ho hCf
    obtain ⟨f1, fa, f3', oe, vs, T', oT, ts, hge, hz, hd2, hv1, hnT, hTe, hT, hdT, hv3⟩ := hh
    have h1C : h1.get? ce.locals = some o := f1 _ o hB
    refine ⟨m, ⟨o, es, ep, h1C, hd, hrest⟩, fun h' sb => ?_⟩
    have naC : a ≠ ce.locals := fun z => by rw [z, h1C] at hge; cases hge; rw [hd] at hd2; cases hd2
    have nTC : T' ≠ ce.locals := fun z => by rw [z, h1C] at hT; cases hT; rw [hd] at hdT; cases hdT
    have hge' : h'.get? a = some oe := (sb.2 a naC).trans hge
    have hT' : h'.get? T' = some oT := (sb.2 T' nTC).trans hT
    have hB' : ∀ b, B.get? b = none → (PySem.W.hideAll B [ce.locals]).get? b = none := fun b e => by
      cases q : (PySem.W.hideAll B [ce.locals]).get? b with
      | none => rfl
      | some o' =>
        have z := PySem.W.of_hideAll _ q
        rw [e] at z; cases z
    have nC : ∀ (h : Heap) b o', (PySem.W.hideAll h [ce.locals]).get? b = some o' → b ≠ ce.locals ∧ h.get? b = some o' := fun h b o' e => ⟨fun z => (by
      rw [z, PySem.W.hideAll_none [ce.locals] (by simp)] at e
      cases e), PySem.W.of_hideAll _ e⟩
    have hh' : HandSPX.HeldZ (PySem.W.hideAll B [ce.locals]) (X.env :: X.outer) a (Zc cls d) X.env.locals h' := by
      refine ⟨fun b o' e => ?_, hB' a fa, ?_, oe, vs, T', oT, ts, hge', hz, hd2, hv1, hB' T' hnT, hTe, hT', hdT, hv3⟩
      · obtain ⟨n1, n2⟩ := nC B b o' e
        exact (sb.2 b n1).trans (f1 b o' n2)
      · refine funFrames_at (funFrames_none f3' fun b hb => hB' b (f3'.mem hb).1) fun b hb => sb.2 b fun z => hCf ?_
        rw [← z, hs0]; exact hb
    unfold PySem.passOn
    refine wpAny_bind (wpAny_field hge' hd2 hv1 ?_)
    rw [if_neg (show ¬ ((Value.ref T' == Value.none) = true) from by simp)]
    have fin : wpAny (model X.prog X.w) X.A (setFlight (.ref a) ce.frame) (fun _ s4 => wpAny (model X.prog X.w) X.A (throw (.ref a) : Sem Value) (fun _ _ => False) X.xe s4) X.xe { s' with heap := h' } := by
      rw [cF, hf]
      refine HandSPX.setFlight_onZ hh' fun h4 hh4 up4 => wpAny_throw (tk _ _ ?_)
      -- the def's state without the exception
      have I5 : Inv X pins σ H' sI := I3.call' (ch := fp) I'.os I'.base I'.hok I'.bare fun b hb => ⟨(f3 b hb).1.2.2.2.1, (f3 b hb).1.2.1, (f3 b hb).1.2.2.2.2.1, (f3 b hb).1.2.2.2.2.2⟩
      have nHC : H' s3.heap.objs.size = none := by
        have z : H' ce.locals = none := I'.free
        rw [cL] at z
        exact z
      obtain ⟨g0, g1, g2, g3, g4, g5⟩ := (I3.fpOk (Nat.le_refl _) nHC)
      rw [← cL] at g0 g1 g2 g3 g4 g5
      have I6 : Inv X pins σ H' { sI with heap := PySem.W.hideAll sI.heap [ce.locals] } := I5.turned (t' := sI.toks) (fun b o' hb e => PySem.W.hideAll_get [ce.locals] e (by simpa using hb)) g0 g1 g3 g4 g5
      refine ⟨a, PySem.W.hideAll B [ce.locals], { sI with heap := PySem.W.hideAll sI.heap [ce.locals] }, pins, σ, H', cls, d, rfl, I6, fun b o' e hb => ?_, fun b o' e hnf => ?_, .inr (.inr (by rw [hs0]; exact hh4)), na, os, ag, w⟩
      · obtain ⟨n1, n2⟩ := nC sI.heap b o' e
        exact PySem.W.hideAll_get [ce.locals] (nb b o' n2 hb) (by simpa using n1)
      · obtain ⟨n1, n2⟩ := nC sI.heap b o' e
        obtain ⟨sl, q⟩ := (up.trans up1) b o' n2 hnf
        have q' : h'.get? b = some { o' with slots := sl } := (sb.2 b n1).trans q
        obtain ⟨sl2, q2⟩ := up4 b _ q' hnf
        exact ⟨sl2, q2⟩
    first
      | exact wpAny_bind (wpAny_pure (wpAny_bind fin))
      | exact wpAny_bind fin
  have loop : codeAny (model X.prog X.w) X.A (.compLoop (.ListComp elt [⟨tg, iter, ifs, 0⟩] scope pos) 0 (.ref it) (.ref D) ce) (compPX (model X.prog X.w) X.A X.xe Qf (.ref D) ce) s4 := by
    refine compLoop_any (fun n s' => ∃ i H', Inv (X.blk s3 H3 scope ce fp) [] (wipe σ (own.map (·.2))) H' s' ∧ tn i s'.heap ∧ (∀ b ∈ fp, H' b = none) ∧ W' i n H') ?_ m0 ⟨0, H3, I4, st4, nfp, w0⟩
    rintro n s5 ⟨i, H5, I5, st5, n5, w5⟩
    rcases turn i n H5 w5 with ⟨stop, qq⟩ | ⟨go, Nx, hNx, step⟩
    · have td := T.done (X.blk s3 H3 scope ce fp) rfl rfl rfl hc i [] s5 _ H5 (fun _ _ => False) I5 (stat I5 n5) st5 stop
      refine thnF td fun r s6 ⟨hr, I6⟩ => ?_
      subst hr
      have I7 : Inv X pins σ H5 s6 := I3.call' (ch := fp) I6.os I6.base I6.hok I6.bare fun b hb => ⟨(f3 b hb).1.2.2.2.1, (f3 b hb).1.2.1, (f3 b hb).1.2.2.2.2.1, (f3 b hb).1.2.2.2.2.2⟩
      have nC : H5 s3.heap.objs.size = none := by
        have z : H5 ce.locals = none := I6.free
        rw [cL] at z
        exact z
      obtain ⟨m, hn, _⟩ := I6.loc
      have hn : s6.heap.Ns ce.locals m := hn
      have fo := I3.fpOk (Nat.le_refl _) nC
      rw [← cL] at fo
      exact hRR D ce s6 m H5 I7 qq hn fo
    · have ti := T.item (X.blk s3 H3 scope ce fp) rfl rfl rfl hc i [] s5 _ H5 (fun _ _ => False) I5 (stat I5 n5) st5 go
      refine thnF ti fun r s6 ⟨u, hr, h6⟩ => ?_
      subst hr
      refine thnF h6 fun _ s7 ⟨x, H7, I7, r7, y7, st7, n7⟩ => ?_
      have I7' := I7.pinned (stat I7 n7) (T.obj _ _ st7)
      refine thnF (pg.run _ s7 _ H7 x u _ I7' r7 (step x H7 y7)) fun _ s8 ⟨σ8, H8, I8, hw8, q8⟩ => ?_
      refine thnF (pt.run _ s8 σ8 H8 _ I8 q8) fun b s9 ⟨H9, I9, q9⟩ => ?_
      have fin : ∀ {s' : Shared} {H' : Hp}, Inv (X.blk s3 H3 scope ce fp) ([] ++ pinsAt fp s7.heap) σ8 H' s' → Nx H' → ∃ m, m < n ∧ ∃ i H', Inv (X.blk s3 H3 scope ce fp) [] (wipe σ (own.map (·.2))) H' s' ∧ tn i s'.heap ∧ (∀ b ∈ fp, H' b = none) ∧ W' i m H' := fun {s' H'} I' nx => by
        obtain ⟨m', hm, w'⟩ := hNx H' nx
        have pin' : ∀ b ∈ fp, ∀ o, s7.heap.get? b = some o → s'.heap.get? b = some o ∧ H' b = none := fun b hb o e =>
          let z := I'.pin (b, o) (List.mem_append_right _ (List.mem_append_right _ (mem_pinsAt hb e)))
          ⟨z.1, z.2.1⟩
        have hl : (wipe σ (own.map (·.2))).length = σ8.length := by rw [← hw8, wipe_length]
        refine ⟨m', hm, i + 1, H', (I'.unpinned (pins := [])).weak hl (fun j v e => ?_), T.keep _ _ _ st7 fun b hb o e => (pin' b hb o e).1, fun b hb => ?_, w'⟩
        · rw [← hw8] at e
          exact (wipe_some e).1
        · obtain ⟨o, e, _⟩ := T.obj _ _ st7 b hb
          exact (pin' b hb o e).2
      cases b with
      | false =>
        simp only [Bool.false_eq_true, if_false] at q9 ⊢
        exact fin I9 q9
      | true =>
        simp only [if_true] at q9 ⊢
        have run := (pe _ _ _ (tkb _)).run [] s9 σ8 H9 _ (I9.toTry _) q9
        refine wpAny_mono run (fun z s10 ⟨yv, H10, I10, r10, acc, hD10, hz10, nx⟩ => ?_) fun _ _ z => z
        exact app_ok (X := X.blk s3 H3 scope ce fp) (I10.ofTry I9.ok) hD10 hz10 r10 fun s11 I11 => fin I11 nx
  exact codeAny_compStart_list loop (T.self X.A 0 _ _ _ st4 loop)
/-- as a value -/
theorem pe_lcX {elt tg iter : Expr} {ifs : List Expr} {scope : Scope} {own : List (Str × Nat)} {pos : Pos} {wi : TI} {g : TG} {tt : TT} {te : WX → TE} {W : WX} (hc : X.calm = true) (hN : X.N.Nodup) (hs0 : X.stack = X.env :: X.outer) (hf : X.env.frame = some X.env.locals) (tk : Takes X W) (hi : PI X tg iter wi) (ok : BlkOk X.N X.env.scope scope own)
    (hg : ∀ (s : Shared) (H : Hp) (C : Addr) (cl : List (Str × Addr)) (fp : List Addr), PG (X.blk s H scope (compEnvC scope cl C X.env) fp) tg g) (ht : ∀ (s : Shared) (H : Hp) (C : Addr) (cl : List (Str × Addr)) (fp : List Addr), PTs (X.blk s H scope (compEnvC scope cl C X.env) fp) ifs tt)
    (he : ∀ (s : Shared) (H : Hp) (C : Addr) (cl : List (Str × Addr)) (fp : List Addr) (Wb : WX) (pn : List (Addr × Obj)) (xe : Value → Shared → Prop), Takes ((X.blk s H scope (compEnvC scope cl C X.env) fp).tr pn xe) Wb → PE ((X.blk s H scope (compEnvC scope cl C X.env) fp).tr pn xe) elt (te Wb))
    (hs : ∀ x, foldedSetIterable iter X.env x = pure x := by intro _; rfl) :
    PE X (.ListComp elt [⟨tg, iter, ifs, 0⟩] scope pos) (fun σ H Q => tLc wi g tt (te fun c d _ H' => W c d σ H') (own.map (·.2)) σ H Q) := by
  refine ⟨fun pins s σ H Q I h => ?_⟩
  rw [eval_ListComp]
  refine lcX_core hc hN hs0 hf tk I hi ok hg ht he hs h fun D ce s' m H' I' q hn f => ⟨m, hn, fun h'' sb => ?_⟩
  obtain ⟨f0, f1, f2, f3, f4, f5⟩ := f
  exact ⟨.ref D, H', I'.turned (t' := s'.toks) (fun b o hb e => (sb.2 b hb).trans e) f0 f1 f3 f4 f5, rfl, q⟩
end
end SV
end
section
set_option Elab.async false
set_option linter.all false
set_option autoImplicit false
set_option maxRecDepth 100000
set_option maxHeartbeats 4000000
namespace SV
open PySem PySem.Spec L2
/-! ### the same, reckoned -/
def lcLX (f : D → Env → Option Env) (tt : M Bool) (el : M D) (vs : List Nat) : List D → List D → Env → Option (Res (List D) × Env)
  | [], acc, ρ => some (.ok acc, ρ)
  | d :: ds, acc, ρ => (match f d ρ with
    | some ρ1 => (match tt ρ1 with
      | some (.ok b, ρ2) => if b = true then (match bnd el fOwn ρ2 with
        | some (.ok y, ρ3) => if acc.length < lim then lcLX f tt el vs ds (acc ++ [y]) (wipeE ρ3 vs) else none
        | some (.exc c fs, ρ3) => some (.exc c fs, wipeE ρ3 vs)
        | none => none) else lcLX f tt el vs ds acc (wipeE ρ2 vs)
      | _ => none)
    | none => none)
def rLX : Res (List D) → Res D
  | .ok acc => .ok (.ol acc)
  | .exc c fs => .exc c fs
def mLcX (m : M (List D)) (f : D → Env → Option Env) (tt : M Bool) (el : M D) (vs : List Nat) : M D := bnd m fun ds ρ => match lcLX f tt el vs ds [] (wipeE ρ vs) with
  | some (.ok acc, ρ') => some (.ok (.ol acc), ρ')
  | some (.exc c fs, ρ') => some (.exc c fs, ρ')
  | none => none
section
variable {F B F' B' : Addr → Prop} {g g2 : Cn} {W : WX} {P : List Nat} {H H' : Hp} {σ σ' : St} {ρ ρ' : Env} {T T' A : Tm} {v : V} {d : D} {X : Cx}
theorem sim_lcX {wi : TI} {gt : TG} {tt : TT} {te : WX → TE} {m : M (List D)} {f : D → Env → Option Env} {mt : M Bool} {el : M D} {vs : List Nat} {n : Nat} (hn : ∀ {F B : Addr → Prop} {H : Hp} {σ : St} {ρ : Env} {T : Tm}, Sat F B g H σ ρ T → True) (hi : SimI g W wi m) (hg : SimG g (butP n vs) gt f)
    (ht : SimT g (fun _ _ _ _ => False) tt mt) (he : ∀ Wb : WX, SimE g Wb (te Wb) el) : ∀ (F B : Addr → Prop) (H : Hp) (σ : St) (ρ : Env) (T : Tm) (Q : VK) (r : Res D) (ρ' : Env), σ.length = n → Sat F B g H σ ρ T → mLcX m f mt el vs ρ = some (r, ρ') → PX g W σ T F B H ρ' r →
  (∀ d, r = .ok d → ∀ F' B' H' v, Ext F B H F' B' H' → Sat F' B' g H' σ ρ' ((v, d) :: T) → Q v H') → tLc wi gt tt (te fun c d _ H' => W c d σ H') vs σ H Q := fun F B H σ ρ T Q r ρ' ln S e px h => by
  obtain ⟨Bh, S0, xh, back⟩ := S.hide
  unfold mLcX at e
  rcases bnd_some e with ⟨ds, ρ1, e1, e2⟩ | ⟨c, fs, e1, e2⟩
  · refine hi F Bh H σ ρ [] _ (.ok ds) ρ1 S0 e1 PX.ok fun ds' hd F1 B1 H1 J x1 S1 jo p hp => ?_
    cases hd
    obtain ⟨ra, ρ2, e3, er⟩ : ∃ ra ρ2, lcLX f mt el vs ds [] (wipeE ρ1 vs) = some (ra, ρ2) ∧ r = rLX ra ∧ ρ2 = ρ' := by
      split at e2
      · rename_i acc0 ρ2 e3
        cases e2
        exact ⟨_, _, e3, rfl, rfl⟩
      · rename_i c fs ρ2 e3
        cases e2
        exact ⟨_, _, e3, rfl, rfl⟩
      · cases e2
    obtain ⟨er, e2'⟩ := er
    subst e2'
    have pxx := px
    · 
      have nt : ∀ {a : Addr} {acc : List D}, ∀ x ∈ ([(.ref a, .ol acc)] : Tm), ∀ i, x.2 ≠ .sl i := fun {a acc} x hx i z => by
        have ex : x = (.ref a, .ol acc) := by simpa using hx
        rw [ex] at z
        cases z
      -- the state of a turn: over the wiped slots
      have wl : (wipe σ vs).length = σ.length := wipe_length σ vs
      have toW : ∀ {F B : Addr → Prop} {H : Hp} {ρ : Env} {T : Tm}, (∀ x ∈ T, ∀ i, x.2 ≠ .sl i) → (∀ (i : Nat) (d : D), ρ[i]? = some (some d) → i ∉ vs) → Sat F B g H σ ρ T → Sat F B g H (wipe σ vs) ρ T := fun nt k S => S.reslot wl (fun i d e => wipe_get (k i d e)) nt
      have ofW : ∀ {F B : Addr → Prop} {H : Hp} {ρ : Env} {T : Tm} {σ2 : St}, σ2.length = σ.length → (∀ i, i ∉ vs → σ2[i]? = σ[i]?) → (∀ x ∈ T, ∀ i, x.2 ≠ .sl i) → (∀ (i : Nat) (d : D), ρ[i]? = some (some d) → i ∉ vs) → Sat F B g H σ2 ρ T → Sat F B g H σ ρ T := fun l q nt k S => S.reslot l.symm (fun i d e => (q i (k i d e)).symm) nt
      have S1w := (S1.wipeE vs)
      obtain ⟨F2, B2, x2, S2⟩ := (S1w).newLF (ds := []) (vs := []) rfl hp
      have kw : ∀ {ρ : Env} (i : Nat) (d : D), (wipeE ρ vs)[i]? = some (some d) → i ∉ vs := fun i d e => (wipeE_get e).2
      refine ⟨fun i k H2 => ∃ F3 B3 ρ3 acc, Ext F1 B1 H1 F3 B3 H2 ∧ Sat F3 B3 g H2 σ ρ3 [(.ref p, .ol acc)] ∧ (∀ (i : Nat) (d : D), ρ3[i]? = some (some d) → i ∉ vs) ∧ i ≤ ds.length ∧ k = ds.length - i ∧ lcLX f mt el vs (ds.drop i) acc ρ3 = some (ra, ρ2), ⟨ds.length, F2, B2, wipeE ρ1 vs, [], x2, S2, kw, Nat.zero_le _, rfl, e3⟩, ?_⟩
      rintro i k H2 ⟨F3, B3, ρ3, acc, x3, S3, k3, hil, rfl, e4⟩
      have S3w := toW nt k3 S3
      obtain ⟨j1, j2⟩ := jo F3 B3 H2 (wipe σ vs) ρ3 _ x3 S3w
      by_cases hlt : i < ds.length
      · obtain ⟨hgo, hy⟩ := j1 i ds[i] (by simp [hlt])
        refine .inr ⟨hgo, _, fun H' h => ⟨ds.length - (i + 1), by omega, h⟩, fun x H' yx => ?_⟩
        obtain ⟨F4, B4, x4, S4, r4⟩ := hy x H' yx
        rw [List.drop_eq_getElem_cons hlt] at e4
        unfold lcLX at e4
        split at e4
        · rename_i ρ5 e5
          refine hg F4 B4 H' (wipe σ vs) ρ3 ρ5 _ x ds[i] _ nt S4 r4 e5 fun σ5 q5 S5 => ?_
          have l5 : σ5.length = σ.length := q5.1.trans wl
          have q5 := q5.2
          have q5' : ∀ i, i ∉ vs → σ5[i]? = σ[i]? := fun i hi => by
            by_cases hl : i < n
            · rw [q5 i (List.mem_filter.mpr ⟨List.mem_range.mpr hl, by simpa using hi⟩), wipe_get hi]
            · rw [List.getElem?_eq_none (by omega), List.getElem?_eq_none (by omega)]
          refine ⟨?_, ?_⟩
          · apply List.ext_getElem?
            intro i
            by_cases hi : i ∈ vs
            · by_cases hl : i < σ.length
              · rw [wipe_in hi (by omega), wipe_in hi hl]
              · rw [List.getElem?_eq_none (by rw [wipe_length]; omega), List.getElem?_eq_none (by rw [wipe_length]; omega)]
            · rw [wipe_get hi, wipe_get hi, q5' i hi]
          · split at e4
            · rename_i b ρ6 e6
              refine ht F4 B4 H' σ5 ρ5 _ _ (.ok b) ρ6 S5 e6 PX.ok fun b' hb F6 B6 H6 x6 S6 => ?_
              cases hb
              cases b with
              | true =>
                rw [if_pos rfl] at e4 ⊢
                split at e4
                · rename_i y ρ7 e7
                  split at e4
                  · rename_i hlim
                    rcases bnd_some e7 with ⟨y0, ρ0, e8, e9⟩ | ⟨c, fs, e8, e9⟩
                    · refine he _ F6 B6 H6 σ5 ρ6 _ _ (.ok y0) ρ0 S6 e8 PX.ok fun y' hy F7 B7 H7 u x7 S7 => ?_
                      cases hy
                      obtain ⟨y1, hy1, n1, F8, B8, x8, S8⟩ := S7.fOwn e9
                      cases hy1
                      have S8' : Sat F8 B8 g H7 σ5 ρ7 ((.ref p, .ol acc) :: ([u].zip [y] ++ [])) := S8.perm (List.Perm.swap _ _ _)
                      obtain ⟨⟨o1, o2, k1, k2, _, _⟩, _, _⟩ := id S8'
                      obtain ⟨f1, f2, _, m1, m2⟩ := k2
                      obtain ⟨p', us, f3, em, _, hpp, m3⟩ := (m1.own (fun i z => by cases z) : RepO F8 g H7 (.ol acc) (.ref p) f1)
                      cases em
                      obtain ⟨F9, B9, x9, S9⟩ := Sat.updL (ds := acc) (es := [y]) (nd := acc ++ [y]) (od := []) (ws := [u]) (nv := us ++ [u]) (ov := []) (T := []) (vs := us) rfl (fun d hd i z => by
                        have ed : d = y := by simpa using hd
                        rw [ed] at z
                        exact n1 i z) S8' hpp (fun f0 g0 q1 q2 => ⟨f0 ++ g0, [], [], q1.append q2, ⟨rfl, rfl⟩, by simp⟩)
                      have S9' : Sat F9 B9 g (upd H7 p (.lst (us ++ [u]))) σ5 (wipeE ρ7 vs) [(.ref p, .ol (acc ++ [y]))] := Sat.wipeE S9 vs
                      have S10 := ofW l5 q5' nt (kw (ρ := ρ7)) S9'
                      exact ⟨us, hpp, by rw [lim_eq, ← m3.length]; exact hlim, F9, B9, wipeE ρ7 vs, acc ++ [y], ((((x3.trans x4).trans x6).trans x7).trans x8).trans x9, S10, kw, hlt, rfl, e4⟩
                    · cases e9
                  · cases e4
                · rename_i c fs ρ7 e7
                  cases e4
                  rcases bnd_some e7 with ⟨y0, ρ0, e8, e9⟩ | ⟨c', fs', e8, e9⟩
                  · refine he _ F6 B6 H6 σ5 ρ6 _ _ (.ok y0) ρ0 S6 e8 PX.ok fun y' hy F7 B7 H7 u x7 S7 => ?_
                    cases hy
                    obtain ⟨y1, hy1, _⟩ := S7.fOwn e9
                    cases hy1
                  · cases e9
                    refine he _ F6 B6 H6 σ5 ρ6 _ _ (.exc c fs) ρ7 S6 e8 (fun c2 fs2 e10 F7 B7 H7 cls dx x7 S7 xa => ?_) fun d hd => by cases hd
                    cases e10
                    have S8 : Sat F7 B7 g H7 σ5 (wipeE ρ7 vs) [] := Sat.wipeE S7.pop vs
                    have S9 := ofW l5 q5' (fun x hx => by cases hx) (kw (ρ := ρ7)) S8
                    obtain ⟨B10, x10, S10⟩ := back F7 B7 H7 _ [] (((x1.trans x3).trans x4).trans (x6.trans x7)) S9
                    exact px c fs er F7 B10 H7 cls dx x10 S10 xa
                · cases e4
              | false =>
                rw [if_neg Bool.false_ne_true] at e4 ⊢
                exact ⟨F6, B6, wipeE ρ6 vs, acc, (x3.trans x4).trans x6, ofW l5 q5' nt kw (Sat.wipeE S6 vs), kw, hlt, rfl, e4⟩
            · cases e4
        · cases e4
      · have ei : i = ds.length := by omega
        subst ei
        rw [List.drop_length] at e4
        cases e4
        refine .inl ⟨j2, ?_⟩
        obtain ⟨B5, x5, S5⟩ := back F3 B3 H2 _ _ (x1.trans x3) S3
        exact h _ er F3 B5 H2 _ x5 S5
  · cases r with
    | ok d => cases e2
    | exc c' fs' =>
      cases e2
      refine hi F Bh H σ ρ [] _ (.exc c fs) _ S0 e1 (fun c2 fs2 e3 F2 B2 H2 cls dx x2 S2 xa => ?_) fun d hd => by cases hd
      cases e3
      obtain ⟨B3, x3, S3⟩ := back F2 B2 H2 ρ' [] x2 S2
      exact px c fs rfl F2 B3 H2 cls dx x3 S3 xa
theorem v_lcX {elt tg iter : Expr} {ifs : List Expr} {scope : Scope} {own : List (Str × Nat)} {pos : Pos} {m : M (List D)} {f : D → Env → Option Env} {mt : M Bool} {el : M D} (hc : X.calm = true) (hN : X.N.Nodup) (hs0 : X.stack = X.env :: X.outer) (hf : X.env.frame = some X.env.locals) (tk : Takes X W) (hi : VI X g W tg iter m) (ok : BlkOk X.N X.env.scope scope own)
    (hg : ∀ (s : Shared) (H : Hp) (C : Addr) (cl : List (Str × Addr)) (fp : List Addr), VG (X.blk s H scope (compEnvC scope cl C X.env) fp) g (butP X.N.length (own.map (·.2))) tg f) (ht : ∀ (s : Shared) (H : Hp) (C : Addr) (cl : List (Str × Addr)) (fp : List Addr), VTs (X.blk s H scope (compEnvC scope cl C X.env) fp) g (fun _ _ _ _ => False) ifs mt)
    (he : ∀ (s : Shared) (H : Hp) (C : Addr) (cl : List (Str × Addr)) (fp : List Addr) (Wb : WX) (pn : List (Addr × Obj)) (xe : Value → Shared → Prop), Takes ((X.blk s H scope (compEnvC scope cl C X.env) fp).tr pn xe) Wb → VE ((X.blk s H scope (compEnvC scope cl C X.env) fp).tr pn xe) g Wb elt el) (hs : ∀ x, foldedSetIterable iter X.env x = pure x := by intro _; rfl) :
    VE X g W (.ListComp elt [⟨tg, iter, ifs, 0⟩] scope pos) (mLcX m f mt el (own.map (·.2))) := ⟨fun pins st σ H Q I ⟨F, B, ρ, T, r, ρ', S, e, px, k⟩ => (pe_lcX (te := fun Wb => TEof g Wb el) hc hN hs0 hf tk hi ok hg ht he hs).run pins st σ H Q I (sim_lcX (n := X.N.length) (fun _ => trivial) selfI selfG selfT (fun _ => selfE) F B H σ ρ T Q r ρ' I.len S e px k)⟩
end
end SV
end
section
set_option Elab.async false
set_option linter.all false
set_option autoImplicit false
set_option maxRecDepth 100000
set_option maxHeartbeats 4000000
namespace SV
open PySem PySem.Spec PyProof.Rows L2
open HotX (HotAt)
/-! ### exceptions whose context is None; raise X(..) from None in an except suite -/
theorem cxN_imp {P : Program} {w : World} {outer : List PySem.Env} {H : Hp} {s : Shared} {E : XK} {u : Value} {s' : Shared} (h : L2N.CX P w outer H s E u s') : L2.CX P w outer H s E u s' := by
  obtain ⟨a, B, H', cls, d, e, fl, r⟩ := h
  exact ⟨a, B, H', cls, d, e, L2H.flyingZ_imp (fun o z => z.zc) fl, r⟩
theorem fnN {P : Program} {w : World} {K : PySem.W.Frag} {mg : Str → Option Value} {base : Heap} {k : Nat} {f : Addr} {fd : FuncData} {ps : List Str} {sp : Sp} (F : FnOk P w K mg base (L2N.CX P w) k f fd ps sp) : FnOk P w K mg base (L2.CX P w) k f fd ps sp :=
  ⟨F.len, fun A outer s H args us vs Q E hr he hb hv hs => codeAny_mono (F.run A outer s H args us vs Q E hr he hb hv hs) fun r s' hq => by
    cases r with
    | error e => exact cxN_imp hq
    | ok fl => cases fl <;> exact hq⟩
theorem passAtN {X : Cx} {W : WX} (tk : L2N.Takes X W) (σ : L2.St) : PassesAt (L2N.CX X.prog X.w) X σ (WE W σ) := fun _ _ _ e s' I c => tk e s' (L2N.XE.of_call I (fun _ _ _ h => h) c)
section
variable {X : Cx} {e : Expr} {es : List Expr} {ta : TA} {p pos : Pos}
theorem pmk_oexN {CX : CXT} {x : Str} {C fI : Addr} {k : Nat} {fd : FuncData} {ps : List Str} {sp : Sp} {ds : List Value} {dvs : List V} (T : OexC X.K C) (iC : PySem.W.findIn X.K (.ref C) "__init__" = some (some (.ref fI))) (tI : PySem.W.typeIn X.K (.ref fI) = some (.type "function"))
    (F1 : FnOk X.prog X.w X.K X.mg X.base CX k fI fd ps sp) (hr : Room (k + 1) X.A) (hb : Binds X.K fd ps ds) (hd : Vals dvs ds) (hx : Passes CX X (fun _ _ _ => False)) (hg : Gl X x) (hm : X.mg x = some (.ref C)) (ha : PA X (e :: es) ta)
    (hdb : (x == ("__debug__" : Str)) = false := by decide) (he : starEach (e :: es) X.env = (false, eval e X.env) :: starEach es X.env := by rfl) (hpl : (backTo pos (starEach es X.env)).any (·.1) = false := by rfl) :
    L2N.PMk X (.Call (.Name x p) (e :: es) [] pos) (tMkO C sp dvs ta) := by
  intro pins s σ H Q I h
  obtain ⟨nm, q, N, bs, bm, sn, sub, ab, col, dd, k0, k1, k2, k3, k5, hC, hbm⟩ := T.cls
  refine wpAny_Call_Name_kw (ld_glob I hg hm ?_ hdb)
  refine PySem.W.callWith_K (h₀ := X.base) I.ok.mod.kin T.kC (thn (ha.run pos pins s σ H _ I h) fun us s1 ⟨vs, H1, I1, r1, hz, q1⟩ => ⟨I1.kIn, ?_⟩) he hpl
  show wpAny _ _ (call (.ref C) us) _ _ _
  obtain ⟨hp, g, dr, tk, os⟩ := s1
  have hsz : hp.objs.size ≤ hp.objs.size + 1 := Nat.le_succ _
  have hn : H1 (hp.objs.size + 1) = none := I1.hok.fresh hsz
  have hq := q1 (hp.objs.size + 1) hn
  have kk : ∀ b o, hp.get? b = some o → ((hp.push (PySem.W.kdv_tup us)).push (PySem.HandSPX.excO C hp.objs.size)).get? b = some o := fun b o e => Heap.get?_push_of_some _ (Heap.get?_push_of_some _ e)
  have hget : ((hp.push (PySem.W.kdv_tup us)).push (PySem.HandSPX.excO C hp.objs.size)).get? (hp.objs.size + 1) = some (PySem.HandSPX.excO C hp.objs.size) := by heap_get
  have I2 : Inv X pins σ (upd H1 (hp.objs.size + 1) (exo (hp.objs.size + 1) C none)) ⟨(hp.push (PySem.W.kdv_tup us)).push (PySem.HandSPX.excO C hp.objs.size), g, dr, tk, os⟩ :=
    I1.laid (t' := tk) (a := hp.objs.size + 1) (o := exo (hp.objs.size + 1) C none) (h' := (hp.push (PySem.W.kdv_tup us)).push (PySem.HandSPX.excO C hp.objs.size)) kk hsz (exo_ok hget)
  have r2 : Vals (V.ref (hp.objs.size + 1) :: (vs ++ dvs)) (Value.ref (hp.objs.size + 1) :: (us ++ ds)) := .cons rfl (r1.append hd)
  have hl : (Value.ref (hp.objs.size + 1) :: us ++ ds).length = ps.length := by
    have e := r2.length
    rw [F1.len _ _ _ _ hq] at e
    exact e.symm
  have hus : us.length ≤ sizeLine := by
    rw [← Paired.length r1, sizeLine_eq]
    omega
  refine wpAny_call (PySem.HandSPX.call_own F.excBase_ValueError (fun Y => PySem.HandSPX.refsVE_contains Y bm hbm) (I1.kIn _ _ hC) (PySem.W.looks_findIn I1.kIn iC) (fun self => PySem.W.bind_fn I1.kIn self tI) hus
    (codeAny_mono (F1.run _ X.stack _ _ ⟨Value.ref (hp.objs.size + 1) :: us, []⟩ (Value.ref (hp.objs.size + 1) :: (us ++ ds)) _ _ (fun _ _ _ => False) (hr.make C us []) (I2.env0.make C us []) (hb _ (Value.ref (hp.objs.size + 1) :: us) I2.kIn hl) r2 hq) fun r s' hq' => ?_))
  cases r with
  | error er => exact hx pins σ _ _ er s' I2 hq'
  | ok fl =>
    cases fl with
    | ret u =>
      obtain ⟨v, H2, os2, bare2, un2, hok2, rv, ev, d, fs, ea, ed, hd1, q2⟩ := hq'
      subst ev
      obtain ⟨h2, g2, d2, t2, os'⟩ := s'
      obtain ⟨t0, G, J, kG, ge, hoe, na⟩ := mk_end0 (d2 := d2) (t2 := t2) I1 hsz kk un2 hok2 os2 bare2 ea ed hd1
      exact ⟨rv, ⟨hp.objs.size + 1, _, _, ⟨G, g2, d2, t2, os'⟩, _, .ref C, some d, rfl, J, kG, ge, hoe, ⟨rfl, rfl, fun vs hv => by cases hv; rfl⟩, rfl, rfl, na, rfl, bare2, raises_own T.exC T.tyC, q2⟩⟩
    | next => exact False.elim hq'
    | brk => exact False.elim hq'
    | cont => exact False.elim hq'
end
section
variable {X : Cx} {g : Cn} {W : WX} {P : List Nat}
theorem vs_raiseN {C fI : Addr} {c : Str} {ns : List Str} {k : Nat} {fd : FuncData} {ps : List Str} {e : Expr} {es : List Expr} {ms : M (List D)} {p pos pos' : Pos} (hc : X.calm = true) (tk : L2N.Takes X W) (To : OexC X.K C) (iC : PySem.W.findIn X.K (.ref C) "__init__" = some (some (.ref fI))) (tI : PySem.W.typeIn X.K (.ref fI) = some (.type "function"))
    (F1 : FnOk X.prog X.w X.K X.mg X.base (L2.CX X.prog X.w) k fI fd ps (spIni C ns)) (hr : Room (k + 1) X.A) (hb : Binds X.K fd ps []) (hg : Gl X c) (hm : X.mg c = some (.ref C)) (hgm : g.mg = X.mg) (nd : ns.Nodup) (ha : VA X g W (e :: es) ms)
    (hdb : (c == ("__debug__" : Str)) = false := by decide) (he : starEach (e :: es) X.env = (false, eval e X.env) :: starEach es X.env := by rfl) (hpl : (backTo pos (starEach es X.env)).any (·.1) = false := by rfl) :
    VS X g W P (.Raise (some (.Call (.Name c p) (e :: es) [] pos)) none pos') (mRaise c ns ms) :=
  .mk (L2N.ps_raise hc tk (pmk_oexN To iC tI F1 hr hb .nil passL hg hm ha hdb he hpl)) (sim_raise (by rw [hgm]; exact hm) nd selfA)
/-- raise X(..) from None, in a suite -/
theorem vs_raiseF {C fI : Addr} {c : Str} {ns : List Str} {k : Nat} {fd : FuncData} {ps : List Str} {e : Expr} {es : List Expr} {ms : M (List D)} {p pos pos' cpos : Pos} {j : Nat} (hc : L2H.HotC X) (tk : Takes X W) (To : OexC X.K C) (iC : PySem.W.findIn X.K (.ref C) "__init__" = some (some (.ref fI))) (tI : PySem.W.typeIn X.K (.ref fI) = some (.type "function"))
    (F1 : L2H.FnH X.prog X.w X.K X.mg X.base (L2.CX X.prog X.w) k fI fd ps (spIni C ns)) (hr : L2H.RoomH (k + 1) X.A) (hb : Binds X.K fd ps []) (hg : Gl X c) (hm : X.mg c = some (.ref C)) (hgm : g.mg = X.mg) (nd : ns.Nodup) (ha : VA X g W (e :: es) ms)
    (hdb : (c == ("__debug__" : Str)) = false := by decide) (he : starEach (e :: es) X.env = (false, eval e X.env) :: starEach es X.env := by rfl) (hpl : (backTo pos (starEach es X.env)).any (·.1) = false := by rfl) :
    VS X g W P (.Raise (some (.Call (.Name c p) (e :: es) [] pos)) (some (.Constant .none j cpos)) pos') (mRaise c ns ms) :=
  .mk (L2H.ps_raiseHN hc tk (L2H.pmk5_oexH To iC tI F1 hr hc hb passL hg hm ha hdb he hpl)) (sim_raise (by rw [hgm]; exact hm) nd selfA)
theorem w_callN {k k2 : Nat} {f : Addr} {fd : FuncData} {ps : List Str} {io : List Bool} {fm : FM} {dd : List D} {dv : List V} {x : Str} {p pos : Pos} {a : Expr} {es : List Expr} {ms : M (List D)} (tk : L2N.Takes X W) (hr : Room k2 X.A)
    (Fn : FnOk X.prog X.w X.K X.mg X.base (L2N.CX X.prog X.w) k f fd ps (spV g io fm)) (hb : Bd X.K fd ps dv) (hm : X.mg x = some (.ref f)) (hk : PySem.W.keepIn X.K (.ref f) = true)
    (ha : VA X g W (a :: es) ms) (hd : dvals dd = some dv := by rfl) (hkk : k ≤ k2 := by decide) (hg : Gl X x := by rfl) (hdb : (x == ("__debug__" : Str)) = false := by decide) (he : starEach (a :: es) X.env = (false, eval a X.env) :: starEach es X.env := by rfl) (hpl : (backTo pos (starEach es X.env)).any (·.1) = false := by rfl) :
    VE X g W (.Call (.Name x p) (a :: es) [] pos) (mCall io fm dd ms) := by
  obtain ⟨dus, h1, h2⟩ := hb.ex
  exact .mk (pe_callSD Fn (hr.mono hkk) hg hm hk h2 h1 (fun σ => passAtN tk σ) ha hdb he hpl) (sim_call hd selfA)
end
section
variable {P : Program} {w : World} {K : PySem.W.Frag} {mg : Str → Option Value} {base : Heap} {N : List Str} {qual : Str} {scope : Scope} {f : Addr} {cd : Value} {A : Around} {outer : List PySem.Env} {s : Shared} {H : Hp} {E : XK}
theorem tk_defN : L2N.Takes (cxOf (L2N.CX P w) P w K mg base N qual scope f cd A outer s H E) (fun cls d _ H' => E cls d H') := L2N.takes_of rfl rfl rfl rfl
theorem ps_defN : PassesOwn (model P w) (cxOf (L2N.CX P w) P w K mg base N qual scope f cd A outer s H E).A (cxOf (L2N.CX P w) P w K mg base N qual scope f cd A outer s H E).env (cxOf (L2N.CX P w) P w K mg base N qual scope f cd A outer s H E).xe := passes_of rfl
theorem psAt_def {hd : Option Value} : PassesOwnAt (model P w) ((cxOf (L2.CX P w) P w K mg base N qual scope f cd A outer s H E).A.mark hd) (cxOf (L2.CX P w) P w K mg base N qual scope f cd A outer s H E).A (cxOf (L2.CX P w) P w K mg base N qual scope f cd A outer s H E).env (cxOf (L2.CX P w) P w K mg base N qual scope f cd A outer s H E).xe := L2H.passesAt_of rfl hd
end
theorem takesNF {X : Cx} : L2N.Takes X (fun _ _ _ _ => False) := fun _ _ x => by
  obtain ⟨a, B, sI, pins, σ, H, cls, d, e, I, nb, up, sky, na, os, ag, w⟩ := x
  exact w.elim
/-- THE DEF, what it lets out has no context -/
theorem funVN {Pg : Program} {w : World} {K : PySem.W.Frag} {mg : Str → Option Value} {base : Heap} {x qual : Str} {params : Arguments} {bd : List Stmt} {scope : Scope} {dvs : List V} {kws : List (Str × V)} {f : Addr} {fd : FuncData} {N ps : List Str} {k : Nat}
    (Fn : FunD K x qual params bd scope dvs kws f fd) (Sc : FnScope N ps scope) (io : List Bool) (body : SM) (hio : io.length = ps.length) (hN : ps.length ≤ N.length)
    (hb : ∀ (cdv : Value) (A : Around) (outer : List PySem.Env) (s : Shared) (H : Hp) (E : XK), Room k (A.deeper (PyProof.Rows.envOfC qual scope s.heap.objs.size f cdv)) →
      VSs (cxOf (L2N.CX Pg w) Pg w K mg base N qual scope f cdv A outer s H E) (cn mg K) (fun cls d _ H' => E cls d H') (ioP 0 io) bd body) :
    FnOk Pg w K mg base (L2N.CX Pg w) (k + 1) f fd ps (spV (cn mg K) io (funM N.length io body)) := by
  refine Fn.ok Sc (fun vs H Q E h => spV_len hio h) fun cdv A outer s H vs Q E hr h => ⟨_, hb cdv A outer s H E hr, coreV io body hio hN h⟩
/-- .. while an exception is handled -/
theorem _root_.L2.FunD.okH {P : Program} {w : World} {K : PySem.W.Frag} {mg : Str → Option Value} {base : Heap} {x qual : Str} {params : Arguments} {body : List Stmt} {scope : Scope} {dvs : List V} {kws : List (Str × V)} {f : Addr} {fd : FuncData}
    {CX : CXT} {N ps : List Str} {k : Nat} {sp : Sp} (F : FunD K x qual params body scope dvs kws f fd) (S : FnScope N ps scope) (len : ∀ vs H Q E, sp vs H Q E → vs.length = ps.length)
    (hbody : ∀ (cdv : Value) (A : Around) (outer : List PySem.Env) (s : Shared) (H : Hp) (vs : List V) (Q : VK) (E : XK) (p : Addr × Obj), L2H.Hot1 A p → L2H.RoomH k (A.deeper (envOfC qual scope s.heap.objs.size f cdv)) → sp vs H Q E →
      ∃ t, PSs (L2H.cxH CX P w K mg base N qual scope f cdv A outer s H E p) body t ∧ t { nx := fun _ H' => Q .non H', rt := Q } (L2.start N vs) H) : L2H.FnH P w K mg base CX (k + 1) f fd ps sp := by
  obtain ⟨oc, od, dV, kV, doc, pm, an, cdv, ct, osl, rfl, lk, hcd, _, _⟩ := F.ex
  exact L2H.fn_ofH lk hcd S len fun A outer s H vs Q E p hot hr hsp => hbody cdv A outer s H vs Q E p hot hr hsp
theorem ini2H {Pg : Program} {w : World} {K : PySem.W.Frag} {mg : Str → Option Value} {base : Heap} {C : Addr} {n m : Str} {x qual : Str} {params : Arguments} {scope : Scope} {kws : List (Str × V)} {f : Addr} {fd : FuncData} {p1 p2 p3 p4 q1 q2 q3 q4 : Pos}
    (Fn : FunD K x qual params [.Assign [.Attribute (.Name "self" p1) n p2] (.Name n p3) p4, .Assign [.Attribute (.Name "self" q1) m q2] (.Name m q3) q4] scope [] kws f fd) (Sc : FnScope ["self", n, m] ["self", n, m] scope) (v0 : scope.names.lookup ("self" : Str) = some .local) (v1 : scope.names.lookup n = some .local) (v2 : scope.names.lookup m = some .local) (hd : (n == ("__debug__" : Str)) = false) (hcd : (n == ("__classdict__" : Str)) = false) (hd2 : (m == ("__debug__" : Str)) = false) (hcd2 : (m == ("__classdict__" : Str)) = false)
    (To : OexC K C) (hno : PySem.W.findIn K (.ref C) n = some none) (hno2 : PySem.W.findIn K (.ref C) m = some none) : L2H.FnH Pg w K mg base (L2.CX Pg w) 1 f fd ["self", n, m] (spIni C [n, m]) := by
  refine Fn.okH Sc (fun vs H Q E ⟨a, ys, e, l, _⟩ => by rw [e]; simp at l ⊢; exact l) fun cdv A outer s H vs Q E p hot hr h => ⟨_, pss_cons (ps_ost (pe_var (i := 0) rfl (.inl v0)) (pe_var (i := 1) rfl (.inl v1) hd hcd)) (pss_one (ps_ost (pe_var (i := 0) rfl (.inl v0)) (pe_var (i := 2) rfl (.inl v2) hd2 hcd2))), ?_⟩
  obtain ⟨a, ys, rfl, l, _, ha, q⟩ := h
  obtain ⟨y, z, rfl⟩ : ∃ y z, ys = [y, z] := by
    match ys, l with
    | [y, z], _ => exact ⟨y, z, rfl⟩
  refine ⟨y, rfl, .ref a, rfl, a, C, rfl, To, hno, .inl ⟨ha, fun dx h1 h2 => ?_⟩⟩
  refine ⟨z, rfl, .ref a, rfl, a, C, rfl, To, hno2, .inr ⟨dx, _, upd_same, by rw [upd_ne h2, upd_same], by simp, ?_⟩⟩
  have e : upd (upd (upd H dx (exd dx [(n, y)])) a (exo a C (some dx))) dx (exd dx [(m, z), (n, y)]) = upd (upd H dx (exd dx [(m, z), (n, y)])) a (exo a C (some dx)) := by
    funext b
    by_cases hb : b = dx
    · rw [hb, upd_same, upd_ne h2, upd_same]
    · rw [upd_ne hb]
      by_cases hb2 : b = a
      · rw [hb2, upd_same, upd_same]
      · rw [upd_ne hb2, upd_ne hb2, upd_ne hb, upd_ne hb]
  show Q .non _
  rw [e]
  exact q dx h1 h2
/-! ### try .. except X: a suite that may raise -/
def suiteR (ms : SM) : SM := fun ρ => if noX ρ = true then (match ms ρ with
  | some (fl, ρ1) => if noX ρ1 = true then some (fl, ρ1) else none
  | none => none) else none
def mTryX (sub : Str → Str → Option Bool) (body : SM) (x : Str) (ms : SM) : SM := fun ρ => match body ρ with
  | some (.exc c fs, ρ1) => (match sub c x with
    | some b => if b = true then suiteR ms ρ1 else some (.exc c fs, ρ1)
    | none => none)
  | z => z
section
variable {X : Cx} {g : Cn} {W : WX} {P : List Nat}
theorem vs_tryX {body : List Stmt} {x : Str} {C : Addr} {mb ms : SM} {b₀ : Stmt} {su : List Stmt} {p1 p2 pos : Pos} {sub : Str → Str → Option Bool} (hs : X.stack = X.env :: X.outer) (hf : X.env.frame = some X.env.locals) (hpa : ∀ hd : Option Value, PassesOwnAt (model X.prog X.w) (X.A.mark hd) X.A X.env X.xe) (tk : Takes X W) (hgm : g.mg = X.mg)
    (hg : Gl X x) (hm : X.mg x = some (.ref C)) (hdb : (x == ("__debug__" : Str)) = false)
    (hsub : ∀ (c c2 : Str) (b : Bool) (C C2 : Addr), sub c c2 = some b → X.mg c = some (.ref C) → X.mg c2 = some (.ref C2) → PySem.W.exmOne X.K (.ref C) (.ref C2) = some b)
    (hb : ∀ (Wi : WX) (pn : List (Addr × Obj)) (xe : Value → Shared → Prop), L2N.Takes (X.tr pn xe) Wi → PassesOwn (model X.prog X.w) X.A X.env xe → VSs (X.tr pn xe) g Wi P body mb)
    (hsu : ∀ (a : Addr) (oe : Obj) (cls : Value) (d : Option Addr) (pn : List (Addr × Obj)), Takes (L2H.suiteX X a ((a, oe) :: pn)) W → L2H.HotC (L2H.suiteX X a ((a, oe) :: pn)) → VSs (L2H.suiteX X a ((a, oe) :: pn)) ⟨g.mg, a, cls, d, g.K⟩ W P (b₀ :: su) ms) :
    VS X g W P (.Try body [.ExceptHandler (some (.Name x p1)) none (b₀ :: su) p2] [] [] pos) (mTryX sub mb x ms) := by
  refine .mk (L2H.ps_try_onlyX (tb := fun Wi => TSof g Wi P mb) (ts := fun a cls d => TSof ⟨g.mg, a, cls, d, g.K⟩ W P ms) hs hf ⟨hg, hdb, .inl hm⟩ hpa tk (fun Wi pn xe t1 _ t3 => hb Wi pn xe t1 t3) (fun a oe cls d pn _ _ t1 t2 => hsu a oe cls d pn t1 t2)) fun F B H σ ρ Dn fl ρ' S e p => ?_
  unfold mTryX at e
  split at e
  · rename_i c fs ρ1 e1
    refine ⟨F, B, ρ, .exc c fs, ρ1, S, e1, ⟨fun h => (by cases h), fun h => (by cases h), fun h => (by cases h), fun d h => (by cases h), fun c' fs' h F' B' H' σ' cls dx x1 q S' xa => ?_⟩⟩
    cases h
    split at e
    · rename_i b eb
      obtain ⟨Cc, dd, fv, ec, _, emc, _⟩ := id xa
      have em := hsub c x b Cc C eb (by rw [← hgm]; exact emc) hm
      subst ec
      have p' := p.shift x1 q
      refine ⟨b, em, fun hb a _ => ?_, fun hb => ?_⟩
      · subst hb
        rw [if_pos rfl] at e
        unfold suiteR at e
        split at e
        · rename_i n1
          split at e
          · rename_i fl1 ρ2 e2
            split at e
            · rename_i hc
              cases e
              have back : ∀ {F' B' : Addr → Prop} {H' : Hp} {σ' : L2.St} {T : Tm}, Sat F' B' ⟨g.mg, a, .ref Cc, dx, g.K⟩ H' σ' ρ' T → Sat F' B' g H' σ' ρ' T := fun S => Sat.cn (g := ⟨g.mg, a, .ref Cc, dx, g.K⟩) (g2 := g) ⟨rfl, rfl⟩ hc S
              exact ⟨F', B', ρ1, fl, ρ', Sat.cn (g := g) (g2 := ⟨g.mg, a, .ref Cc, dx, g.K⟩) ⟨rfl, rfl⟩ n1 S', e2, ⟨fun h F2 B2 H2 σ2 y q2 S2 => p'.nx h F2 B2 H2 σ2 y q2 (back S2), fun h F2 B2 H2 σ2 y q2 S2 => p'.bk h F2 B2 H2 σ2 y q2 (back S2), fun h F2 B2 H2 σ2 y q2 S2 => p'.ct h F2 B2 H2 σ2 y q2 (back S2),
                fun d h F2 B2 H2 σ2 v y q2 n S2 => p'.rt d h F2 B2 H2 σ2 v y q2 n (back S2), fun c2 fs2 h F2 B2 H2 σ2 cls2 dx2 y q2 S2 xa2 => p'.xc c2 fs2 h F2 B2 H2 σ2 cls2 dx2 y q2 (back S2) (ExcAt.cn (g := ⟨g.mg, a, .ref Cc, dx, g.K⟩) (g2 := g) ⟨rfl, rfl⟩ xa2)⟩⟩
            · cases e
          · cases e
        · cases e
      · subst hb
        rw [if_neg Bool.false_ne_true] at e
        cases e
        exact p'.xc c fs rfl F' B' H' σ' _ dx Ext.refl (fun _ _ => rfl) S' xa
    · cases e
  · rename_i z hn
    refine ⟨F, B, ρ, fl, ρ', S, e, ⟨p.nx, p.bk, p.ct, p.rt, fun c fs h => ?_⟩⟩
    subst h
    exact absurd e (hn c fs ρ')
end
end SV
end
section
set_option Elab.async false
set_option linter.all false
set_option autoImplicit false
set_option maxRecDepth 100000
set_option maxHeartbeats 4000000
namespace SV
open PySem PySem.Spec PyProof.Rows L2
section
variable {F B F' B' : Addr → Prop} {g : Cn} {W : WX} {H H' : Hp} {σ : L2.St} {ρ ρ' : Env} {T : Tm} {v : V} {d : D} {K : PySem.W.Frag} {X : Cx} {P : List Nat}
/-! ### a name whose list's items are frozen in their places -/
theorem Sat.frzItems {xs : List D} (S : Sat F B g H σ ρ ((v, .ol xs) :: T)) : ∃ F' B', Ext F B H F' B' H ∧ Sat F' B' g H σ ρ ((v, .ol (D.frzs xs)) :: T) := by
  obtain ⟨F', x, S'⟩ := Sat.step (Ts := [(v, .ol xs)]) (Ts' := [(v, .ol (D.frzs xs))]) (H' := H) S fun fs hr nd hB => by
    obtain ⟨a, vs, fp, e1, e2, e3, h3⟩ := (hr.one.own (fun i z => by cases z) : RepO F g H (.ol xs) v fs)
    subst e1 e2
    have nn := List.nodup_cons.mp nd
    have r := RepOs.frz (F' := fun b => F b ∨ b ∈ fp) (fun b h => .inl h) xs vs fp (fun b h => .inr h) h3
    refine ⟨fun b => F b ∨ b ∈ fp, [a], fun b h => .inl h, fun _ _ _ => rfl, ⟨[a], [], rfl, RT.of ⟨a, vs, [], rfl, rfl, e3, Reps.owned _ _ r⟩, rfl⟩, by simp, fun b hb => .inl (by simp at hb; simp [hb]), fun b hb => hb.elim .inl fun z => .inr (.inl (List.mem_cons_of_mem _ z)), fun b hb z => ?_, fun b hb => ?_⟩
    · obtain rfl : b = a := by simpa using hb
      rcases z with z | z
      · exact hB b (by simp) (S.fb b z)
      · exact nn.1 z
    · rcases hb with z | z
      · exact S.tru z
      · exact RepOs.there _ _ _ h3 b z
  exact ⟨F', _, x, S'⟩
def mVarZ (i : Nat) : M D := fun ρ => match ρ[i]? with
  | some (some (.ol xs)) => some (.ok (.sl i), ρ.set i (some (.ol (D.frzs xs))))
  | _ => none
theorem sim_varZ (i : Nat) : SimE g W (tVar i) (mVarZ i) := fun F B H σ ρ T Q r ρ' S e px h => by
  unfold mVarZ at e
  split at e
  · rename_i xs e1
    cases e
    obtain ⟨v, hv, S1⟩ := S.take e1 rfl
    have hi := (List.getElem?_eq_some_iff.mp e1).1
    obtain ⟨F1, B1, x1, S2⟩ := S1.frzItems
    have S3 := S2.putBack (fun j z => by cases z) hi hv
    exact ⟨v, hv, h _ rfl F1 B1 H v x1 (S3.pushSl hv)⟩
  · cases e
theorem w_varZ (i : Nat) {x : Str} {pos : Pos} (hN : X.N[i]? = some x := by rfl) (hv : Vis X.env.scope x := by first | exact Or.inl rfl | exact Or.inr (Or.inl rfl) | exact Or.inr (Or.inr rfl)) (hd : (x == ("__debug__" : Str)) = false := by decide) (hcd : (x == ("__classdict__" : Str)) = false := by decide) : VE X g W (.Name x pos) (mVarZ i) := .mk (pe_var hN hv hd hcd) (sim_varZ i)
/-! ### len(x[i]), the item may be owned -/
def gLenIx : D → D → Option D := fun x y => match y with
  | .int i => (match x.seq with
    | some (_, xs) => (match atI xs i with
      | some d => gLen d
      | none => none)
    | none => none)
  | _ => none
def rLenIx (K : PySem.W.Frag) : R2 := fun x y H Q => rIx K x y H fun v H' => ∃ u n, [v] = [u] ∧ LenV K u H' n ∧ Q (.int n) H'
theorem gLenIx_ok {x y : V} {dx dy d : D} {f f' : List Addr} {Q : VK} (hK : g.K = K) (rx : RepO F g H dx x f) (ry : RepO F g H dy y f') (e : gLenIx dx dy = some d) (q : ∀ u, Rep F g H d u → Q u H) : rLenIx K x y H Q := by
  unfold gLenIx at e
  split at e
  · rename_i i
    split at e
    · rename_i b xs hs
      split at e
      · rename_i c hc
        obtain ⟨a, vs, g', rfl, s, k⟩ := rx.seq K hs
        obtain ⟨u, f2, h1, h2⟩ := s.at_ hc
        obtain ⟨n, rfl, hn⟩ := gLen_ok (K := K) hK h2 e
        rw [show y = .int i from ry.1]
        have hq : ∃ u' m, [u] = [u'] ∧ LenV K u' H m ∧ Q (.int m) H := ⟨u, n, rfl, hn, q _ (by rfl)⟩
        cases b with
        | true => exact .inr (.inl ⟨a, vs, i, u, rfl, rfl, k, h1, hq⟩)
        | false => exact .inl ⟨a, vs, i, u, rfl, rfl, k, h1, hq⟩
      · cases e
    · cases e
  · cases e
theorem r_lenIx (hK : g.K = K) : SimR g W (rLenIx K) (fLook2 gLenIx) := simR_look fun F B H x y dx dy d f f' Q rx ry e q => gLenIx_ok hK rx ry e q
variable {a b : Expr} {p q pos : Pos} {ma mb : M D}
theorem w_lenIx (hK : g.K = X.K) (hg : Gl X "len") (hm : X.mg "len" = none) (ha : VE X g W a ma) (hb : VE X g W b mb) (hs : PlainIx b := by intro _ _; rfl) (he : starEach [.Subscript a b q] X.env = [(false, eval (.Subscript a b q) X.env)] := by rfl) :
    VE X g W (.Call (.Name "len" p) [.Subscript a b q] [] pos) (mOp (fLook2 gLenIx) ma mb) := by
  have pa : PA X [.Subscript a b q] (tCons (tOp (rIx X.K) (TEof g W ma) (TEof g W mb)) tNil) := pa_cons (pe_ix ix_seq ha hb hs) pa_nil (by rw [he]; rfl)
  have pe := pe_callB (p := p) (pos := pos) call_len hg hm boot_len pa (by decide) (by decide) (by rw [he]; rfl) (by rfl)
  exact .mk pe (sim_op (r_lenIx hK) selfE selfE)

/-! ### x[i][k] = e -/
/-- the list p in slot i stands as it stood, and so do the lists in it -/
def Kp (H H' : Hp) (σ : L2.St) (i : Nat) (xs : List D) : Prop := ∀ p vs, σ[i]? = some (some (.ref p)) → H p = some (.lst vs) → H' p = some (.lst vs) ∧ ∀ (j : Nat) (q : Addr) (ys : List D), vs[j]? = some (.ref q) → xs[j]? = some (.ol ys) → H' q = H q
theorem Kp.refl {i : Nat} {xs : List D} : Kp H H σ i xs := fun p vs h1 h2 => ⟨h2, fun _ _ _ _ _ => rfl⟩
theorem Kp.trans {H2 : Hp} {i : Nat} {xs : List D} (a : Kp H H' σ i xs) (b : Kp H' H2 σ i xs) : Kp H H2 σ i xs := fun p vs h1 h2 => by
  obtain ⟨a1, a2⟩ := a p vs h1 h2
  obtain ⟨b1, b2⟩ := b p vs h1 a1
  exact ⟨b1, fun j q ys h3 h4 => (b2 j q ys h3 h4).trans (a2 j q ys h3 h4)⟩
/-- what is reckoned while the list in slot i stands -/
def SimK (g : Cn) (W : WX) (i : Nat) (t : TE) (m : M D) : Prop := ∀ (F B : Addr → Prop) (H : Hp) (σ : L2.St) (ρ : Env) (T : Tm) (xs : List D) (Q : VK) (r : Res D) (ρ' : Env), Sat F B g H σ ρ T → ρ[i]? = some (some (.ol xs)) → m ρ = some (r, ρ') → PX g W σ T F B H ρ' r →
  (∀ d, r = .ok d → ∀ F' B' H' v, Ext F B H F' B' H' → Kp H H' σ i xs → ρ'[i]? = some (some (.ol xs)) → Sat F' B' g H' σ ρ' ((v, d) :: T) → Q v H') → t σ H Q
def SimKA (g : Cn) (W : WX) (i : Nat) (t : TA) (m : M (List D)) : Prop := ∀ (F B : Addr → Prop) (H : Hp) (σ : L2.St) (ρ : Env) (T : Tm) (xs : List D) (Q : List V → Hp → Prop) (r : Res (List D)) (ρ' : Env), Sat F B g H σ ρ T → ρ[i]? = some (some (.ol xs)) → m ρ = some (r, ρ') → PX g W σ T F B H ρ' r →
  (∀ ds, r = .ok ds → ∀ F' B' H' vs, Ext F B H F' B' H' → Kp H H' σ i xs → ρ'[i]? = some (some (.ol xs)) → vs.length = ds.length → Sat F' B' g H' σ ρ' (vs.zip ds ++ T) → Q vs H') → t σ H Q
def TKof (g : Cn) (W : WX) (i : Nat) (m : M D) : TE := fun σ H Q => ∃ (F B : Addr → Prop) (ρ : Env) (T : Tm) (xs : List D) (r : Res D) (ρ' : Env), Sat F B g H σ ρ T ∧ ρ[i]? = some (some (.ol xs)) ∧ m ρ = some (r, ρ') ∧ PX g W σ T F B H ρ' r ∧
  ∀ d, r = .ok d → ∀ F' B' H' v, Ext F B H F' B' H' → Kp H H' σ i xs → ρ'[i]? = some (some (.ol xs)) → Sat F' B' g H' σ ρ' ((v, d) :: T) → Q v H'
def TKAof (g : Cn) (W : WX) (i : Nat) (m : M (List D)) : TA := fun σ H Q => ∃ (F B : Addr → Prop) (ρ : Env) (T : Tm) (xs : List D) (r : Res (List D)) (ρ' : Env), Sat F B g H σ ρ T ∧ ρ[i]? = some (some (.ol xs)) ∧ m ρ = some (r, ρ') ∧ PX g W σ T F B H ρ' r ∧
  ∀ ds, r = .ok ds → ∀ F' B' H' vs, Ext F B H F' B' H' → Kp H H' σ i xs → ρ'[i]? = some (some (.ol xs)) → vs.length = ds.length → Sat F' B' g H' σ ρ' (vs.zip ds ++ T) → Q vs H'
theorem selfK {i : Nat} {m : M D} : SimK g W i (TKof g W i m) m := fun F B H σ ρ T xs Q r ρ' S e0 e px h => ⟨F, B, ρ, T, xs, r, ρ', S, e0, e, px, h⟩
theorem selfKA {i : Nat} {m : M (List D)} : SimKA g W i (TKAof g W i m) m := fun F B H σ ρ T xs Q r ρ' S e0 e px h => ⟨F, B, ρ, T, xs, r, ρ', S, e0, e, px, h⟩
def KE (X : Cx) (g : Cn) (W : WX) (i : Nat) (e : Expr) (m : M D) : Prop := PE X e (TKof g W i m)
def KA (X : Cx) (g : Cn) (W : WX) (i : Nat) (es : List Expr) (m : M (List D)) : Prop := PA X es (TKAof g W i m)
theorem KE.mk {i : Nat} {e : Expr} {t : TE} {m : M D} (h : PE X e t) (s : SimK g W i t m) : KE X g W i e m := ⟨fun pins st σ H Q I ⟨F, B, ρ, T, xs, r, ρ', S, e0, e1, px, k⟩ => h.run pins st σ H Q I (s F B H σ ρ T xs Q r ρ' S e0 e1 px k)⟩
theorem KA.mk {i : Nat} {es : List Expr} {t : TA} {m : M (List D)} (h : PA X es t) (s : SimKA g W i t m) : KA X g W i es m := ⟨fun ps pins st σ H Q I ⟨F, B, ρ, T, xs, r, ρ', S, e0, e1, px, k⟩ => h.run ps pins st σ H Q I (s F B H σ ρ T xs Q r ρ' S e0 e1 px k)⟩
end
end SV
end
section
set_option Elab.async false
set_option linter.all false
set_option autoImplicit false
set_option maxRecDepth 100000
set_option maxHeartbeats 4000000
namespace SV
open PySem PySem.Spec PyProof.Rows L2
section
variable {F B F' B' : Addr → Prop} {g : Cn} {W : WX} {H H' : Hp} {σ : L2.St} {ρ ρ' : Env} {T : Tm} {v : V} {d : D} {K : PySem.W.Frag} {X : Cx} {P : List Nat} {i : Nat}
theorem SimK.bind {β : Type} {ta : TE} {ma : M D} (ha : SimK g W i ta ma) {k : D → M β} {r : Res β} {R : V → Hp → Prop} {xs : List D} (S : Sat F B g H σ ρ T) (e0 : ρ[i]? = some (some (.ol xs))) (e : bnd ma k ρ = some (r, ρ')) (px : PX g W σ T F B H ρ' r)
    (h : ∀ d ρ1 F1 B1 H1 v, k d ρ1 = some (r, ρ') → Ext F B H F1 B1 H1 → Kp H H1 σ i xs → ρ1[i]? = some (some (.ol xs)) → Sat F1 B1 g H1 σ ρ1 ((v, d) :: T) → R v H1) : ta σ H R := by
  rcases bnd_some e with ⟨a, ρ1, e1, e2⟩ | ⟨c, fs, e1, e2⟩
  · exact ha F B H σ ρ T xs R (.ok a) ρ1 S e0 e1 PX.ok fun d hd F1 B1 H1 v x kp e3 S1 => by cases hd; exact h a ρ1 F1 B1 H1 v e2 x kp e3 S1
  · cases e2
    exact ha F B H σ ρ T xs R (.exc c fs) _ S e0 e1 px.cast fun d hd => by cases hd
theorem SimKA.bind {β : Type} {ta : TA} {ma : M (List D)} (ha : SimKA g W i ta ma) {k : List D → M β} {r : Res β} {R : List V → Hp → Prop} {xs : List D} (S : Sat F B g H σ ρ T) (e0 : ρ[i]? = some (some (.ol xs))) (e : bnd ma k ρ = some (r, ρ')) (px : PX g W σ T F B H ρ' r)
    (h : ∀ ds ρ1 F1 B1 H1 vs, k ds ρ1 = some (r, ρ') → Ext F B H F1 B1 H1 → Kp H H1 σ i xs → ρ1[i]? = some (some (.ol xs)) → vs.length = ds.length → Sat F1 B1 g H1 σ ρ1 (vs.zip ds ++ T) → R vs H1) : ta σ H R := by
  rcases bnd_some e with ⟨a, ρ1, e1, e2⟩ | ⟨c, fs, e1, e2⟩
  · exact ha F B H σ ρ T xs R (.ok a) ρ1 S e0 e1 PX.ok fun d hd F1 B1 H1 v x kp e3 l S1 => by cases hd; exact h a ρ1 F1 B1 H1 v e2 x kp e3 l S1
  · cases e2
    exact ha F B H σ ρ T xs R (.exc c fs) _ S e0 e1 px.cast fun d hd => by cases hd
theorem sk_int (n : Int) : SimK g W i (tC (.int n)) (ret (.int n)) := fun F B H σ ρ T xs Q r ρ' S e0 e px h => by
  cases e
  exact h _ rfl F B H _ Ext.refl Kp.refl e0 (S.push (by rfl))
theorem sk_var (j : Nat) : SimK g W i (tVar j) (mVar j) := fun F B H σ ρ T xs Q r ρ' S e0 e px h => by
  unfold mVar at e
  split at e
  · rename_i d e1
    split at e
    · rename_i n
      obtain ⟨v, hv, f, hr⟩ := S.get e1 (by cases d <;> first | rfl | cases n)
      cases e
      exact ⟨v, hv, h _ rfl F B H v Ext.refl Kp.refl e0 (S.pushSl hv)⟩
    · rename_i n
      split at e
      · cases e
      · rename_i n2
        obtain ⟨v, hv, f, hr⟩ := S.get e1 (by simpa using n2)
        cases e
        exact ⟨v, hv, h _ rfl F B H v Ext.refl Kp.refl e0 (S.push (hr.plain (by simpa using n)).1)⟩
  · cases e
/-- two values looked at -/
theorem sk_look2 {r : R2} {gg : D → D → Option D} {ta tb : TE} {ma mb : M D} (hr : ∀ (F B : Addr → Prop) (H : Hp) (x y : V) (dx dy d : D) (f f' : List Addr) (Q : VK), RepO F g H dx x f → RepO F g H dy y f' → gg dx dy = some d → (∀ u, Rep F g H d u → Q u H) → r x y H Q) (ha : SimK g W i ta ma) (hb : SimK g W i tb mb) : SimK g W i (tOp r ta tb) (mOp (fLook2 gg) ma mb) := fun F B H σ ρ T xs Q res ρ' S e0 e px h => by
  refine ha.bind S e0 e px fun dx ρ1 F1 B1 H1 x e1 x1 k1 e2 S1 => ?_
  refine hb.bind S1 e2 e1 (px.shift x1).cons fun dy ρ2 F2 B2 H2 y e3 x2 k2 e4 S2 => ?_
  obtain ⟨a, b, w, h1, h2, h3, z⟩ := fLook2_some e3
  cases z
  obtain ⟨f, rx⟩ := S2.look (List.mem_cons_of_mem _ (List.mem_cons_self ..)) h1
  obtain ⟨f', ry⟩ := S2.look (List.mem_cons_self ..) h2
  exact hr F2 B2 H2 x y a b w f f' Q rx ry h3 fun u ru => h w rfl F2 B2 H2 u (x1.trans x2) (k1.trans k2) e4 (S2.pop.pop.push ru)
theorem sk_nil : SimKA g W i tNil mNil := fun F B H σ ρ T xs Q r ρ' S e0 e px h => by
  cases e
  exact h [] rfl F B H [] Ext.refl Kp.refl e0 rfl S
theorem sk_cons {t : TE} {u : TA} {a : M D} {b : M (List D)} (ha : SimK g W i t a) (hb : SimKA g W i u b) : SimKA g W i (tCons t u) (mCons a b) := fun F B H σ ρ T xs Q r ρ' S e0 e px h => by
  refine ha.bind S e0 e px fun d ρ1 F1 B1 H1 v e1 x1 k1 e2 S1 => ?_
  refine hb.bind S1 e2 e1 (px.shift x1).cons fun ds ρ2 F2 B2 H2 vs e3 x2 k2 e4 l S2 => ?_
  cases e3
  refine h (d :: ds) rfl F2 B2 H2 (v :: vs) (x1.trans x2) (k1.trans k2) e4 (by simp [l]) (S2.perm ?_)
  simpa using List.perm_middle
theorem gIx_ok {F B : Addr → Prop} {H : Hp} {x y : V} {dx dy d : D} {f f' : List Addr} {Q : VK} (rx : RepO F g H dx x f) (ry : RepO F g H dy y f') (e : gIx dx dy = some d) (q : ∀ u, Rep F g H d u → Q u H) : rIx K x y H Q := by
  unfold gIx at e
  split at e
  · rename_i z i
    split at e
    · rename_i hl
      split at e
      · rename_i c hc
        cases e
        rw [show x = .str z from rx.1, show y = .int i from ry.1]
        exact .inr (.inr ⟨z, i, c, rfl, rfl, by rw [lim_eq]; exact hl, hc, q _ (by rfl)⟩)
      · cases e
    · cases e
  · rename_i i _
    split at e
    · rename_i b xs hs
      split at e
      · rename_i c hc
        split at e
        · cases e
        · rename_i hn
          cases e
          obtain ⟨a, vs, g, rfl, s, k⟩ := rx.seq K hs
          obtain ⟨u, f2, h1, h2⟩ := s.at_ hc
          rw [show y = .int i from ry.1]
          have hq := q u (h2.plain (by simpa using hn)).1
          cases b with
          | true => exact .inr (.inl ⟨a, vs, i, u, rfl, rfl, k, h1, hq⟩)
          | false => exact .inl ⟨a, vs, i, u, rfl, rfl, k, h1, hq⟩
      · cases e
    · cases e
  · cases e
/-! ### a list in a list -/
theorem RepOs.inner : ∀ {xs : List D} {vs : List V} {f : List Addr} {j : Nat} {ys : List D}, RepOs F g H xs vs f → xs[j]? = some (.ol ys) → ∃ q us f1 fq f2, vs[j]? = some (.ref q) ∧ f = f1 ++ ((q :: fq) ++ f2) ∧ H q = some (.lst us) ∧ RepOs F g H ys us fq ∧
    ∀ (H' : Hp) (ys' : List D) (us' : List V) (fq' : List Addr), Ag F H F H' → (∀ a ∈ f1 ++ f2, H' a = H a) → H' q = some (.lst us') → RepOs F g H' ys' us' fq' → RepOs F g H' (xs.set j (.ol ys')) vs (f1 ++ ((q :: fq') ++ f2))
  | [], _, _, _, _, _, e => by simp at e
  | d0 :: ds, _, _, 0, ys, ⟨v0, vs, f1, f2, e1, e2, h1, h2⟩, e => by
    simp at e
    subst e e1 e2
    obtain ⟨q, us, fq, rfl, rfl, hq, hr⟩ := h1
    exact ⟨q, us, [], fq, f2, rfl, rfl, hq, hr, fun H' ys' us' fq' ag k hq' hr' => ⟨.ref q, vs, q :: fq', f2, rfl, rfl, ⟨q, us', fq', rfl, rfl, hq', hr'⟩, RepOs.mono ag _ _ _ (fun a ha => k a (by simpa using ha)) h2⟩⟩
  | d0 :: ds, _, _, j + 1, ys, ⟨v0, vs, f1, f2, e1, e2, h1, h2⟩, e => by
    subst e1 e2
    obtain ⟨q, us, g1, fq, g2, k1, k2, k3, k4, k5⟩ := RepOs.inner (j := j) h2 (by simpa using e)
    subst k2
    refine ⟨q, us, f1 ++ g1, fq, g2, by simpa using k1, by simp, k3, k4, fun H' ys' us' fq' ag k hq' hr' => ?_⟩
    refine ⟨v0, vs, f1, g1 ++ ((q :: fq') ++ g2), rfl, by simp, RepO.mono ag _ _ _ (fun a ha => k a (by simp [ha])) h1, ?_⟩
    exact k5 H' ys' us' fq' ag (fun a ha => k a (by
      rcases List.mem_append.mp ha with z | z
      · simp [z]
      · simp [z])) hq' hr'
/-- the list in slot i is kept from what comes -/
theorem Sat.block {xs : List D} (S : Sat F B g H σ ρ T) (e : ρ[i]? = some (some (.ol xs))) : ∃ B' : Addr → Prop, (∀ a, B a → B' a) ∧ Sat F B' g H σ (ρ.set i none) T ∧
    ∀ (F2 B2 : Addr → Prop) (H2 : Hp) (ρ2 : Env) (T2 : Tm), Ext F B' H F2 B2 H2 → Sat F2 B2 g H2 σ ρ2 T2 → ∃ B3 : Addr → Prop, Ext F B H F2 B3 H2 ∧ Kp H H2 σ i xs ∧ Sat F2 B3 g H2 σ (ρ2.set i (some (.ol xs))) T2 := by
  have hi : i < ρ.length := (List.getElem?_eq_some_iff.mp e).1
  have hls := S.length
  obtain ⟨⟨o1, o2, h1, h2, nd, nb⟩, fb, bt⟩ := S
  obtain ⟨v, f, gg, pm, hv, rx, rs⟩ := h1.take e
  have ro : RepO F g H (.ol xs) v f := rx.own rfl
  have th := RepO.there _ _ _ ro
  have pp : (o1 ++ o2).Perm (f ++ (gg ++ o2)) := by
    rw [← List.append_assoc]
    exact List.Perm.append_right _ pm
  have nd2 := List.nodup_append.mp (pp.nodup_iff.mp nd)
  have nbf : ∀ a ∈ f, ¬ B a := fun a ha => nb a (pp.mem_iff.mpr (List.mem_append_left _ ha))
  refine ⟨fun a => B a ∨ a ∈ f, fun a h => .inl h, ⟨⟨gg, o2, rs, h2, nd2.2.1, fun a ha hb => ?_⟩, fun a h => .inl (fb a h), fun a h => h.elim (bt a) (th a)⟩, fun F2 B2 H2 ρ2 T2 x S2 => ?_⟩
  · rcases hb with z | z
    · exact nb a (pp.mem_iff.mpr (List.mem_append_right _ ha)) z
    · exact nd2.2.2 a z a ha rfl
  · have hl2 := S2.length
    have hi2 : i < ρ2.length := by omega
    obtain ⟨⟨p1, p2, k1, k2, nd3, nb3⟩, fb3, bt3⟩ := S2
    have ag : Ag F H F2 H2 := ⟨x.f, fun a ha => x.h a (.inl (fb a ha))⟩
    have ro2 : RepO F2 g H2 (.ol xs) v f := RepO.mono ag _ _ _ (fun a ha => x.h a (.inr ha)) ro
    obtain ⟨g2, sg, k4⟩ := k1.drop i (some v)
    have es : σ.set i (some v) = σ := by
      apply List.ext_getElem?
      intro j
      by_cases hj : i = j
      · subst hj
        rw [List.getElem?_set_self (List.getElem?_eq_some_iff.mp hv).1, hv]
      · rw [List.getElem?_set_ne hj]
    rw [es] at k4
    obtain ⟨g3, pm3, k5⟩ := k4.put (i := i) (d := .ol xs) (v := v) (f := f) (by simp [hi2]) (RX.of ro2)
    rw [es, List.set_set] at k5
    have ss : (g2 ++ p2).Sublist (p1 ++ p2) := List.Sublist.append_right sg _
    have pp3 : (g3 ++ p2).Perm (f ++ (g2 ++ p2)) := by
      rw [← List.append_assoc]
      exact List.Perm.append_right _ pm3
    refine ⟨fun a => B2 a ∧ a ∉ f, ⟨x.f, fun a h => ⟨x.b a (.inl h), fun z => nbf a z h⟩, fun a h => x.h a (.inl h), fun a h => (x.n a h).imp_right fun z y => z (.inl y)⟩, fun p vs e1 e2 => ?_, ⟨g3, p2, k5, k2, pp3.nodup_iff.mpr (List.nodup_append.mpr ⟨nd2.1, nd3.sublist ss, fun a ha b hb z => ?_⟩), fun a ha hb => ?_⟩, fun a ha => ⟨fb3 a ha, fun z => ?_⟩, fun a ha => bt3 a ha.1⟩
    · obtain ⟨p', vs', fp, q1, q2, q3, q4⟩ := ro
      rw [hv, q1] at e1
      cases e1
      rw [e2] at q3
      cases q3
      refine ⟨(x.h p (.inr (by rw [q2]; simp))).trans e2, fun j q ys e3 e4 => ?_⟩
      obtain ⟨q', us, f1, fq, f2, r1, r2, _⟩ := RepOs.inner q4 e4
      rw [e3] at r1
      cases r1
      exact x.h q (.inr (by rw [q2, r2]; simp))
    · subst z
      exact nb3 a (ss.mem hb) (x.b a (.inr ha))
    · rcases List.mem_append.mp (pp3.mem_iff.mp ha) with z | z
      · exact hb.2 z
      · exact nb3 a (ss.mem z) hb.1
    · rcases x.n a ha with y | y
      · exact nbf a z (fb a y)
      · exact y (.inr z)
/-- the store -/
theorem Sat.store2 {j m : Nat} {xs ys : List D} (S : Sat F B g H σ ρ ((v, d) :: T)) (e : ρ[i]? = some (some (.ol xs))) (n : ∀ j, d ≠ .sl j) (hj : xs[j]? = some (.ol ys)) (hm : m < ys.length) :
    ∃ p vs q us, σ[i]? = some (some (.ref p)) ∧ H p = some (.lst vs) ∧ vs.length = xs.length ∧ vs[j]? = some (.ref q) ∧ H q = some (.lst us) ∧ us.length = ys.length ∧
      ∃ F' B', Ext F B H F' B' (upd H q (.lst (us.set m v))) ∧ Sat F' B' g (upd H q (.lst (us.set m v))) σ (ρ.set i (some (.ol (xs.set j (.ol (ys.set m d)))))) T := by
  obtain ⟨v0, hv0, S3⟩ := S.take e rfl
  have hi : i < ρ.length := (List.getElem?_eq_some_iff.mp e).1
  obtain ⟨_, rt⟩ := S3.top
  obtain ⟨p, vs, f3, rfl, _, hp, k5⟩ := (rt.own (fun i z => by cases z) : RepO F g H (.ol xs) v0 _)
  obtain ⟨q, us, f1, fq, f2, r1, r2, r3, r4, _⟩ := RepOs.inner k5 hj
  refine ⟨p, vs, q, us, hv0, hp, k5.length.symm, r1, r3, r4.length.symm, ?_⟩
  obtain ⟨F', x, S'⟩ := Sat.step (Ts := [(.ref p, .ol xs), (v, d)]) (Ts' := [(.ref p, .ol (xs.set j (.ol (ys.set m d))))]) (H' := upd H q (.lst (us.set m v))) S3 fun fs hr nd hB => by
    obtain ⟨g1, g2, e1, h1, h2⟩ := hr
    obtain ⟨p', vs', fp, q1, q2, q3, q4⟩ := (h1.own (fun i z => by cases z) : RepO F g H (.ol xs) (.ref p) g1)
    cases q1
    rw [hp] at q3
    cases q3
    have h3 : RepO F g H d v g2 := (RTs.one h2).own n
    obtain ⟨q', us', f1, fq, f2, r1', r2', r3', r4', r5'⟩ := RepOs.inner q4 hj
    rw [r1] at r1'
    cases r1'
    rw [r3] at r3'
    cases r3'
    obtain ⟨fq', jj, w1, w2⟩ := RepOs.setAt r4' hm h3
    subst e1 q2 r2'
    have nn := List.nodup_append.mp nd
    have n1 := List.nodup_cons.mp nn.1
    have n2 := List.nodup_append.mp n1.2
    have n3 := List.nodup_append.mp n2.2.1
    have n4 := List.nodup_cons.mp n3.1
    have qp : q ≠ p := fun z => n1.1 (by rw [← z]; simp)
    have nF : ∀ a, a ∈ (p :: (f1 ++ ((q :: fq) ++ f2))) ++ g2 → ¬ F a := fun a ha z => hB a ha (S.fb a z)
    have ag : Ag F H F (upd H q (.lst (us.set m v))) := ⟨fun _ h => h, fun b hb => upd_ne fun z => nF q (by simp) (z ▸ hb)⟩
    have ne : ∀ a, a ∈ f1 ++ f2 ∨ a ∈ fq ∨ a ∈ g2 → a ≠ q := by
      rintro a ha rfl
      rcases ha with z | z | z
      · rcases List.mem_append.mp z with y | y
        · exact n2.2.2 a y a (by simp) rfl
        · exact n3.2.2 a (by simp) a y rfl
      · exact n4.1 z
      · exact nn.2.2 a (by simp) a z rfl
    have subq : ∀ b ∈ fq', b ∈ fq ∨ b ∈ g2 := fun b hb => List.mem_append.mp (w2.mem_iff.mpr (List.mem_append_left _ hb))
    have k6 := RepOs.mono ag _ _ _ (fun b hb => upd_ne (ne b (.inr (subq b hb)))) w1
    have k7 := r5' _ _ _ fq' ag (fun a ha => upd_ne (ne a (.inl ha))) upd_same k6
    refine ⟨F, p :: (f1 ++ ((q :: fq') ++ f2)), fun _ h => h, fun b hb _ => upd_ne fun z => hb (by rw [z]; simp), ⟨_, [], (List.append_nil _).symm, ⟨p, vs, _, rfl, rfl, (upd_ne (Ne.symm qp)).trans hp, k7⟩, rfl⟩, ?_, fun b hb => .inl ?_, fun b hb => .inl hb, fun b hb z => ?_, fun b hb => ?_⟩
    · have big : (p :: (f1 ++ ((q :: (fq ++ g2)) ++ f2))).Nodup := by
        refine (List.Perm.nodup_iff ?_).mp nd
        simp only [List.cons_append, List.append_assoc]
        refine List.Perm.cons _ (List.Perm.append_left _ (List.Perm.cons _ (List.Perm.append_left _ ?_)))
        exact List.perm_append_comm
      have big2 : (p :: (f1 ++ ((q :: (fq' ++ jj)) ++ f2))).Nodup := by
        refine (List.Perm.nodup_iff ?_).mp big
        exact List.Perm.cons _ (List.Perm.append_left _ (List.Perm.append_right _ (List.Perm.cons _ w2)))
      refine big2.sublist ?_
      exact List.Sublist.cons₂ _ (List.Sublist.append_left (List.Sublist.append_right (List.Sublist.cons₂ _ (List.sublist_append_left _ _)) _) _)
    · simp only [List.mem_cons, List.mem_append] at hb ⊢
      rcases hb with z | z | (z | z) | z
      · simp [z]
      · simp [z]
      · simp [z]
      · rcases subq b z with y | y <;> simp [y]
      · simp [z]
    · refine nF b ?_ z
      simp only [List.mem_cons, List.mem_append] at hb ⊢
      rcases hb with z | z | (z | z) | z
      · simp [z]
      · simp [z]
      · simp [z]
      · rcases subq b z with y | y <;> simp [y]
      · simp [z]
    · obtain ⟨o, e⟩ := S.tru hb
      exact ⟨o, by rw [upd_ne (show b ≠ q by rintro rfl; exact nF b (by simp) hb)]; exact e⟩
  exact ⟨F', _, x, S'.putBack (fun j z => by cases z) hi hv0⟩
end
end SV
end
section
set_option Elab.async false
set_option linter.all false
set_option autoImplicit false
set_option maxRecDepth 100000
set_option maxHeartbeats 4000000
namespace SV
open PySem PySem.Spec PyProof.Rows L2
section
variable {F B F' B' : Addr → Prop} {g : Cn} {W : WX} {H H' : Hp} {σ : L2.St} {ρ ρ' : Env} {T : Tm} {v : V} {d : D} {K : PySem.W.Frag} {X : Cx} {P : List Nat} {i : Nat}
/-- a call whose arguments lie at hand -/
def fCall (io : List Bool) (f : FM) (dd : List D) (ds : List D) : M D := bnd (fPreps io ds) fun xs ρ1 => if ioOk io ds.length dd.length = true then (match f (xs ++ dd) with
  | some (r, cs) => (match callBack io ds cs ρ1 with
    | some ρ2 => some (r, ρ2)
    | none => none)
  | none => none) else none
theorem call_at {f : FM} {io : List Bool} {dd : List D} {dv : List V} {ds : List D} {vs : List V} {Q : VK} {res : Res D} (hd : dvals dd = some dv) (l : vs.length = ds.length) (S1 : Sat F B g H σ ρ (vs.zip ds ++ T)) (e1 : fCall io f dd ds ρ = some (res, ρ')) (px : PX g W σ T F B H ρ' res)
    (h : ∀ d, res = .ok d → ∀ F' B' H' v, Ext F B H F' B' H' → Sat F' B' g H' σ ρ' ((v, d) :: T) → Q v H') : spV g io f (vs ++ dv) H Q (WE W σ) := by
  rcases bnd_some e1 with ⟨xs, ρ2, e2, e3⟩ | ⟨c, fs, e2, e3⟩
  · obtain ⟨xs', hx, l2, n2, ⟨F2, B2, x2, S2⟩, hs⟩ := S1.preps l e2
    cases hx
    split at e3
    · rename_i hio
      obtain ⟨io1, io2⟩ := Bool.and_eq_true_iff.mp hio
      have io1 : io.length = ds.length + dd.length := of_decide_eq_true io1
      have io2 : ∀ b ∈ io.drop vs.length, b = false := fun b hb => by
        rw [l] at hb
        simpa using List.all_eq_true.mp io2 b hb
      split at e3
      · rename_i r cs e4
        split at e3
        · rename_i ρ3 e5
          cases e3
          have rd : Reps F2 g H dd dv := dvals_reps hd
          have S3 : Sat F2 B2 g H σ ρ2 ((vs ++ dv).zip (xs ++ dd) ++ T) := by
            rw [zip_app l2, List.append_assoc]
            refine (S2.pushs rd).perm ?_
            rw [← List.append_assoc, ← List.append_assoc]
            exact List.Perm.append_right _ List.perm_append_comm
          have nA : ∀ d ∈ xs ++ dd, ∀ i, d ≠ .sl i := fun d hm => by
            rcases List.mem_append.mp hm with hm | hm
            · exact n2 _ hm
            · exact rd.nsl _ hm
          have nA2 : ∀ x ∈ (vs ++ dv).zip (xs ++ dd), ∀ i, x.2 ≠ .sl i := fun x hx => nA _ (List.of_mem_zip (show (x.1, x.2) ∈ _ from hx)).2
          obtain ⟨Bc, S4, k⟩ := Sat.call nA2 S3
          have lA : (vs ++ dv).length = io.length := by rw [List.length_append, ← rd.length, io1, l]
          have es : sel io (vs ++ dv) = sel io vs := sel_append io2
          refine ⟨F2, Bc, xs ++ dd, res, cs, lA, by rw [List.length_append, io1, ← l2, l], nA, S4, e4, fun d hd F' B' H' v x lc ns S5 => ?_, fun c fs hd F' B' H' cls dx x lc ns S5 xa => ?_⟩
          · rw [es] at lc S5
            subst hd
            have nr : ∀ i, d ≠ .sl i := fun i z => by
              obtain ⟨_, r5⟩ := S5.top
              rw [z] at r5
              have q : ([] : L2.St)[i]? = some (some v) := r5.1
              simp at q
            obtain ⟨B6, x6, S6⟩ := k F' B' H' _ (fun y hy => by
              rcases List.mem_cons.mp hy with hy | hy
              · rw [hy]; exact nr
              · exact ns _ (List.of_mem_zip (show (y.1, y.2) ∈ _ from hy)).2) x S5
            refine h d rfl F' B6 H' v (x2.trans x6) ?_
            have S7 : Sat F' B6 g H' σ ρ2 ((sel io vs).zip cs ++ ((v, d) :: T)) := S6.perm List.perm_middle.symm
            exact Sat.back l lc ns hs S7 e5
          · rw [es] at lc S5
            subst hd
            obtain ⟨B6, x6, S6⟩ := k F' B' H' _ (fun y hy => ns _ (List.of_mem_zip (show (y.1, y.2) ∈ _ from hy)).2) x S5
            exact px c fs rfl F' B6 H' cls dx (x2.trans x6) (Sat.back l lc ns hs S6 e5) xa
        · cases e3
      · cases e3
    · cases e3
  · obtain ⟨ds', hd, _⟩ := S1.preps l e2
    cases hd
/-- .. while the list in slot i stands -/
def mCallB (i : Nat) (io : List Bool) (f : FM) (dd : List D) (a : M (List D)) : M D := bnd a fun ds ρ => match ρ[i]? with
  | some (some (.ol xs)) => (match fCall io f dd ds (ρ.set i none) with
    | some (r, ρ2) => some (r, ρ2.set i (some (.ol xs)))
    | none => none)
  | _ => none
theorem sk_call {f : FM} {io : List Bool} {dd : List D} {dv : List V} {t : TA} {a : M (List D)} (hd : dvals dd = some dv) (ha : SimKA g W i t a) : SimK g W i (tCallSD (spV g io f) dv (WE W) t) (mCallB i io f dd a) := fun F B H σ ρ T xs Q res ρ' S e0 e px h => by
  refine ha.bind S e0 e px fun ds ρ1 F1 B1 H1 vs e1 x1 k1 e2 l S1 => ?_
  rw [e2] at e1
  have e1 : (match fCall io f dd ds (ρ1.set i none) with
    | some (r, ρ2) => some (r, ρ2.set i (some (.ol xs)))
    | none => none) = some (res, ρ') := e1
  split at e1
  · rename_i r ρ2 e3
    cases e1
    have hi : i < ρ1.length := (List.getElem?_eq_some_iff.mp e2).1
    obtain ⟨Bb, bb, S2, un⟩ := S1.block e2
    have xb : Ext F1 B1 H1 F1 Bb H1 := ⟨fun _ h => h, bb, fun _ _ => rfl, fun _ h => .inl h⟩
    refine call_at hd l S2 e3 (fun c fs hr F2 B2 H2 cls dx x S3 xa => ?_) fun d hr F2 B2 H2 v x S3 => ?_
    · subst hr
      obtain ⟨B3, x3, _, S4⟩ := un F2 B2 H2 ρ2 T x S3
      exact px c fs rfl F2 B3 H2 cls dx (x1.trans x3) S4 xa
    · subst hr
      obtain ⟨B3, x3, k3, S4⟩ := un F2 B2 H2 ρ2 ((v, d) :: T) x S3
      have hl := S3.length
      have hl1 := S2.length
      simp at hl1
      exact h d rfl F2 B3 H2 v (x1.trans x3) (k1.trans k3) (by rw [List.getElem?_set_self (by omega)]) S4
  · cases e1
/-! ### the statement -/
def fSt2 (i : Nat) (d : D) (z1 : D) (m2 : M D) : SM := fun ρ => match z1, ρ[i]? with
  | .int k1, some (some (.ol xs)) => (match ixN xs.length k1 with
    | some j => (match xs[j]? with
      | some (.ol ys) => bndS m2 (fun z2 ρ2 => match z2 with
        | .int k2 => (match ixN ys.length k2 with
          | some m => some (.nx, ρ2.set i (some (.ol (xs.set j (.ol (ys.set m d))))))
          | none => none)
        | _ => none) ρ
      | _ => none)
    | none => none)
  | _, _ => none
def mSetII (i : Nat) (m1 m2 me : M D) : SM := bndS me fun d0 => bndS (fOwn d0) fun d ρ => match ρ[i]? with
  | some (some (.ol _)) => bndS m1 (fun z1 => fSt2 i d z1 m2) ρ
  | _ => none
theorem sim_setII {te t1 t2 : TE} {me m1 m2 : M D} (he : SimE g W te me) (h1 : SimE g W t1 m1) (h2 : SimK g W i t2 m2) : SimS g W P (tAsg te (gSub (tOp (rIx K) (tVar i) t1) t2 rSetL)) (mSetII i m1 m2 me) := fun F B H σ ρ Dn fl ρ' S e p => by
  refine SimE.bindS he S e p fun d0 ρ1 F1 B1 H1 v e1 x1 S1 => ?_
  rcases bndS_some e1 with ⟨d, ρ2, e2, e3⟩ | ⟨c, fs, e2, e3⟩
  · obtain ⟨d', hd, n, F2, B2, x2, S2⟩ := S1.fOwn e2
    cases hd
    split at e3
    · rename_i ys0 e0
      obtain ⟨v0, hv0, f0, r0⟩ := S2.get e0 rfl
      refine ⟨v0, hv0, ?_⟩
      have x12 := x1.trans x2
      rcases bndS_some e3 with ⟨z1, ρ3, e4, e5⟩ | ⟨c, fs, e4, e5⟩
      · refine h1 F2 B2 H1 σ ρ2 _ _ (.ok z1) ρ3 S2 e4 PX.ok fun d' hd F3 B3 H3 w x3 S3 => ?_
        cases hd
        have x13 := x12.trans x3
        unfold fSt2 at e5
        split at e5
        · rename_i k1 xs e6
          split at e5
          · rename_i j hj
            split at e5
            · rename_i ys hys
              obtain ⟨_, rk⟩ := S3.top
              cases rt_int rk
              have S4 := S3.pop
              obtain ⟨v1, hv1, f1, r1⟩ := S4.get e6 rfl
              rw [hv0] at hv1
              cases hv1
              obtain ⟨pp, vs, fp, rfl, _, hp, r2⟩ := r1
              obtain ⟨q, us, _, _, _, q1, _, q3, _, _⟩ := RepOs.inner r2 hys
              have lvs := r2.length
              refine .inl ⟨pp, vs, k1, .ref q, rfl, rfl, .inl (.inl hp), ?_, ?_⟩
              · unfold atI
                rw [← lvs, hj]
                exact q1
              rcases bndS_some e5 with ⟨z2, ρ4, e7, e8⟩ | ⟨c, fs, e7, e8⟩
              · refine h2 F3 B3 H3 σ ρ3 _ xs _ (.ok z2) ρ4 S4 e6 e7 PX.ok fun d' hd F4 B4 H4 w2 x4 kp e9 S5 => ?_
                cases hd
                split at e8
                · rename_i k2
                  split at e8
                  · rename_i m hm
                    cases e8
                    obtain ⟨_, rk2⟩ := S5.top
                    cases rt_int rk2
                    obtain ⟨kp1, kp2⟩ := kp pp vs hv0 hp
                    obtain ⟨p', vs', q', us', s1, s2, s3, s4, s5, s6, F5, B5, x5, S6⟩ := S5.pop.store2 e9 n hys (ixN_seq hm).2.1
                    rw [hv0] at s1
                    cases s1
                    rw [kp1] at s2
                    cases s2
                    rw [q1] at s4
                    cases s4
                    exact ⟨q, us', k2, m, rfl, rfl, s5, by rw [s6]; exact hm, p.nx rfl F5 B5 _ σ ((x13.trans x4).trans x5) (fun _ _ => rfl) S6⟩
                  · cases e8
                · cases e8
              · cases e8
                exact h2 F3 B3 H3 σ ρ3 _ xs _ (.exc c fs) _ S4 e6 e7 (((p.px (α := D)).shift x13).cons) fun d' hd => by cases hd
            · cases e5
          · cases e5
        · cases e5
      · cases e5
        exact h1 F2 B2 H1 σ ρ2 _ _ (.exc c fs) _ S2 e4 (((p.px (α := D)).shift x12).cons) fun d' hd => by cases hd
    · cases e3
  · obtain ⟨d', hd, _⟩ := S1.fOwn e2
    cases hd
theorem vs_setII {i : Nat} {x : Str} {k1 k2 e : Expr} {m1 m2 me : M D} {p1 p2 p3 pos : Pos} (hN : X.N[i]? = some x) (hv : Vis X.env.scope x) (h1 : VE X g W k1 m1) (h2 : KE X g W i k2 m2) (he : VE X g W e me) (hs1 : PlainIx k1 := by intro _ _; rfl) (hd : (x == ("__debug__" : Str)) = false := by decide) (hcd : (x == ("__classdict__" : Str)) = false := by decide)
    (ha : ∀ v, assign (.Subscript (.Subscript (.Name x p1) k1 p2) k2 p3) X.env v = (do
      let ov ← holding [v] (eval (.Subscript (.Name x p1) k1 p2) X.env)
      let iv ← holding [v, ov] (eval k2 X.env)
      standAt p3
      holding [v, ov, iv] (setItem ov iv v)
      release [v, ov, iv] []) := by intro _; rfl)
    (hs : swapsWithSole [.Subscript (.Subscript (.Name x p1) k1 p2) k2 p3] e pos.line X.env = pure false := by rfl) (hw : swappedStores [.Subscript (.Subscript (.Name x p1) k1 p2) k2 p3] e X.env = pure none := by rfl) (hh : (assignEach [.Subscript (.Subscript (.Name x p1) k1 p2) k2 p3] X.env).map (·.2) = [assign (.Subscript (.Subscript (.Name x p1) k1 p2) k2 p3) X.env] := by rfl) :
    VS X g W P (.Assign [.Subscript (.Subscript (.Name x p1) k1 p2) k2 p3] e pos) (mSetII i m1 m2 me) := .mk (ps_asg he (pg_sub (pe_ix ix_seq (pe_var hN hv hd hcd) h1 hs1) h2 set_list ha) hs hw hh) (sim_setII selfE selfE selfK)
/-! ### the second index -/
variable {a b : Expr} {es : List Expr} {pos p q : Pos} {ma mb : M D} {ms : M (List D)}
theorem ke_int {n : Int} {j pos} : KE X g W i (.Constant (.int n) j pos) (ret (.int n)) := .mk pe_int (sk_int n)
theorem ke_var (j : Nat) {x : Str} {pos : Pos} (hN : X.N[j]? = some x := by rfl) (hv : Vis X.env.scope x := by first | exact Or.inl rfl | exact Or.inr (Or.inl rfl) | exact Or.inr (Or.inr rfl)) (hd : (x == ("__debug__" : Str)) = false := by decide) (hcd : (x == ("__classdict__" : Str)) = false := by decide) : KE X g W i (.Name x pos) (mVar j) := .mk (pe_var hN hv hd hcd) (sk_var j)
theorem ke_ix (ha : KE X g W i a ma) (hb : KE X g W i b mb) (hs : PlainIx b := by intro _ _; rfl) : KE X g W i (.Subscript a b pos) (mOp fIx ma mb) := .mk (pe_ix ix_seq ha hb hs) (sk_look2 (fun F B H x y dx dy d f f' Q rx ry e q => gIx_ok (B := B) rx ry e q) selfK selfK)
theorem ke_lenIx (hK : g.K = X.K) (hg : Gl X "len") (hm : X.mg "len" = none) (ha : KE X g W i a ma) (hb : KE X g W i b mb) (hs : PlainIx b := by intro _ _; rfl) (he : starEach [.Subscript a b q] X.env = [(false, eval (.Subscript a b q) X.env)] := by rfl) :
    KE X g W i (.Call (.Name "len" p) [.Subscript a b q] [] pos) (mOp (fLook2 gLenIx) ma mb) := by
  have pa : PA X [.Subscript a b q] (tCons (tOp (rIx X.K) (TKof g W i ma) (TKof g W i mb)) tNil) := pa_cons (pe_ix ix_seq ha hb hs) pa_nil (by rw [he]; rfl)
  have pe := pe_callB (p := p) (pos := pos) call_len hg hm boot_len pa (by decide) (by decide) (by rw [he]; rfl) (by rfl)
  exact .mk pe (sk_look2 (fun F B H x y dx dy d f f' Q rx ry e q => gLenIx_ok hK rx ry e q) selfK selfK)
theorem ka_nil : KA X g W i [] mNil := .mk pa_nil sk_nil
theorem ka_cons (ha : KE X g W i a ma) (hr : KA X g W i es ms) (hs : starEach (a :: es) X.env = (false, eval a X.env) :: starEach es X.env := by rfl) : KA X g W i (a :: es) (mCons ma ms) := .mk (pa_cons ha hr hs) (sk_cons selfK selfKA)
theorem ke_call {k k2 : Nat} {f : Addr} {fd : FuncData} {ps : List Str} {io : List Bool} {fm : FM} {dd : List D} {dv : List V} {x : Str} {p pos : Pos} {a : Expr} {es : List Expr} {ms : M (List D)} (tk : Takes X W) (hr : Room k2 X.A)
    (Fn : FnOk X.prog X.w X.K X.mg X.base (L2.CX X.prog X.w) k f fd ps (spV g io fm)) (hb : Bd X.K fd ps dv) (hm : X.mg x = some (.ref f)) (hk : PySem.W.keepIn X.K (.ref f) = true)
    (ha : KA X g W i (a :: es) ms) (hd : dvals dd = some dv := by rfl) (hkk : k ≤ k2 := by decide) (hg : Gl X x := by rfl) (hdb : (x == ("__debug__" : Str)) = false := by decide) (he : starEach (a :: es) X.env = (false, eval a X.env) :: starEach es X.env := by rfl) (hpl : (backTo pos (starEach es X.env)).any (·.1) = false := by rfl) :
    KE X g W i (.Call (.Name x p) (a :: es) [] pos) (mCallB i io fm dd ms) := by
  obtain ⟨dus, h1, h2⟩ := hb.ex
  exact .mk (pe_callSD Fn (hr.mono hkk) hg hm hk h2 h1 (fun σ => passAt tk σ) ha hdb he hpl) (sk_call hd selfKA)
end
end SV
end
section
set_option Elab.async false
set_option linter.all false
set_option autoImplicit false
set_option maxRecDepth 100000
set_option maxHeartbeats 4000000
namespace SV
open PySem PySem.Spec PyProof.Rows L2
/-! ### == of things that are alike through and through, dicts of ints among them -/
def isInl : Key → Bool
  | .inl _ => true
  | .inr _ => false
def D.sm : Nat → D → D → Bool
  | _, .non, .non => true
  | _, .bl a, .bl b => a == b
  | _, .int a, .int b => a == b
  | _, .str a, .str b => a == b
  | n + 1, .tup xs, .tup ys => (xs.length == ys.length) && (xs.zip ys).all fun p => D.sm n p.1 p.2
  | n + 1, .lst xs, .lst ys => (xs.length == ys.length) && (xs.zip ys).all fun p => D.sm n p.1 p.2
  | n + 1, .dk ks xs, .dk ls ys => ((decide (ks = ls) && ks.all isInl) && xs.all fun d => d.sv.isSome) && ((xs.length == ys.length) && (xs.zip ys).all fun p => D.sm n p.1 p.2)
  | _, _, _ => false
section
variable {prog prog' : Program} {w w' : World}
theorem pairs_conv {es : List DictEntry} {kvs : List (Key × Value)} (h : Pairs (mixKind prog w) es kvs) : Pairs (mixKind prog' w') es kvs := by
  induction h with
  | nil => exact .nil
  | cons h1 h2 _ ih => exact .cons h1 h2 ih
theorem pairs_mem {es : List DictEntry} {kvs : List (Key × Value)} (h : Pairs (mixKind prog w) es kvs) : ∀ e ∈ es, ∃ kv ∈ kvs, keyIs kv.1 e.key = true := by
  induction h with
  | nil => intro e he; cases he
  | cons h1 h2 _ ih =>
    intro e he
    rcases List.mem_cons.mp he with rfl | he
    · exact ⟨_, List.mem_cons_self .., h1⟩
    · obtain ⟨kv, q, r⟩ := ih e he
      exact ⟨kv, List.mem_cons_of_mem _ q, r⟩
theorem dictInl {h : Heap} {a : Addr} {kvs : List (Key × Value)} (hk : ∀ p ∈ kvs, isInl p.1 = true) (d : h.DictOf (mixKind prog w) a kvs) : h.DictOf (mixKind prog' w') a kvs := by
  obtain ⟨o, es, ep, h1, h2, h3, h4, h5, h6⟩ := d
  refine ⟨o, es, ep, h1, h2, h3, fun e he => ?_, pairs_conv h5, h6⟩
  obtain ⟨k, k1, k2⟩ := h4 e he
  obtain ⟨kv, q1, q2⟩ := pairs_mem h5 e (by simpa using he)
  have e1 : k = kv.1 := (mixKind prog w).inj _ _ _ k1 q2
  have i1 := hk kv q1
  refine ⟨k, k1, k2.trans ?_⟩
  rw [e1]
  cases hh : kv.1 with
  | inl i => rfl
  | inr x => rw [hh] at i1; cases i1
theorem kv_keys {kvs : List (Key × V)} {vs : List (Key × Value)} (h : KV kvs vs) : vs.map (·.1) = kvs.map (·.1) := by
  unfold KV at h
  induction h with
  | nil => rfl
  | cons h _ ih => simp [h.1, ih]
end
section
variable {F : Addr → Prop} {g : Cn} {H : Hp} {X : Cx} {pins : List (Addr × Obj)} {σ : L2.St} {s : Shared}
theorem sm_sv {n : Nat} {d e : D} {v u : V} (h : D.sm n d e = true) (hs : d.sv.isSome = true) (r : Rep F g H d v) (q : Rep F g H e u) : v = u ∧ flatB v = true := by
  cases d with
  | non => cases e <;> first | (cases (show v = V.non from r); cases (show u = V.non from q); exact ⟨rfl, rfl⟩) | (simp [D.sm] at h; done)
  | bl a =>
    cases e with
    | bl b =>
      have z : a = b := by simpa [D.sm] using h
      subst z
      exact ⟨(show v = _ from r).trans (show u = _ from q).symm, by rw [show v = _ from r]; rfl⟩
    | _ => simp [D.sm] at h
  | int a =>
    cases e with
    | int b =>
      have z : a = b := by simpa [D.sm] using h
      subst z
      exact ⟨(show v = _ from r).trans (show u = _ from q).symm, by rw [show v = _ from r]; rfl⟩
    | _ => simp [D.sm] at h
  | str a =>
    cases e with
    | str b =>
      have z : a = b := by simpa [D.sm] using h
      subst z
      exact ⟨(show v = _ from r).trans (show u = _ from q).symm, by rw [show v = _ from r]; rfl⟩
    | _ => simp [D.sm] at h
  | _ => cases hs
theorem sm_svs {n : Nat} : ∀ {ds es : List D} {vs us : List V}, ds.length = es.length → ((ds.zip es).all fun p => D.sm n p.1 p.2) = true → (ds.all fun d => d.sv.isSome) = true → Reps F g H ds vs → Reps F g H es us → vs = us ∧ ∀ v ∈ vs, flatB v = true
  | [], [], _, _, _, _, _, r, q => by
    rw [show _ = _ from r, show _ = _ from q]
    exact ⟨rfl, by simp⟩
  | d :: ds, e :: es, _, _, l, h, hs, ⟨v, vs, e1, r1, r2⟩, ⟨u, us, e2, q1, q2⟩ => by
    subst e1 e2
    simp only [List.zip_cons_cons, List.all_cons, Bool.and_eq_true] at h hs
    obtain ⟨z1, z2⟩ := sm_sv h.1 hs.1 r1 q1
    obtain ⟨z3, z4⟩ := sm_svs (by simpa using l) h.2 hs.2 r2 q2
    subst z1 z3
    exact ⟨rfl, fun x hx => by
      rcases List.mem_cons.mp hx with rfl | hx
      · exact z2
      · exact z4 x hx⟩
  | [], _ :: _, _, _, l, _, _, _, _ => by simp at l
  | _ :: _, [], _, _, l, _, _, _, _ => by simp at l
theorem eqs_of {A : Around} {n : Nat} (ih : ∀ d e v v' u u', D.sm n d e = true → Rep F g H d v → Rep F g H e v' → RelV v u → RelV v' u' → SeqAt.EqAt A s u u' true) : ∀ {xs ys : List D} {vs ws : List V} {us us' : List Value}, xs.length = ys.length → ((xs.zip ys).all fun p => D.sm n p.1 p.2) = true → Reps F g H xs vs → Reps F g H ys ws → Vals vs us → Vals ws us' →
    us.length = us'.length ∧ ∀ j (h1 : j < us.length) (h2 : j < us'.length), SeqAt.EqAt A s us[j] us'[j] true
  | [], [], _, _, _, _, _, _, r, q, a, b => by
    rw [show _ = _ from r] at a
    rw [show _ = _ from q] at b
    cases a
    cases b
    exact ⟨rfl, fun j h1 => absurd h1 (Nat.not_lt_zero _)⟩
  | d :: ds, e :: es, _, _, _, _, l, h, ⟨v, vs, e1, r1, r2⟩, ⟨u, us, e2, q1, q2⟩, a, b => by
    subst e1 e2
    cases a with
    | cons a1 a2 =>
      cases b with
      | cons b1 b2 =>
        simp only [List.zip_cons_cons, List.all_cons, Bool.and_eq_true] at h
        obtain ⟨z1, z2⟩ := eqs_of ih (by simpa using l) h.2 r2 q2 a2 b2
        refine ⟨by simp [z1], fun j h1 h2 => ?_⟩
        cases j with
        | zero => exact ih _ _ _ _ _ _ h.1 r1 q1 a1 b1
        | succ j => exact z2 j (Nat.lt_of_succ_lt_succ h1) (Nat.lt_of_succ_lt_succ h2)
  | [], _ :: _, _, _, _, _, l, _, _, _, _, _ => by simp at l
  | _ :: _, [], _, _, _, _, l, _, _, _, _, _ => by simp at l
/-- two dicts of ints alike -/
theorem dk_hits {n : Nat} {ks ls : List Key} {xs ys : List D} {a b : Addr} {v v' : V} (I : Inv X pins σ H s) (h : D.sm (n + 1) (.dk ks xs) (.dk ls ys) = true) (r : Rep F g H (.dk ks xs) v) (q : Rep F g H (.dk ls ys) v') (ea : v = .ref a) (eb : v' = .ref b) :
    ∃ va vb : List (Key × Value), (a == sysModules) = false ∧ (b == sysModules) = false ∧ va.length = vb.length ∧ (∀ (prog : Program) (w : World), s.heap.DictOf (mixKind prog w) a va ∧ s.heap.DictOf (mixKind prog w) b vb) ∧ ∀ A : Around, PySem.W.KeqHits A s vb va true := by
  simp only [D.sm, Bool.and_eq_true, decide_eq_true_eq, beq_iff_eq] at h
  obtain ⟨⟨⟨hk, hi⟩, hs⟩, hl, hh⟩ := h
  subst hk
  obtain ⟨a', kvs, e1, fa, ha, k1, r1⟩ := r
  obtain ⟨b', kws, e2, fb, hb, k2, r2⟩ := q
  subst ea eb
  cases e1
  cases e2
  obtain ⟨z1, z2⟩ := sm_svs hl hh hs r1 r2
  have ek : kvs = kws := by
    have l1 : kvs.length = kws.length := by
      have := congrArg List.length (k1.trans k2.symm)
      simpa using this
    apply List.ext_getElem l1
    intro i h1 h2
    have q1 : (kvs.map (·.1))[i]? = (kws.map (·.1))[i]? := by rw [k1, k2]
    have q2 : (kvs.map (·.2))[i]? = (kws.map (·.2))[i]? := by rw [z1]
    simp only [List.getElem?_map, List.getElem?_eq_getElem h1, List.getElem?_eq_getElem h2, Option.map_some, Option.some.injEq] at q1 q2
    exact Prod.ext q1 q2
  subst ek
  obtain ⟨_, ya, va, ra, da⟩ := (show ObjOk X.prog X.w H s.heap a (.dK kvs) from I.hok a _ ha)
  obtain ⟨_, yb, vb, rb, db⟩ := (show ObjOk X.prog X.w H s.heap b (.dK kvs) from I.hok b _ hb)
  have inl : ∀ {vv : List (Key × Value)}, KV kvs vv → ∀ p ∈ vv, isInl p.1 = true := fun {vv} rv p hp => by
    have m : p.1 ∈ ks := by rw [← k1, ← kv_keys rv]; exact List.mem_map_of_mem hp
    exact List.all_eq_true.mp hi _ m
  have nd : (kvs.map (·.1)).Nodup := by
    obtain ⟨o, es, ep, _, _, _, _, _, nd⟩ := id da
    rw [← kv_keys ra]
    exact nd
  refine ⟨va, vb, ya, yb, by rw [← ra.length, ← rb.length], fun prog w => ⟨dictInl (inl ra) da, dictInl (inl rb) db⟩, fun A => hits_all rb ra fun p hp => ⟨val_nodup nd p hp, z2 _ (List.mem_map_of_mem hp)⟩⟩
theorem eqAt_sm (hK : g.K = X.K) (I : Inv X pins σ H s) : ∀ (n : Nat) (A : Around) (d e : D) (v v' : V) (u u' : Value), D.sm n d e = true → Rep F g H d v → Rep F g H e v' → RelV v u → RelV v' u' → A.units + n < cLine → SeqAt.EqAt A s u u' true := by
  intro n
  induction n with
  | zero =>
    intro A d e v v' u u' h r q ru qu hu
    have hs : d.sv.isSome = true := by cases d <;> first | rfl | (cases e <;> simp [D.sm] at h)
    obtain ⟨rfl, fl⟩ := sm_sv h hs r q
    exact eqAt_same ru qu fl
  | succ n ih =>
    intro A d e v v' u u' h r q ru qu hu
    by_cases hs : d.sv.isSome = true
    · obtain ⟨rfl, fl⟩ := sm_sv h hs r q
      exact eqAt_same ru qu fl
    have ihA : ∀ d e v v' u u', D.sm n d e = true → Rep F g H d v → Rep F g H e v' → RelV v u → RelV v' u' → SeqAt.EqAt A.in1 s u u' true := fun d e v v' u u' h1 h2 h3 h4 h5 => ih A.in1 d e v v' u u' h1 h2 h3 h4 h5 (by show A.units + 1 + n < cLine; omega)
    cases d with
    | tup xs =>
      cases e with
      | tup ys =>
        obtain ⟨a, vs, rfl, fa, ha, r1⟩ := r
        obtain ⟨b, ws, rfl, fb, hb, q1⟩ := q
        obtain rfl : u = Value.ref a := ru
        obtain rfl : u' = Value.ref b := qu
        by_cases hab : a = b
        · subst hab; exact SeqAt.EqAt.same _
        simp only [D.sm, Bool.and_eq_true, beq_iff_eq] at h
        obtain ⟨its, rv, hl1, _⟩ := I.tuple (show SqT X.K H a vs from .inl (.inl ha))
        obtain ⟨jts, qv, hl2, _⟩ := I.tuple (show SqT X.K H b ws from .inl (.inl hb))
        obtain ⟨z1, z2⟩ := eqs_of ihA h.1 h.2 r1 q1 rv qv
        have k := SeqAt.RcAt.tuples (A := A) (e := fun _ => true) hl1 hl2 (by omega) (fun j h1 h2 => by simpa using z2 j (by simpa using h1) (by simpa using h2))
        have et : (((List.range (min its.toArray.size jts.toArray.size)).all fun _ => true) && its.toArray.size == jts.toArray.size) = true := by simp [z1]
        rw [et] at k
        exact SeqAt.EqAt.of_refs hab k
      | _ => simp [D.sm] at h
    | lst xs =>
      cases e with
      | lst ys =>
        obtain ⟨a, vs, rfl, fa, ha, r1⟩ := r
        obtain ⟨b, ws, rfl, fb, hb, q1⟩ := q
        obtain rfl : u = Value.ref a := ru
        obtain rfl : u' = Value.ref b := qu
        by_cases hab : a = b
        · subst hab; exact SeqAt.EqAt.same _
        simp only [D.sm, Bool.and_eq_true, beq_iff_eq] at h
        obtain ⟨its, rv, hl1, _⟩ := I.list (show SqL X.K H a vs from .inl (.inl ha))
        obtain ⟨jts, qv, hl2, _⟩ := I.list (show SqL X.K H b ws from .inl (.inl hb))
        obtain ⟨z1, z2⟩ := eqs_of ihA h.1 h.2 r1 q1 rv qv
        obtain ⟨o1, n1, t1, t2, t3, t4⟩ := hl1
        obtain ⟨o2, n2, t5, t6, t7, t8⟩ := hl2
        have k := SeqAt.RcAt.lists (A := A) (e := fun _ => true) ⟨o1, t1, t2, n1, t4⟩ ⟨o2, t5, t6, n2, t8⟩ (by simp [z1]) (by omega) (fun j h1 h2 => by simpa using z2 j (by simpa using h1) (by simpa using h2))
        have et : ((List.range its.toArray.size).all fun _ => true) = true := by simp
        rw [et] at k
        exact SeqAt.EqAt.of_refs hab k
      | _ => simp [D.sm] at h
    | dk ks xs =>
      cases e with
      | dk ls ys =>
        obtain ⟨a, kvs, rfl, r1⟩ := id r
        obtain ⟨b, kws, rfl, q1⟩ := id q
        obtain rfl : u = Value.ref a := ru
        obtain rfl : u' = Value.ref b := qu
        by_cases hab : a = b
        · subst hab; exact SeqAt.EqAt.same _
        obtain ⟨va, vb, ya, yb, hl, hd, hh⟩ := dk_hits I h r q rfl rfl
        exact SeqAt.EqAt.of_refs hab fun prog w E Q hQ => PySem.W.keq_eq (knd := mixKind prog w) (r := true) ya yb (hd prog w).1 (hd prog w).2 (by omega) (fun _ => hh _) (by simpa [hl] using hQ)
      | _ => simp [D.sm] at h
    | non => exact absurd rfl hs
    | bl _ => exact absurd rfl hs
    | int _ => exact absurd rfl hs
    | str _ => exact absurd rfl hs
    | _ => cases e <;> simp [D.sm] at h
end
end SV
end
section
set_option Elab.async false
set_option linter.all false
set_option autoImplicit false
set_option maxRecDepth 100000
set_option maxHeartbeats 4000000
namespace SV
open PySem PySem.Spec PyProof.Rows L2
def D.big : D → Bool
  | .tup _ => true | .lst _ => true | .dk _ _ => true | _ => false
def rSm (g : Cn) (b : Bool) : R2 := fun x y H Q => ∃ (F : Addr → Prop) (d e : D), d.big = true ∧ D.sm 64 d e = true ∧ Rep F g H d x ∧ Rep F g H e y ∧ Q (.bl b) H
section
variable {F B : Addr → Prop} {g : Cn} {W : WX} {H : Hp} {X : Cx} {ρ : Env} {K : PySem.W.Frag}
theorem op_smEq (hK : g.K = X.K) (hu : X.A.units + 64 < cLine) : OpR X (compareOp .Eq) (rSm g true) := by
  intro pins s σ H x y v u Q I rx ry h
  obtain ⟨F, d, e, hb, h, r, q, hQ⟩ := h
  have ihA : ∀ d e v v' u u', D.sm 63 d e = true → Rep F g H d v → Rep F g H e v' → RelV v u → RelV v' u' → SeqAt.EqAt X.A.in1 s u u' true := fun d e v v' u u' h1 h2 h3 h4 h5 => eqAt_sm hK I 63 X.A.in1 d e v v' u u' h1 h2 h3 h4 h5 (by show X.A.units + 1 + 63 < cLine; omega)
  cases d with
  | tup xs =>
    cases e with
    | tup ys =>
      obtain ⟨a, vs, rfl, fa, ha, r1⟩ := r
      obtain ⟨b, ws, rfl, fb, hb, q1⟩ := q
      obtain rfl : v = Value.ref a := rx
      obtain rfl : u = Value.ref b := ry
      simp only [D.sm, Bool.and_eq_true, beq_iff_eq] at h
      obtain ⟨its, rv, hl1, _⟩ := I.tuple (show SqT X.K H a vs from .inl (.inl ha))
      obtain ⟨jts, qv, hl2, _⟩ := I.tuple (show SqT X.K H b ws from .inl (.inl hb))
      obtain ⟨z1, z2⟩ := eqs_of ihA h.1 h.2 r1 q1 rv qv
      have k := SeqAt.RcAt.tuples (A := X.A) (e := fun _ => true) hl1 hl2 (by omega) (fun j h1 h2 => by simpa using z2 j (by simpa using h1) (by simpa using h2))
      have et : (((List.range (min its.toArray.size jts.toArray.size)).all fun _ => true) && its.toArray.size == jts.toArray.size) = true := by simp [z1]
      rw [et] at k
      exact k X.prog X.w _ _ ⟨.bl _, H, I, rfl, hQ⟩
    | _ => simp [D.sm] at h
  | lst xs =>
    cases e with
    | lst ys =>
      obtain ⟨a, vs, rfl, fa, ha, r1⟩ := r
      obtain ⟨b, ws, rfl, fb, hb, q1⟩ := q
      obtain rfl : v = Value.ref a := rx
      obtain rfl : u = Value.ref b := ry
      simp only [D.sm, Bool.and_eq_true, beq_iff_eq] at h
      obtain ⟨its, rv, hl1, _⟩ := I.list (show SqL X.K H a vs from .inl (.inl ha))
      obtain ⟨jts, qv, hl2, _⟩ := I.list (show SqL X.K H b ws from .inl (.inl hb))
      obtain ⟨z1, z2⟩ := eqs_of ihA h.1 h.2 r1 q1 rv qv
      obtain ⟨o1, n1, t1, t2, t3, t4⟩ := hl1
      obtain ⟨o2, n2, t5, t6, t7, t8⟩ := hl2
      have k := SeqAt.RcAt.lists (A := X.A) (e := fun _ => true) ⟨o1, t1, t2, n1, t4⟩ ⟨o2, t5, t6, n2, t8⟩ (by simp [z1]) (by omega) (fun j h1 h2 => by simpa using z2 j (by simpa using h1) (by simpa using h2))
      have et : ((List.range its.toArray.size).all fun _ => true) = true := by simp
      rw [et] at k
      exact k X.prog X.w _ _ ⟨.bl _, H, I, rfl, hQ⟩
    | _ => simp [D.sm] at h
  | dk ks xs =>
    cases e with
    | dk ls ys =>
      obtain ⟨a, kvs, rfl, r1⟩ := id r
      obtain ⟨b, kws, rfl, q1⟩ := id q
      obtain rfl : v = Value.ref a := rx
      obtain rfl : u = Value.ref b := ry
      obtain ⟨va, vb, ya, yb, hl, hd, hh⟩ := dk_hits I h r q rfl rfl
      exact PySem.W.keq_eq (knd := mixKind X.prog X.w) (r := true) ya yb (hd X.prog X.w).1 (hd X.prog X.w).2 (by omega) (fun _ => hh _) (fin_bl I hQ (by simp [hl]))
    | _ => simp [D.sm] at h
  | _ => cases hb
theorem op_smNe (hK : g.K = X.K) (hu : X.A.units + 64 < cLine) : OpR X (compareOp .NotEq) (rSm g false) := by
  intro pins s σ H x y v u Q I rx ry h
  obtain ⟨F, d, e, hb, h, r, q, hQ⟩ := h
  have ihA : ∀ d e v v' u u', D.sm 63 d e = true → Rep F g H d v → Rep F g H e v' → RelV v u → RelV v' u' → SeqAt.EqAt X.A.in1 s u u' true := fun d e v v' u u' h1 h2 h3 h4 h5 => eqAt_sm hK I 63 X.A.in1 d e v v' u u' h1 h2 h3 h4 h5 (by show X.A.units + 1 + 63 < cLine; omega)
  cases d with
  | tup xs =>
    cases e with
    | tup ys =>
      obtain ⟨a, vs, rfl, fa, ha, r1⟩ := r
      obtain ⟨b, ws, rfl, fb, hb, q1⟩ := q
      obtain rfl : v = Value.ref a := rx
      obtain rfl : u = Value.ref b := ry
      simp only [D.sm, Bool.and_eq_true, beq_iff_eq] at h
      obtain ⟨its, rv, hl1, _⟩ := I.tuple (show SqT X.K H a vs from .inl (.inl ha))
      obtain ⟨jts, qv, hl2, _⟩ := I.tuple (show SqT X.K H b ws from .inl (.inl hb))
      obtain ⟨z1, z2⟩ := eqs_of ihA h.1 h.2 r1 q1 rv qv
      have k := SeqAt.RcNeAt.tuples (A := X.A) (e := fun _ => true) hl1 hl2 (by omega) (fun j h1 h2 => by simpa using z2 j (by simpa using h1) (by simpa using h2))
      have et : (!(((List.range (min its.toArray.size jts.toArray.size)).all fun _ => true) && its.toArray.size == jts.toArray.size)) = false := by simp [z1]
      rw [et] at k
      exact k X.prog X.w _ _ ⟨.bl _, H, I, rfl, hQ⟩
    | _ => simp [D.sm] at h
  | lst xs =>
    cases e with
    | lst ys =>
      obtain ⟨a, vs, rfl, fa, ha, r1⟩ := r
      obtain ⟨b, ws, rfl, fb, hb, q1⟩ := q
      obtain rfl : v = Value.ref a := rx
      obtain rfl : u = Value.ref b := ry
      simp only [D.sm, Bool.and_eq_true, beq_iff_eq] at h
      obtain ⟨its, rv, hl1, _⟩ := I.list (show SqL X.K H a vs from .inl (.inl ha))
      obtain ⟨jts, qv, hl2, _⟩ := I.list (show SqL X.K H b ws from .inl (.inl hb))
      obtain ⟨z1, z2⟩ := eqs_of ihA h.1 h.2 r1 q1 rv qv
      obtain ⟨o1, n1, t1, t2, t3, t4⟩ := hl1
      obtain ⟨o2, n2, t5, t6, t7, t8⟩ := hl2
      have k := SeqAt.RcNeAt.lists (A := X.A) (e := fun _ => true) ⟨o1, t1, t2, n1, t4⟩ ⟨o2, t5, t6, n2, t8⟩ (by simp [z1]) (by omega) (fun j h1 h2 => by simpa using z2 j (by simpa using h1) (by simpa using h2))
      have et : (!((List.range its.toArray.size).all fun _ => true)) = false := by simp
      rw [et] at k
      exact k X.prog X.w _ _ ⟨.bl _, H, I, rfl, hQ⟩
    | _ => simp [D.sm] at h
  | dk ks xs =>
    cases e with
    | dk ls ys =>
      obtain ⟨a, kvs, rfl, r1⟩ := id r
      obtain ⟨b, kws, rfl, q1⟩ := id q
      obtain rfl : v = Value.ref a := rx
      obtain rfl : u = Value.ref b := ry
      obtain ⟨va, vb, ya, yb, hl, hd, hh⟩ := dk_hits I h r q rfl rfl
      exact PySem.W.keq_ne (knd := mixKind X.prog X.w) (r := true) ya yb (hd X.prog X.w).1 (hd X.prog X.w).2 (by omega) (fun _ => hh _) (fin_bl I hQ (by simp [hl]))
    | _ => simp [D.sm] at h
  | _ => cases hb
def gEqX (neg : Bool) : D → D → Option D := fun x y => if (x.big && D.sm 64 x y) = true then some (.bl (!neg)) else gEq neg x y
theorem big_rep {d : D} {v : V} {f : List Addr} (h : RepO F g H d v f) (b : d.big = true) : Rep F g H d v := by cases d <;> first | exact h.1 | cases b
theorem sm_rep {d e : D} {v : V} {f : List Addr} (h : D.sm 64 d e = true) (b : d.big = true) (r : RepO F g H e v f) : Rep F g H e v := by
  cases d <;> first | (cases e <;> first | exact r.1 | (simp [D.sm] at h; done)) | cases b
theorem r_eqX : SimR g W (fun x y H Q => rEqD K x y H Q ∨ rSm g true x y H Q) (fLook2 (gEqX false)) := simR_look fun F B H x y dx dy d f f' Q rx ry e q => by
  unfold gEqX at e
  split at e
  · rename_i h
    obtain ⟨h1, h2⟩ := Bool.and_eq_true_iff.mp h
    cases e
    exact .inr ⟨F, dx, dy, h1, h2, big_rep rx h1, sm_rep h2 h1 ry, q _ (by rfl)⟩
  · exact .inl (gEq_ok rx ry e q)
theorem r_neX : SimR g W (fun x y H Q => rNeD K x y H Q ∨ rSm g false x y H Q) (fLook2 (gEqX true)) := simR_look fun F B H x y dx dy d f f' Q rx ry e q => by
  unfold gEqX at e
  split at e
  · rename_i h
    obtain ⟨h1, h2⟩ := Bool.and_eq_true_iff.mp h
    cases e
    exact .inr ⟨F, dx, dy, h1, h2, big_rep rx h1, sm_rep h2 h1 ry, q _ (by rfl)⟩
  · exact .inl (gEq_ok rx ry e q)
variable {a b : Expr} {pos : Pos} {ma mb : M D}
theorem w_eqX {k : Nat} (hr : Room k X.A) (hK : g.K = X.K) (ha : VE X g W a ma) (hb : VE X g W b mb) : VE X g W (.Compare a [.Eq] [b] pos) (mOp (fLook2 (gEqX false)) ma mb) := v_cmp ((op_eqD hr.units).or (op_smEq hK hr.units)) r_eqX ha hb (nomark _)
theorem w_neX {k : Nat} (hr : Room k X.A) (hK : g.K = X.K) (ha : VE X g W a ma) (hb : VE X g W b mb) : VE X g W (.Compare a [.NotEq] [b] pos) (mOp (fLook2 (gEqX true)) ma mb) := v_cmp ((op_neD hr.units).or (op_smNe hK hr.units)) r_neX ha hb (nomark _)
theorem t_eqX {k : Nat} (hr : Room k X.A) (hK : g.K = X.K) (ha : VE X g W a ma) (hb : VE X g W b mb) : VT X g W (.Compare a [.Eq] [b] pos) (mTb (mOp (fLook2 (gEqX false)) ma mb)) := vt_cmp ((op_eqD hr.units).or (op_smEq hK hr.units)) r_eqX ha hb (nomark _)
theorem t_neX {k : Nat} (hr : Room k X.A) (hK : g.K = X.K) (ha : VE X g W a ma) (hb : VE X g W b mb) : VT X g W (.Compare a [.NotEq] [b] pos) (mTb (mOp (fLook2 (gEqX true)) ma mb)) := vt_cmp ((op_neD hr.units).or (op_smNe hK hr.units)) r_neX ha hb (nomark _)
end
end SV
end
section
set_option Elab.async false
set_option linter.all false
set_option autoImplicit false
set_option maxRecDepth 100000
set_option maxHeartbeats 4000000
namespace SV
open PySem PySem.Spec L2
section
variable {ρ ρ1 : Env} {QS : Fl → Env → Prop} {QD : Res D → Env → Prop}
/-! ### the new pieces, reckoned -/
def onLcX (Q : Res D → Env → Prop) (vs : List Nat) (k : D → Env → Prop) : Res D → Env → Prop := fun r ρ => match r with
  | .ok a => k a ρ
  | .exc c fs => Q (.exc c fs) (wipeE ρ vs)
theorem b_lxok {vs : List Nat} {k : D → Env → Prop} {a : D} (h : k a ρ) : onLcX QD vs k (.ok a) ρ := h
theorem b_lxexc {vs : List Nat} {k : D → Env → Prop} {c : Str} {fs : List (Str × D)} (h : QD (.exc c fs) (wipeE ρ vs)) : onLcX QD vs k (.exc c fs) ρ := h
theorem ev_lcX {m : M (List D)} {f : D → Env → Option Env} {tt : M Bool} {el : M D} {vs : List Nat} (I : List D → List D → Env → Prop) (h : Ev m ρ (onOk QD fun ds ρ1 => I ds [] (wipeE ρ1 vs) ∧ ds.length ≤ lim)) (he : ∀ acc ρ, I [] acc ρ → QD (.ok (.ol acc)) ρ)
    (hs : ∀ d ds acc ρ, I (d :: ds) acc ρ → ∃ ρ1, f d ρ = some ρ1 ∧ Ev tt ρ1 (fun r ρ2 => ∃ b, r = .ok b ∧ if b = true then Ev el ρ2 (onLcX QD vs fun y ρ3 => Ev (fOwn y) ρ3 fun r ρ4 => ∃ z, r = .ok z ∧ I ds (acc ++ [z]) (wipeE ρ4 vs)) else I ds acc (wipeE ρ2 vs))) :
    Ev (mLcX m f tt el vs) ρ QD := by
  unfold mLcX
  rw [ev_bnd]
  refine h.imp fun r ρ1 q => ?_
  cases r with
  | exc c fs => exact q
  | ok ds =>
    have key : ∀ (ds acc : List D) (ρ : Env), acc.length + ds.length ≤ lim → I ds acc ρ → ∃ r ρ2, lcLX f tt el vs ds acc ρ = some (r, ρ2) ∧ QD (rLX r) ρ2 := by
      intro ds
      induction ds with
      | nil => exact fun acc ρ _ i => ⟨.ok acc, ρ, rfl, he _ _ i⟩
      | cons d ds ih =>
        intro acc ρ hl i
        obtain ⟨ρ1, e1, r, ρ2, e2, b, rfl, q⟩ := hs d ds acc ρ i
        cases b with
        | false =>
          obtain ⟨a2, ρ3, e3, q3⟩ := ih acc _ (by simp at hl; omega) q
          exact ⟨a2, ρ3, by unfold lcLX; simp only [e1, e2]; exact e3, q3⟩
        | true =>
          rw [if_pos rfl] at q
          obtain ⟨ry, ρ3, e3, q⟩ := q
          cases ry with
          | ok y =>
            obtain ⟨_, ρ4, e4, z, rfl, q⟩ := (show Ev (fOwn y) ρ3 _ from q)
            obtain ⟨a2, ρ5, e5, q5⟩ := ih (acc ++ [z]) _ (by simp at hl ⊢; omega) q
            refine ⟨a2, ρ5, ?_, q5⟩
            have eb : bnd el fOwn ρ2 = some (.ok z, ρ4) := by rw [bnd_ok e3]; exact e4
            unfold lcLX
            simp only [e1, e2, eb]
            rw [if_pos True.intro, if_pos (by simp at hl; omega)]
            exact e5
          | exc c fs =>
            refine ⟨.exc c fs, wipeE ρ3 vs, ?_, q⟩
            have eb : bnd el fOwn ρ2 = some (.exc c fs, ρ3) := by unfold bnd; rw [e3]
            unfold lcLX
            simp only [e1, e2, eb]
            rw [if_pos True.intro]
    obtain ⟨i, hl⟩ := q
    obtain ⟨r, ρ2, e2, q2⟩ := key ds [] _ (by simpa using hl) i
    cases r with
    | ok acc => exact ⟨_, _, by simp only [e2]; rfl, q2⟩
    | exc c fs => exact ⟨_, _, by simp only [e2]; rfl, q2⟩
theorem b_suiteR {ms : SM} (n : noX ρ = true) (h : Es ms ρ fun fl ρ1 => noX ρ1 = true ∧ QS fl ρ1) : Es (suiteR ms) ρ QS := by
  obtain ⟨fl, ρ1, e, n1, q⟩ := h
  exact ⟨fl, ρ1, by unfold suiteR; rw [if_pos n, e]; simp only; rw [if_pos n1], q⟩
def onTry (QS : Fl → Env → Prop) (sub : Str → Str → Option Bool) (x : Str) (ms : SM) : Fl → Env → Prop := fun fl ρ => match fl with
  | .exc c fs => ∃ b, sub c x = some b ∧ if b = true then Es (suiteR ms) ρ QS else QS (.exc c fs) ρ
  | z => QS z ρ
theorem b_tryX {sub : Str → Str → Option Bool} {body ms : SM} {x : Str} (h : Es body ρ (onTry QS sub x ms)) : Es (mTryX sub body x ms) ρ QS := by
  obtain ⟨fl, ρ1, e, q⟩ := h
  cases fl with
  | exc c fs =>
    obtain ⟨b, e1, q⟩ := (show ∃ b, sub c x = some b ∧ if b = true then Es (suiteR ms) ρ1 QS else QS (.exc c fs) ρ1 from q)
    cases b with
    | true =>
      obtain ⟨fl2, ρ2, e2, q2⟩ := (show Es (suiteR ms) ρ1 QS by simpa using q)
      exact ⟨fl2, ρ2, by unfold mTryX; simp only [e, e1, if_true]; exact e2, q2⟩
    | false => exact ⟨_, ρ1, by unfold mTryX; simp only [e, e1]; rfl, by simpa using q⟩
  | _ => exact ⟨_, _, by unfold mTryX; simp only [e], q⟩
theorem b_tynx {sub : Str → Str → Option Bool} {ms : SM} {x : Str} (h : QS .nx ρ) : onTry QS sub x ms .nx ρ := h
theorem b_varZ {i : Nat} {xs : List D} (h : ρ[i]? = some (some (.ol xs))) (q : QD (.ok (.sl i)) (ρ.set i (some (.ol (D.frzs xs))))) : Ev (mVarZ i) ρ QD := ⟨_, _, by unfold mVarZ; rw [h], q⟩
theorem b_fzz {m : M D} (h : Ev m ρ (onOk QD fun x ρ1 => Ev (fFrz x) ρ1 QD)) : Ev (mFz m) ρ QD := b_fz h
theorem b_setII {i : Nat} {m1 m2 me : M D} (h : Ev me ρ (onOkS QS fun d0 ρ1 => Ev (fOwn d0) ρ1 (onOkS QS fun d ρ2 => (∃ xs, ρ2[i]? = some (some (.ol xs))) ∧ Ev m1 ρ2 (onOkS QS fun z1 ρ3 => ∃ (k1 : Int) (xs : List D) (j : Nat) (ys : List D), z1 = .int k1 ∧ ρ3[i]? = some (some (.ol xs)) ∧ ixN xs.length k1 = some j ∧ xs[j]? = some (.ol ys) ∧
    Ev m2 ρ3 (onOkS QS fun z2 ρ4 => ∃ (k2 : Int) (m : Nat), z2 = .int k2 ∧ ixN ys.length k2 = some m ∧ QS .nx (ρ4.set i (some (.ol (xs.set j (.ol (ys.set m d)))))))))) ) : Es (mSetII i m1 m2 me) ρ QS := by
  unfold mSetII
  rw [es_bndS]
  refine h.imp fun r ρ1 q => ?_
  cases r with
  | exc c fs => exact q
  | ok d0 =>
    rw [onOkS_ok] at *
    rw [es_bndS]
    refine q.imp fun r ρ2 q => ?_
    cases r with
    | exc c fs => exact q
    | ok d =>
      rw [onOkS_ok] at *
      obtain ⟨⟨xs0, e0⟩, r1, ρ3, e1, q1⟩ := q
      cases r1 with
      | exc c fs => exact ⟨_, ρ3, by simp only [e0, bndS, e1], q1⟩
      | ok z1 =>
        obtain ⟨k1, xs, j, ys, rfl, e2, e3, e4, r2, ρ4, e5, q2⟩ := q1
        cases r2 with
        | exc c fs => exact ⟨_, ρ4, by simp only [e0, bndS, e1, fSt2, e2, e3, e4, e5], q2⟩
        | ok z2 =>
          obtain ⟨k2, m, rfl, e6, q3⟩ := q2
          exact ⟨_, _, by simp only [e0, bndS, e1, fSt2, e2, e3, e4, e5, e6], q3⟩
theorem b_callB {i : Nat} {io : List Bool} {f : FM} {dd : List D} {a : M (List D)} (h : Ev a ρ (onOk QD fun ds ρ1 => ∃ xs, ρ1[i]? = some (some (.ol xs)) ∧ Ev (fPreps io ds) (ρ1.set i none) (onOk (fun (_ : Res D) _ => False) fun ys ρ2 => ioOk io ds.length dd.length = true ∧ Ef f (ys ++ dd) fun r cs => ∃ ρ3, callBack io ds cs ρ2 = some ρ3 ∧ QD r (ρ3.set i (some (.ol xs)))))) : Ev (mCallB i io f dd a) ρ QD := by
  unfold mCallB
  rw [ev_bnd]
  refine h.imp fun r ρ1 q => ?_
  cases r with
  | exc c fs => exact q
  | ok ds =>
    obtain ⟨xs, e, r, ρ2, e1, q⟩ := q
    cases r with
    | exc c fs => exact q.elim
    | ok ys =>
      obtain ⟨c, r, cs, e2, ρ3, e3, q⟩ := q
      rw [onOk_ok]
      refine ⟨r, _, ?_, q⟩
      have e4 : fCall io f dd ds (ρ1.set i none) = some (r, ρ3) := by
        unfold fCall
        rw [bnd_ok e1]
        simp only [c, e2, e3, if_true]
      simp only [e, e4]
end
end SV
end
section
set_option Elab.async false
set_option linter.all false
set_option autoImplicit false
set_option maxRecDepth 100000
set_option maxHeartbeats 4000000
namespace SV
open PySem PySem.Spec PyProof.Rows L2
/-! ### a list times an int -/
def fRep : D → D → M D := fun x y => match y with
  | .int k => bnd (fLs x) fun xs => if (0 ≤ k ∧ k ≤ 1000000) ∧ xs.length * k.toNat ≤ lim then ret (.ol (List.replicate k.toNat xs).flatten) else stuck
  | _ => stuck
section
variable {g : Cn} {W : WX} {X : Cx} {ρ : Env} {QD : Res D → Env → Prop}
theorem Reps.rep {F : Addr → Prop} {H : Hp} {ds : List D} {vs : List V} (r : Reps F g H ds vs) : ∀ n : Nat, Reps F g H (List.replicate n ds).flatten (List.replicate n vs).flatten
  | 0 => rfl
  | n + 1 => by
    rw [List.replicate_succ, List.replicate_succ, List.flatten_cons, List.flatten_cons]
    exact r.append (Reps.rep r n)
theorem r_rep : SimR g W rRep fRep := fun F B H σ ρ T x y dx dy Q res ρ' S e px h => by
  unfold fRep at e
  split at e
  · rename_i k
    obtain ⟨_, ry⟩ := S.top
    cases rt_int ry
    rcases bnd_some e with ⟨xs, ρ1, e1, e2⟩ | ⟨c, fs, e1, e2⟩
    · obtain ⟨xs', ez, F1, B1, x1, S1, a, vs, rfl, r1, ha⟩ := S.pop.lsAt e1
      cases ez
      split at e2
      · rename_i hl
        cases e2
        refine ⟨a, k, vs, rfl, rfl, ha, by omega, by omega, by rw [← r1.length, lim_eq]; exact hl.2, fun p hp => ?_⟩
        obtain ⟨F3, B3, x3, S3⟩ := S1.newLF (Reps.rep r1 k.toNat) hp
        exact h _ rfl F3 B3 _ _ (x1.trans x3) S3
      · cases e2
    · obtain ⟨xs', ez, _⟩ := S.pop.lsAt e1
      cases ez
  · cases e
theorem w_rep {a b : Expr} {pos : Pos} {ma mb : M D} (ha : VE X g W a ma) (hb : VE X g W b mb) : VE X g W (.BinOp a .Mult b pos) (mOp fRep ma mb) := v_op op_rep r_rep ha hb
theorem b_rep {xs : List D} {x : D} {k : Int} (h : Ev (fLs x) ρ (onOk QD fun xs ρ1 => ((0 ≤ k ∧ k ≤ 1000000) ∧ xs.length * k.toNat ≤ lim) ∧ QD (.ok (.ol (List.replicate k.toNat xs).flatten)) ρ1)) : Ev (fRep x (.int k)) ρ QD := by
  unfold fRep
  simp only [ev_bnd]
  refine h.imp fun r ρ1 q => ?_
  cases r with
  | exc c fs => exact q
  | ok xs =>
    rw [onOk_ok] at *
    rw [if_pos q.1, ev_ret]
    exact q.2
end
end SV
end
section
set_option Elab.async false
set_option linter.all false
set_option autoImplicit false
set_option maxRecDepth 100000
set_option maxHeartbeats 0
namespace LAWM
open PySem PySem.Spec L2 SV
def TAB : List ((Str × Str) × Bool) := [(("BadMarks", "BadScript"), false), (("BadMarks", "BadFirsts"), false), (("BadMarks", "BadSight"), false), (("BadMarks", "HueError"), true), (("BadFirsts", "BadScript"), false), (("BadFirsts", "BadFirsts"), true), (("BadFirsts", "BadSight"), false), (("BadFirsts", "HueError"), true), (("BadScript", "BadScript"), true), (("BadScript", "BadFirsts"), false), (("BadScript", "BadSight"), false), (("BadScript", "HueError"), true), (("BadSight", "BadScript"), false), (("BadSight", "BadFirsts"), false), (("BadSight", "BadSight"), true), (("BadSight", "HueError"), true)]
def subT : Str → Str → Option Bool := fun c c2 => TAB.lookup (c, c2)
def m_is_whole : SM := (mSeq (mIf (mOr (mNot (mTru (mIsi [.int] (mVar 0)))) (mTru (mIsi [.bl] (mVar 0)))) (mRet (ret (.bl false))) (endS .nx))
  (mSeq (mIf (mAnd (mTb (mNotN (mVar 1))) (mTb (mOp fLt (mVar 0) (mVar 1)))) (mRet (ret (.bl false))) (endS .nx))
  (mRet (mOrV (mIsN (mVar 2)) (mOp fLe (mVar 0) (mVar 2))))))
def f_is_whole : FM := funM 3 [false, false, false] m_is_whole
def m_check_marks : SM := (mSeq (mIf (mNot (mTru (mCall [false, false, false] f_is_whole [] (mCons (mVar 0) (mCons (ret (.int 1)) (mCons (ret (.int 4)) mNil)))))) (mRaise "BadMarks" ["marks"] (mCons (mVar 0) mNil)) (endS .nx))
  (mRet (mVar 0)))
def f_check_marks : FM := funM 1 [false] m_check_marks
def m_check_firsts : SM := (mSeq (mIf (mTb (mNotN (mVar 0))) (mExpr (mCall [false] f_check_marks [] (mCons (mVar 0) mNil))) (endS .nx))
  (mSeq (mIf (mNot (mTru (mIsi [.lst, .tup] (mVar 1)))) (mRaise "BadFirsts" ["index"] (mCons (ret (.int 0)) mNil)) (endS .nx))
  (mSeq (mSet 2 (mIfE (mTb (mIsN (mVar 0))) (ret (.int 1)) (mVar 0)))
  (mSeq (mSet 3 (mIfE (mTb (mIsN (mVar 0))) (ret (.int 4)) (mVar 0)))
  (mSeq (mIf (mNot (mTb (mChain fLe fLe (mVar 2) (mCB fLen (mCons (mVar 1) mNil)) (mVar 3)))) (mRaise "BadFirsts" ["index"] (mCons (ret (.int 0)) mNil)) (endS .nx))
  (mSeq (mFor (bnd (mCons (mVar 1) mNil) fEnum) (tgT [(tgN 4), (tgN 5)]) (mIf (mNot (mTru (mCall [false, false, false] f_is_whole [] (mCons (mVar 5) (mCons (ret (.int 0)) (mCons (ret (.int 99)) mNil)))))) (mRaise "BadFirsts" ["index"] (mCons (mVar 4) mNil)) (endS .nx)))
  (mRet (mCB fTup (mCons (mVar 1) mNil)))))))))
def f_check_firsts : FM := funM 6 [false, false] m_check_firsts
def m_are_rows : SM := (mSeq (mIf (mOr (mNot (mTru (mIsi [.lst, .tup] (mVar 2)))) (mTb (mOp fNe (mCB fLen (mCons (mVar 2) mNil)) (mVar 1)))) (mRet (ret (.bl false))) (endS .nx))
  (mSeq (mFor (mIter (mVar 2)) (tgN 3) (mSeq (mIf (mOr (mNot (mTru (mIsi [.lst, .tup] (mVar 3)))) (mTb (mOp fNe (mCB fLen (mCons (mVar 3) mNil)) (mVar 0)))) (mRet (ret (.bl false))) (endS .nx))
  (mFor (mIter (mVar 3)) (tgN 4) (mIf (mNot (mTru (mCall [false, false, false] f_is_whole [] (mCons (mVar 4) (mCons (ret (.int 0)) (mCons (ret (.int 99)) mNil)))))) (mRet (ret (.bl false))) (endS .nx)))))
  (mRet (ret (.bl true)))))
def f_are_rows : FM := funM 5 [false, false, false] m_are_rows
def m_pour_fault : SM := (mSeq (mIf (mOr (mNot (mTru (mIsi [.lst, .tup] (mVar 1)))) (mTb (mOp fNe (mCB fLen (mCons (mVar 1) mNil)) (ret (.int 2))))) (mRet (ret (.str "pour"))) (endS .nx))
  (mSeq (mIf (mNot (mTru (mCall [false, false, false] f_is_whole [] (mCons (mOp fIx (mVar 1) (ret (.int 0))) (mCons (ret (.int 0)) (mCons (mOp fSub (mVar 0) (ret (.int 1))) mNil)))))) (mRet (ret (.str "mark"))) (endS .nx))
  (mSeq (mIf (mNot (mTru (mCall [false, false, false] f_is_whole [] (mCons (mOp fIx (mVar 1) (ret (.int 1))) (mCons (ret (.int 0)) (mCons (ret (.int 99)) mNil)))))) (mRet (ret (.str "colour"))) (endS .nx))
  (mRet (ret .non)))))
def f_pour_fault : FM := funM 2 [false, false] m_pour_fault
def m_check_script : SM := (mSeq (mExpr (mCall [false] f_check_marks [] (mCons (mVar 0) mNil)))
  (mSeq (mIf (mOr (mNot (mTru (mIsi [.lst, .tup] (mVar 1)))) (mTb (mOp fGt (mCB fLen (mCons (mVar 1) mNil)) (ret (.int 12))))) (mRaise "BadScript" ["index", "what"] (mCons (ret (.int 0)) (mCons (ret (.str "many")) mNil))) (endS .nx))
  (mSeq (mFor (bnd (mCons (mVar 1) mNil) fEnum) (tgT [(tgN 2), (tgN 3)]) (mSeq (mSet 4 (mCall [false, false] f_pour_fault [] (mCons (mVar 0) (mCons (mVar 3) mNil))))
  (mIf (mTb (mNotN (mVar 4))) (mRaise "BadScript" ["index", "what"] (mCons (mVar 2) (mCons (mVar 4) mNil))) (endS .nx))))
  (mRet (mCB fTup (mCons (mLc (mIter (mVar 1)) (tgN 3) (ret true) (mCB fTup (mCons (mVar 3) mNil)) [3]) mNil))))))
def f_check_script : FM := funM 5 [false, false] m_check_script
def m_check_one_sight : SM := (mSeq (mIf (mOr (mNot (mTru (mIsi [.lst, .tup] (mVar 2)))) (mTb (mOp fNe (mCB fLen (mCons (mVar 2) mNil)) (ret (.int 2))))) (mRaise "BadSight" ["index", "what"] (mCons (mVar 1) (mCons (ret (.str "sight")) mNil))) (endS .nx))
  (mSeq (mTryX subT (mSet 3 (mCall [false, false] f_check_script [] (mCons (mCB fLen (mCons (mVar 0) mNil)) (mCons (mOp fIx (mVar 2) (ret (.int 0))) mNil)))) "BadScript" (mRaise "BadSight" ["index", "what"] (mCons (mVar 1) (mCons (ret (.str "script")) mNil))))
  (mSeq (mIf (mNot (mTru (mCall [false, false, false] f_are_rows [] (mCons (mCB fLen (mCons (mVar 0) mNil)) (mCons (mOp fAddA (mCB fLen (mCons (mVar 3) mNil)) (ret (.int 1))) (mCons (mOp fIx (mVar 2) (ret (.int 1))) mNil)))))) (mRaise "BadSight" ["index", "what"] (mCons (mVar 1) (mCons (ret (.str "rows")) mNil))) (endS .nx))
  (mSeq (mSet 4 (mCB fTup (mCons (mLc (mIter (mOp fIx (mVar 2) (ret (.int 1)))) (tgN 5) (ret true) (mCB fTup (mCons (mVar 5) mNil)) [5]) mNil)))
  (mSeq (mIf (mTb (mOp fNe (mOp fIx (mVar 4) (ret (.int 0))) (mVar 0))) (mRaise "BadSight" ["index", "what"] (mCons (mVar 1) (mCons (ret (.str "firsts")) mNil))) (endS .nx))
  (mRet (mTup (mCons (mVar 3) (mCons (mVar 4) mNil)))))))))
def f_check_one_sight : FM := funM 6 [false, false, false] m_check_one_sight
def m_check_sights : SM := (mSeq (mSet 3 (mCall [false, false] f_check_firsts [] (mCons (ret .non) (mCons (mVar 0) mNil))))
  (mSeq (mIf (mOr (mNot (mTru (mIsi [.lst, .tup] (mVar 1)))) (mTb (mOp fGt (mCB fLen (mCons (mVar 1) mNil)) (mVar 2)))) (mRaise "BadSight" ["index", "what"] (mCons (ret (.int 0)) (mCons (ret (.str "many")) mNil))) (endS .nx))
  (mRet (mCB fTup (mCons (mLcX (bnd (mCons (mVar 1) mNil) fEnum) (tgT [(tgN 4), (tgN 5)]) (ret true) (mCall [false, false, false] f_check_one_sight [] (mCons (mVar 3) (mCons (mVar 4) (mCons (mVar 5) mNil)))) [4, 5]) mNil)))))
def f_check_sights : FM := funM 6 [false, false, false] m_check_sights
def m__law_asked : SM := (mSeq (mTry subT (mSet 3 (mIfE (mTb (mIsN (mVar 2))) (mCall [false, false, false] f_check_sights [(.int 3)] (mCons (mVar 0) (mCons (mVar 1) mNil))) (mIfE (mTb (mOp fGt (mVar 2) (ret (.int 1)))) (mCall [false, false, false] f_check_sights [] (mCons (mVar 0) (mCons (mVar 1) (mCons (mVar 2) mNil)))) (mCallK [false, false, false] f_check_sights [(.int 3)] [.a 0, .a 1, .k 0] 2 1 (mCons (mVar 0) (mCons (mVar 1) mNil)) (mCons (mVar 2) mNil))))) [("BadFirsts", some 4, (mRet (mLst (mCons (ret (.str "firsts")) (mCons (mXf ["BadFirsts"] 4 "index") mNil))))), ("BadSight", some 4, (mRet (mLst (mCons (ret (.str "sight")) (mCons (mXf ["BadSight"] 4 "index") (mCons (mXf ["BadSight"] 4 "what") mNil)))))), ("HueError", none, (mRet (mLst (mCons (ret (.str "other")) mNil))))])
  (mRet (mVar 3)))
def f__law_asked : FM := funM 5 [false, false, false] m__law_asked
def m__law_bare (f__law_bare : Nat → FM) (n : Nat) : SM := (mRet (mIfE (mTru (mIsi [.lst, .tup] (mVar 0))) (mCB fTup (mCons (mLc (mIter (mVar 0)) (tgN 1) (ret true) (mCall [false] (f__law_bare n) [] (mCons (mVar 1) mNil)) [1]) mNil)) (mVar 0)))
def f__law_bare : Nat → FM
  | 0 => funM 2 [false] stuckS
  | n + 1 => funM 2 [false] (m__law_bare (fun _ => f__law_bare n) n)
def m__law_mixed : SM := (mSeq (mSet 2 (mOp fMod (mCB fInt (mCons (mOp fAddA (mOp fAddA (mOp fMul (mVar 0) (ret (.int 69621))) (mOp fMul (mVar 1) (ret (.int 7907)))) (ret (.int 40503))) mNil)) (ret (.int 2147483647))))
  (mSeq (mSet 3 (mOp fMod (mCB fInt (mCons (mOp fAddA (mOp fAddA (mOp fMul (mVar 2) (mVar 2)) (mOp fMul (mVar 1) (ret (.int 104723)))) (mOp fDiv (mVar 2) (ret (.int 131)))) mNil)) (ret (.int 2147483629))))
  (mRet (mOp fDiv (mCB fInt (mCons (mOp fMod (mCB fInt (mCons (mOp fAddA (mOp fMul (mVar 3) (ret (.int 48271))) (mOp fDiv (mVar 2) (ret (.int 7)))) mNil)) (ret (.int 2147483579))) mNil)) (ret (.int 32))))))
def f__law_mixed : FM := funM 4 [false, false] m__law_mixed
def m__law_take : SM := (mSeq (mIf (mAnd (mTb (mOp fEq (mOp fIx (mVar 0) (ret (.int 2))) (ret (.int 0)))) (mTb (mOp fLt (mOp fIx (mVar 0) (ret (.int 1))) (mCB fLen (mCons (mOp fIx (mVar 0) (ret (.int 0))) mNil))))) (mSeq (mSet 2 (mOp fIx (mOp fIx (mVar 0) (ret (.int 0))) (mOp fIx (mVar 0) (ret (.int 1)))))
  (mSeq (mSetI 0 (ret (.int 1)) (mOp fAddA (mOp fIx (mVar 0) (ret (.int 1))) (ret (.int 1))))
  (mSeq (mIf (mTb (mOp fLt (mVar 2) (mOp fPow (ret (.int 10)) (ret (.int 18))))) (mRet (mOp fMod (mCB fInt (mCons (mCall [false, false] f__law_mixed [] (mCons (mOp fMod (mCB fInt (mCons (mVar 2) mNil)) (ret (.int 2147483647))) (mCons (mOp fIx (mVar 0) (ret (.int 1))) mNil))) mNil)) (mVar 1))) (endS .nx))
  (mSetI 0 (ret (.int 2)) (mVar 2))))) (endS .nx))
  (mSeq (mIf (mTb (mOp fGt (mOp fIx (mVar 0) (ret (.int 2))) (ret (.int 0)))) (mSeq (mSet 3 (mOp fIx (mVar 0) (ret (.int 2))))
  (mSeq (mSetI 0 (ret (.int 2)) (mOp fDiv (mCB fInt (mCons (mVar 3) mNil)) (mVar 1)))
  (mRet (mOp fMod (mCB fInt (mCons (mVar 3) mNil)) (mVar 1))))) (endS .nx))
  (mSeq (mSetI 0 (ret (.int 3)) (mOp fMod (mCB fInt (mCons (mOp fAddA (mOp fIx (mVar 0) (ret (.int 3))) (ret (.int 1))) mNil)) (ret (.int 2147483587))))
  (mRet (mOp fMod (mCB fInt (mCons (mCall [false, false] f__law_mixed [] (mCons (mOp fIx (mVar 0) (ret (.int 3))) (mCons (mOp fIx (mVar 0) (ret (.int 1))) mNil))) mNil)) (mVar 1))))))
def f__law_take : FM := funM 4 [true, false] m__law_take
def m__law_odd : SM := (mSeq (mSet 2 (mCall [true, false] f__law_take [] (mCons (mVar 0) (mCons (ret (.int 9)) mNil))))
  (mSeq (mIf (mTb (mOp fEq (mVar 2) (ret (.int 0)))) (mRet (mOp fAddA (mVar 1) (mCall [true, false] f__law_take [] (mCons (mVar 0) (mCons (mOp fPow (ret (.int 10)) (ret (.int 12))) mNil))))) (endS .nx))
  (mSeq (mIf (mTb (mOp fEq (mVar 2) (ret (.int 1)))) (mRet (mOp fSub (mUn fNeg (ret (.int 1))) (mCall [true, false] f__law_take [] (mCons (mVar 0) (mCons (mOp fPow (ret (.int 10)) (ret (.int 12))) mNil))))) (endS .nx))
  (mRet (mOp fIx (mLst (mCons (ret (.bl true)) (mCons (ret (.bl false)) (mCons (ret .non) (mCons (ret (.str "1")) (mCons (mTup (mCons (ret (.int 0)) mNil)) (mCons (ret (.str "00")) (mCons (mVar 1) (mCons (ret (.str "")) mNil))))))))) (mIfE (mTb (mOp fLt (mVar 2) (ret (.int 8)))) (mOp fSub (mVar 2) (ret (.int 1))) (ret (.int 6))))))))
def f__law_odd : FM := funM 3 [true, false] m__law_odd
def m__law_rid : SM := (mRet (mOp fIx (mLst (mCons (ret .non) (mCons (ret (.int 3)) (mCons (ret (.str "ab")) (mCons (ret (.bl true)) (mCons (ret (.dk [.inl 0] [.int 1])) (mCons (mUn fNeg (ret (.int 1))) mNil))))))) (mCall [true, false] f__law_take [] (mCons (mVar 0) (mCons (ret (.int 6)) mNil)))))
def f__law_rid : FM := funM 1 [true] m__law_rid
def m__law_begun : SM := (mSeq (mIf (mTru (mCall [true, false] f__law_take [] (mCons (mVar 0) (mCons (ret (.int 8)) mNil)))) (mRet (mVar 1)) (endS .nx))
  (mSeq (mSet 2 (mCall [true, false] f__law_take [] (mCons (mVar 0) (mCons (ret (.int 4)) mNil))))
  (mSeq (mIf (mTb (mOp fEq (mVar 2) (ret (.int 0)))) (mRet (mCall [true] f__law_rid [] (mCons (mVar 0) mNil))) (endS .nx))
  (mSeq (mIf (mTb (mOp fEq (mVar 2) (ret (.int 1)))) (mRet (mLst mNil)) (endS .nx))
  (mSeq (mIf (mTb (mOp fEq (mVar 2) (ret (.int 2)))) (mRet (mSl (mOp fRep (mVar 1) (ret (.int 5))) (ret none) (mPart (ret (.int 5))))) (endS .nx))
  (mSeq (mSet 3 (mCall [true, false] f__law_take [] (mCons (mVar 0) (mCons (mCB fLen (mCons (mVar 1) mNil)) mNil))))
  (mRet (mOp fAddA (mOp fAddA (mSl (mVar 1) (ret none) (mPart (mVar 3))) (mLst (mCons (mCall [true, false] f__law_odd [] (mCons (mVar 0) (mCons (ret (.int 100)) mNil))) mNil))) (mSl (mVar 1) (mPart (mOp fAddA (mVar 3) (ret (.int 1)))) (ret none))))))))))
def f__law_begun : FM := funM 4 [true, false] m__law_begun
def m__law_colour : SM := (mSeq (mSet 1 (mCall [true, false] f__law_take [] (mCons (mVar 0) (mCons (ret (.int 16)) mNil))))
  (mRet (mIfE (mTb (mOp fEq (mVar 1) (ret (.int 0)))) (mCall [true, false] f__law_take [] (mCons (mVar 0) (mCons (ret (.int 100)) mNil))) (mIfE (mTb (mOp fLt (mVar 1) (ret (.int 3)))) (mCall [true, false] f__law_take [] (mCons (mVar 0) (mCons (ret (.int 6)) mNil))) (mCall [true, false] f__law_take [] (mCons (mVar 0) (mCons (ret (.int 3)) mNil)))))))
def f__law_colour : FM := funM 2 [true] m__law_colour
def m__law_number : SM := (mRet (mAndV (mIsi [.int] (mVar 0)) (mAndV (mNotT (mIsi [.bl] (mVar 0))) (mChain fLe fLe (ret (.int 0)) (mVar 0) (mVar 1)))))
def f__law_number : FM := funM 2 [false, false] m__law_number
def m__law_hues : SM := (mSeq (mIf (mOr (mNot (mTru (mIsi [.lst, .tup] (mVar 0)))) (mTb (mOp fNe (mCB fLen (mCons (mVar 0) mNil)) (mVar 1)))) (mRet (ret (.bl false))) (endS .nx))
  (mRet (mNotT (mLc (mIter (mVar 0)) (tgN 2) (mNot (mTru (mCall [false, false] f__law_number [] (mCons (mVar 2) (mCons (ret (.int 99)) mNil))))) (ret (.int 1)) [2]))))
def f__law_hues : FM := funM 3 [false, false] m__law_hues
def m__law_pours : SM := (mSeq (mIf (mOr (mNot (mTru (mIsi [.lst, .tup] (mVar 0)))) (mTb (mOp fGt (mCB fLen (mCons (mVar 0) mNil)) (ret (.int 12))))) (mRet (ret (.bl false))) (endS .nx))
  (mSeq (mFor (mIter (mVar 0)) (tgN 2) (mSeq (mIf (mOr (mNot (mTru (mIsi [.lst, .tup] (mVar 2)))) (mTb (mOp fNe (mCB fLen (mCons (mVar 2) mNil)) (ret (.int 2))))) (mRet (ret (.bl false))) (endS .nx))
  (mIf (mOr (mNot (mTru (mCall [false, false] f__law_number [] (mCons (mOp fIx (mVar 2) (ret (.int 0))) (mCons (mOp fSub (mVar 1) (ret (.int 1))) mNil))))) (mNot (mTru (mCall [false, false] f__law_number [] (mCons (mOp fIx (mVar 2) (ret (.int 1))) (mCons (ret (.int 99)) mNil)))))) (mRet (ret (.bl false))) (endS .nx))))
  (mRet (ret (.bl true)))))
def f__law_pours : FM := funM 3 [false, false] m__law_pours
def m__law_due : SM := (mSeq (mIf (mOr (mNot (mTru (mIsi [.lst, .tup] (mVar 0)))) (mNot (mTb (mChain fLe fLe (ret (.int 1)) (mCB fLen (mCons (mVar 0) mNil)) (ret (.int 4)))))) (mRet (mLst (mCons (ret (.str "firsts")) (mCons (ret (.int 0)) mNil)))) (endS .nx))
  (mSeq (mFor (bnd (mCons (mCB fLen (mCons (mVar 0) mNil)) mNil) fRng1) (tgN 3) (mIf (mNot (mTru (mCall [false, false] f__law_number [] (mCons (mOp fIx (mVar 0) (mVar 3)) (mCons (ret (.int 99)) mNil))))) (mRet (mLst (mCons (ret (.str "firsts")) (mCons (mVar 3) mNil)))) (endS .nx)))
  (mSeq (mIf (mOr (mNot (mTru (mIsi [.lst, .tup] (mVar 1)))) (mTb (mOp fGt (mCB fLen (mCons (mVar 1) mNil)) (mVar 2)))) (mRet (mLst (mCons (ret (.str "sight")) (mCons (ret (.int 0)) (mCons (ret (.str "many")) mNil))))) (endS .nx))
  (mSeq (mFor (bnd (mCons (mCB fLen (mCons (mVar 1) mNil)) mNil) fRng1) (tgN 3) (mSeq (mSet 4 (mOp fIx (mVar 1) (mVar 3)))
  (mSeq (mIf (mOr (mNot (mTru (mIsi [.lst, .tup] (mVar 4)))) (mTb (mOp fNe (mCB fLen (mCons (mVar 4) mNil)) (ret (.int 2))))) (mRet (mLst (mCons (ret (.str "sight")) (mCons (mVar 3) (mCons (ret (.str "sight")) mNil))))) (endS .nx))
  (mSeq (mIf (mNot (mTru (mCall [false, false] f__law_pours [] (mCons (mOp fIx (mVar 4) (ret (.int 0))) (mCons (mCB fLen (mCons (mVar 0) mNil)) mNil))))) (mRet (mLst (mCons (ret (.str "sight")) (mCons (mVar 3) (mCons (ret (.str "script")) mNil))))) (endS .nx))
  (mSeq (mSet 5 (mOp fIx (mVar 4) (ret (.int 1))))
  (mSeq (mIf (mOr (mNot (mTru (mIsi [.lst, .tup] (mVar 5)))) (mTb (mOp fNe (mCB fLen (mCons (mVar 5) mNil)) (mOp fAddA (mCB fLen (mCons (mOp fIx (mVar 4) (ret (.int 0))) mNil)) (ret (.int 1)))))) (mRet (mLst (mCons (ret (.str "sight")) (mCons (mVar 3) (mCons (ret (.str "rows")) mNil))))) (endS .nx))
  (mSeq (mIf (mTru (mLc (mIter (mVar 5)) (tgN 6) (mNot (mTru (mCall [false, false] f__law_hues [] (mCons (mVar 6) (mCons (mCB fLen (mCons (mVar 0) mNil)) mNil))))) (ret (.int 1)) [6])) (mRet (mLst (mCons (ret (.str "sight")) (mCons (mVar 3) (mCons (ret (.str "rows")) mNil))))) (endS .nx))
  (mIf (mTb (mOp fNe (mCB fTup (mCons (mOp fIx (mVar 5) (ret (.int 0))) mNil)) (mCB fTup (mCons (mVar 0) mNil)))) (mRet (mLst (mCons (ret (.str "sight")) (mCons (mVar 3) (mCons (ret (.str "firsts")) mNil))))) (endS .nx)))))))))
  (mRet (mCall [false] (f__law_bare 7) [] (mCons (mVar 1) mNil)))))))
def f__law_due : FM := funM 7 [false, false, false] m__law_due
def m__law_hand : SM := (mSeq (mSet 1 (mOp fAddA (mCB fLen (mCons (mVar 0) mNil)) (ret (.int 53))))
  (mSeq (mSet 2 (mLst mNil))
  (mSeq (mFor (mIter (mVar 0)) (tgN 3) (mSeq (mSet 1 (mOp fMod (mCB fInt (mCons (mOp fAddA (mOp fMul (mVar 1) (ret (.int 1021))) (mCB fInt (mCons (mVar 3) mNil))) mNil)) (ret (.int 2147483587))))
  (mExpr (mLM lAppend 2 (mCons (mCB fAbs (mCons (mCB fInt (mCons (mVar 3) mNil)) mNil)) mNil)))))
  (mRet (mLst (mCons (mVar 2) (mCons (ret (.int 0)) (mCons (ret (.int 0)) (mCons (mVar 1) mNil)))))))))
def f__law_hand : FM := funM 4 [false] m__law_hand
def m__law_lists (f__law_lists : Nat → FM) (n : Nat) : SM := (mSeq (mIf (mNot (mTru (mIsi [.lst, .tup] (mVar 1)))) (mRet (mVar 1)) (endS .nx))
  (mSeq (mSet 2 (mIfE (mTb (mOp fLt (mCB fLen (mCons (mVar 1) mNil)) (ret (.int 40)))) (mLc (mIter (mVar 1)) (tgN 3) (ret true) (mCall [true, false] (f__law_lists n) [] (mCons (mVar 0) (mCons (mVar 3) mNil))) [3]) (mCB fLst (mCons (mVar 1) mNil))))
  (mRet (mIfE (mTru (mCall [true, false] f__law_take [] (mCons (mVar 0) (mCons (ret (.int 2)) mNil)))) (mVarZ 2) (mCB fTup (mCons (mVarZ 2) mNil))))))
def f__law_lists : Nat → FM
  | 0 => funM 4 [true, false] stuckS
  | n + 1 => funM 4 [true, false] (m__law_lists (fun _ => f__law_lists n) n)
def m__law_tuples (f__law_tuples : Nat → FM) (n : Nat) : SM := (mSeq (mIf (mTru (mIsi [.tup] (mVar 0))) (mRet (mNotT (mLc (mIter (mVar 0)) (tgN 1) (mNot (mTru (mCall [false] (f__law_tuples n) [] (mCons (mVar 1) mNil)))) (ret (.int 1)) [1]))) (endS .nx))
  (mRet (mOrV (mIsN (mVar 0)) (mAndV (mIsi [.int] (mVar 0)) (mNotT (mIsi [.bl] (mVar 0)))))))
def f__law_tuples : Nat → FM
  | 0 => funM 2 [false] stuckS
  | n + 1 => funM 2 [false] (m__law_tuples (fun _ => f__law_tuples n) n)
def m__law_cracked : SM := (mSeq (mSet 3 (mCall [true, false] f__law_take [] (mCons (mVar 0) (mCons (ret (.int 5)) mNil))))
  (mSeq (mSet 4 (mLc (mIter (mVar 1)) (tgN 6) (ret true) (mCB fLst (mCons (mVar 6) mNil)) [6]))
  (mSeq (mIf (mTb (mOp fEq (mVar 3) (ret (.int 0)))) (mRet (mCall [true] f__law_rid [] (mCons (mVar 0) mNil))) (endS .nx))
  (mSeq (mIf (mOr (mTb (mOp fEq (mVar 3) (ret (.int 1)))) (mNot (mTru (mVar 4)))) (mRet (mOp fAddA (mVarZ 4) (mLc (bnd (mCons (mOp fSub (ret (.int 13)) (mCB fLen (mCons (mVar 4) mNil))) mNil) fRng1) (tgN 7) (ret true) (mLst (mCons (ret (.int 0)) (mCons (ret (.int 0)) mNil))) [7]))) (endS .nx))
  (mSeq (mSet 5 (mCall [true, false] f__law_take [] (mCons (mVar 0) (mCons (mCB fLen (mCons (mVar 4) mNil)) mNil))))
  (mSeq (mIf (mTb (mOp fEq (mVar 3) (ret (.int 2)))) (mSetII 4 (mVar 5) (ret (.int 0)) (mCall [true, false] f__law_odd [] (mCons (mVar 0) (mCons (mVar 2) mNil)))) (mIf (mTb (mOp fEq (mVar 3) (ret (.int 3)))) (mSetII 4 (mVar 5) (ret (.int 1)) (mCall [true, false] f__law_odd [] (mCons (mVar 0) (mCons (ret (.int 100)) mNil)))) (mSetI 4 (mVar 5) (mOp fIxF (mLst (mCons (mCall [true] f__law_rid [] (mCons (mVar 0) mNil)) (mCons (mLst (mCons (mOp fIx (mOp fIx (mVarZ 4) (mVar 5)) (ret (.int 0))) mNil)) (mCons (mOp fAddA (mOp fIx (mVarZ 4) (mVar 5)) (mLst (mCons (ret (.int 0)) mNil))) mNil)))) (mCall [true, false] f__law_take [] (mCons (mVar 0) (mCons (ret (.int 3)) mNil)))))))
  (mRet (mVar 4))))))))
def f__law_cracked : FM := funM 8 [true, false, false] m__law_cracked
def m__law_torn : SM := (mSeq (mSet 2 (mCall [true, false] f__law_take [] (mCons (mVar 0) (mCons (ret (.int 6)) mNil))))
  (mSeq (mSet 3 (mLc (mIter (mVar 1)) (tgN 5) (ret true) (mCB fLst (mCons (mVar 5) mNil)) [5]))
  (mSeq (mSet 4 (mCall [true, false] f__law_take [] (mCons (mVar 0) (mCons (mCB fLen (mCons (mVar 3) mNil)) mNil))))
  (mSeq (mIf (mTb (mOp fEq (mVar 2) (ret (.int 0)))) (mRet (mCall [true] f__law_rid [] (mCons (mVar 0) mNil))) (endS .nx))
  (mSeq (mIf (mTb (mOp fEq (mVar 2) (ret (.int 1)))) (mRet (mSl (mVarZ 3) (ret none) (mPart (mOp fSub (mCB fLen (mCons (mVar 3) mNil)) (ret (.int 1)))))) (endS .nx))
  (mSeq (mIf (mTb (mOp fEq (mVar 2) (ret (.int 2)))) (mRet (mOp fAddA (mVarZ 3) (mLst (mCons (mOp fIx (mVarZ 3) (mVar 4)) mNil)))) (endS .nx))
  (mSeq (mIf (mTb (mOp fEq (mVar 2) (ret (.int 3)))) (mSetI 3 (mVar 4) (mCall [true] f__law_rid [] (mCons (mVar 0) mNil))) (mIf (mTb (mOp fEq (mVar 2) (ret (.int 4)))) (mSetI 3 (mVar 4) (mIfE (mTru (mCall [true, false] f__law_take [] (mCons (mVar 0) (mCons (ret (.int 2)) mNil)))) (mOp fAddA (mOp fIx (mVarZ 3) (mVar 4)) (mLst (mCons (ret (.int 0)) mNil))) (mSl (mOp fIx (mVarZ 3) (mVar 4)) (mPart (ret (.int 1))) (ret none)))) (mSetII 3 (mVar 4) (mCallB 3 [true, false] f__law_take [] (mCons (mVar 0) (mCons (mOp (fLook2 gLenIx) (mVar 3) (mVar 4)) mNil))) (mCall [true, false] f__law_odd [] (mCons (mVar 0) (mCons (ret (.int 100)) mNil))))))
  (mRet (mVar 3)))))))))
def f__law_torn : FM := funM 6 [true, false] m__law_torn
def m__law_wrong : SM := (mSeq (mSet 3 (mCall [true, false] f__law_take [] (mCons (mVar 0) (mCons (ret (.int 9)) mNil))))
  (mSeq (mIf (mTb (mOp fEq (mVar 3) (ret (.int 0)))) (mRet (mOp fIxF (mLst (mCons (mCall [true] f__law_rid [] (mCons (mVar 0) mNil)) (mCons (mLst (mCons (mOp fIx (mVar 1) (ret (.int 0))) mNil)) (mCons (mOp fAddA (mCB fLst (mCons (mVar 1) mNil)) (mLst (mCons (ret (.int 0)) mNil))) mNil)))) (mCall [true, false] f__law_take [] (mCons (mVar 0) (mCons (ret (.int 3)) mNil))))) (endS .nx))
  (mSeq (mIf (mTb (mOp fEq (mVar 3) (ret (.int 1)))) (mRet (mLst (mCons (mCall [true, false, false] f__law_cracked [] (mCons (mVar 0) (mCons (mOp fIx (mVar 1) (ret (.int 0))) (mCons (mVar 2) mNil)))) (mCons (mOp fIx (mVar 1) (ret (.int 1))) mNil)))) (endS .nx))
  (mSeq (mIf (mTb (mOp fEq (mVar 3) (ret (.int 2)))) (mRet (mLst (mCons (mOp fIx (mVar 1) (ret (.int 0))) (mCons (mCall [true, false] f__law_torn [] (mCons (mVar 0) (mCons (mOp fIx (mVar 1) (ret (.int 1))) mNil))) mNil)))) (endS .nx))
  (mSeq (mIf (mTb (mOp fEq (mVar 3) (ret (.int 3)))) (mSeq (mSet 4 (mCB fLst (mCons (mOp fIx (mOp fIx (mVar 1) (ret (.int 1))) (ret (.int 0))) mNil)))
  (mSeq (mSet 5 (mCall [true, false] f__law_take [] (mCons (mVar 0) (mCons (mVar 2) mNil))))
  (mSeq (mSetI 4 (mVar 5) (mOp fMod (mCB fInt (mCons (mOp fAddA (mOp fAddA (mOp fIx (mVar 4) (mVar 5)) (ret (.int 1))) (mCall [true, false] f__law_take [] (mCons (mVar 0) (mCons (ret (.int 99)) mNil)))) mNil)) (ret (.int 100))))
  (mRet (mLst (mCons (mOp fIx (mVar 1) (ret (.int 0))) (mCons (mOp fAddA (mLst (mCons (mVar 4) mNil)) (mCB fLst (mCons (mSl (mOp fIx (mVar 1) (ret (.int 1))) (mPart (ret (.int 1))) (ret none)) mNil))) mNil))))))) (endS .nx))
  (mRet (mVar 1)))))))
def f__law_wrong : FM := funM 6 [true, false, false] m__law_wrong
def m_law : SM := (mSeq (mSet 1 (mCall [false] f__law_hand [] (mCons (mVar 0) mNil)))
  (mSeq (mSet 2 (mOp fAddA (ret (.int 1)) (mCall [true, false] f__law_take [] (mCons (mVar 1) (mCons (ret (.int 4)) mNil)))))
  (mSeq (mSet 3 (mLc (bnd (mCons (mVar 2) mNil) fRng1) (tgN 19) (ret true) (mCall [true] f__law_colour [] (mCons (mVar 1) mNil)) [19]))
  (mSeq (mSet 4 (mLst mNil))
  (mSeq (mFor (bnd (mCons (mCall [true, false] f__law_take [] (mCons (mVar 1) (mCons (ret (.int 5)) mNil))) mNil) fRng1) (tgN 5) (mSeq (mSet 6 (mOp fIx (mLst (mCons (mCall [true, false] f__law_take [] (mCons (mVar 1) (mCons (ret (.int 4)) mNil))) (mCons (mCall [true, false] f__law_take [] (mCons (mVar 1) (mCons (ret (.int 13)) mNil))) (mCons (ret (.int 12)) mNil)))) (mCall [true, false] f__law_take [] (mCons (mVar 1) (mCons (ret (.int 3)) mNil)))))
  (mSeq (mSet 7 (mLc (bnd (mCons (mVar 6) mNil) fRng1) (tgN 9) (ret true) (mTup (mCons (mCall [true, false] f__law_take [] (mCons (mVar 1) (mCons (mVar 2) mNil))) (mCons (mCall [true] f__law_colour [] (mCons (mVar 1) mNil)) mNil))) [9]))
  (mSeq (mSet 8 (mLst (mCons (mCB fTup (mCons (mVar 3) mNil)) mNil)))
  (mSeq (mFor (bnd (mCons (mVar 6) mNil) fRng1) (tgN 9) (mExpr (mLM lAppend 8 (mCons (mCB fTup (mCons (mLc (bnd (mCons (mVar 2) mNil) fRng1) (tgN 19) (ret true) (mCall [true] f__law_colour [] (mCons (mVar 1) mNil)) [19]) mNil)) mNil))))
  (mExpr (mLM lAppend 4 (mCons (mTup (mCons (mVar 7) (mCons (mVar 8) mNil))) mNil))))))))
  (mSeq (mSet 10 (mIfE (mTru (mCall [true, false] f__law_take [] (mCons (mVar 1) (mCons (ret (.int 2)) mNil)))) (ret .non) (mCall [true, false] f__law_take [] (mCons (mVar 1) (mCons (ret (.int 5)) mNil)))))
  (mSeq (mSet 11 (mIfE (mTb (mIsN (mVar 10))) (ret (.int 3)) (mVar 10)))
  (mSeq (mSet 12 (mFz (mCall [true, false] (f__law_lists 7) [] (mCons (mVar 1) (mCons (mVar 4) mNil)))))
  (mSeq (mSet 13 (mFz (mCall [false] (f__law_bare 7) [] (mCons (mVar 12) mNil))))
  (mSeq (mIf (mOr (mTb (mOp fNe (mCall [false, false, false] f__law_asked [] (mCons (mCall [true, false] (f__law_lists 7) [] (mCons (mVar 1) (mCons (mVar 3) mNil))) (mCons (mVar 12) (mCons (mVar 10) mNil)))) (mCall [false, false, false] f__law_due [] (mCons (mVar 3) (mCons (mVar 4) (mCons (mVar 11) mNil)))))) (mTb (mOp (fLook2 (gEqX true)) (mCall [false] (f__law_bare 7) [] (mCons (mVar 12) mNil)) (mVar 13)))) (mRet (ret (.bl false))) (endS .nx))
  (mSeq (mFor (bnd (mCons (ret (.int 2)) mNil) fRng1) (tgN 5) (mSeq (mSet 14 (mLc (mIter (mVar 4)) (tgN 20) (ret true) (mCall [true, false, false] f__law_wrong [] (mCons (mVar 1) (mCons (mVar 20) (mCons (mVar 2) mNil)))) [20]))
  (mSeq (mIf (mTb (mOp fEq (mCall [true, false] f__law_take [] (mCons (mVar 1) (mCons (ret (.int 16)) mNil))) (ret (.int 0)))) (mSet 14 (mCall [true] f__law_rid [] (mCons (mVar 1) mNil))) (endS .nx))
  (mSeq (mSet 15 (mFz (mCall [true, false] f__law_begun [] (mCons (mVar 1) (mCons (mVar 3) mNil)))))
  (mSeq (mSet 16 (mFz (mCall [false, false, false] f__law_due [] (mCons (mVar 15) (mCons (mVar 14) (mCons (mVar 11) mNil))))))
  (mSeq (mSet 17 (mFz (mCall [true, false] (f__law_lists 7) [] (mCons (mVar 1) (mCons (mVar 14) mNil)))))
  (mSeq (mSet 13 (mFz (mCall [false] (f__law_bare 7) [] (mCons (mVar 17) mNil))))
  (mSeq (mSet 18 (mFz (mCall [false, false, false] f__law_asked [] (mCons (mVar 15) (mCons (mVar 17) (mCons (mVar 10) mNil))))))
  (mIf (mOr (mTb (mOp fNe (mVar 18) (mVar 16))) (mOr (mAnd (mTru (mIsi [.tup] (mVar 18))) (mNot (mTru (mCall [false] (f__law_tuples 7) [] (mCons (mVar 18) mNil))))) (mTb (mOp (fLook2 (gEqX true)) (mCall [false] (f__law_bare 7) [] (mCons (mVar 17) mNil)) (mVar 13))))) (mRet (ret (.bl false))) (endS .nx))))))))))
  (mRet (mOp fEq (mCall [false, false, false] f__law_asked [] (mCons (mVar 3) (mCons (mLst mNil) (mCons (mVar 10) mNil)))) (mTup mNil))))))))))))))
def f_law : FM := funM 21 [false] m_law
end LAWM
end
section
set_option Elab.async false
set_option linter.all false
set_option autoImplicit false
set_option maxRecDepth 100000
set_option maxHeartbeats 0
set_option pp.maxSteps 400
namespace LAWP
open PySem PySem.Spec L2 SV LAWM
theorem b_sl {ρ : SV.Env} {QD : Res D → SV.Env → Prop} {ma : M D} {lo hi : M (Option Int)} (h : Ev ma ρ (onOk QD fun d ρ1 => Ev lo ρ1 (onOk QD fun l ρ2 => Ev hi ρ2 (onOk QD fun u ρ3 => Ev (fCut d l u) ρ3 QD)))) : Ev (mSl ma lo hi) ρ QD := by
  unfold mSl
  simp only [ev_bnd]
  exact h
theorem b_part {ρ : SV.Env} {QO : Res (Option Int) → SV.Env → Prop} {ma : M D} (h : Ev ma ρ (onOk QO fun d ρ1 => ∃ i, d = .int i ∧ QO (.ok (some i)) ρ1)) : Ev (mPart ma) ρ QO := by
  unfold mPart
  rw [ev_bnd]
  refine h.imp fun r ρ1 q => ?_
  cases r with
  | exc c fs => exact q
  | ok d =>
    obtain ⟨i, rfl, q2⟩ := (show ∃ i, d = .int i ∧ QO (.ok (some i)) ρ1 from q)
    exact b_ret q2
theorem b_pi {i : Int} {P : Int → Prop} (h : P i) : ∃ j, D.int i = .int j ∧ P j := ⟨i, rfl, h⟩
theorem b_callK {io : List Bool} {f : FM} {dd : List D} {pk : List Pk} {n m : Nat} {a b : M (List D)} {ρ : SV.Env} {QD : Res D → SV.Env → Prop} (h : Ev a ρ (onOk QD fun ds ρ1 => Ev b ρ1 (onOk QD fun es ρ2 => Ev (fFrzs es) ρ2 (onOk QD fun ys ρ3 => Ev (fFrzs ds) ρ3 (onOk QD fun xs ρ4 =>
    ((io.all (fun b => !b) = true ∧ io.length = pk.length ∧ xs.length = n) ∧ (ys.length = m ∧ pkOk pk xs.length ys.length dd.length = true)) ∧ Ef f (pkx .non pk dd xs ys) fun r _ => QD r ρ4))))) : Ev (mCallK io f dd pk n m a b) ρ QD := by
  unfold mCallK
  rw [ev_bnd]
  refine h.imp fun r ρ1 q => ?_
  cases r with
  | exc c fs => exact q
  | ok ds =>
    rw [onOk_ok] at *
    rw [ev_bnd]
    refine q.imp fun r ρ2 q => ?_
    cases r with
    | exc c fs => exact q
    | ok es =>
      rw [onOk_ok] at *
      rw [ev_bnd]
      refine q.imp fun r ρ3 q => ?_
      cases r with
      | exc c fs => exact q
      | ok ys =>
        rw [onOk_ok] at *
        rw [ev_bnd]
        refine q.imp fun r ρ4 q => ?_
        cases r with
        | exc c fs => exact q
        | ok xs =>
          obtain ⟨c, r, cs, e, q⟩ := (show _ ∧ Ef _ _ _ from q)
          rw [onOk_ok]
          exact ⟨r, ρ4, by dsimp only; rw [if_pos c, e], q⟩
theorem lApp {ds : List D} {e : D} (h : ds.length < 16777216) : lAppend ds [e] = some (ds ++ [e], .non) := by
  unfold lAppend
  simp only
  rw [if_pos h]
theorem b_rng1 {ρ : SV.Env} {QL : Res (List D) → SV.Env → Prop} {j : Int} (c : okR j = true) (h : QL (.ok (upTo 0 j.toNat)) ρ) : Ev (fRng1 [.int j]) ρ QL := by
  unfold fRng1
  simp only
  rw [if_pos c]
  exact b_ret h
theorem b_rng2 {ρ : SV.Env} {QL : Res (List D) → SV.Env → Prop} {i j : Int} (c : okR i = true ∧ okR j = true) (h : QL (.ok (upTo i (j - i).toNat)) ρ) : Ev (fRng2 [.int i, .int j]) ρ QL := by
  unfold fRng2
  simp only
  rw [if_pos c]
  exact b_ret h
theorem b_rz {xs : List D} {ns : List Str} {P : Prop} (c : xs.length = ns.length ∧ 0 < ns.length ∧ ns.length ≤ 900) (h : P) : (xs.length = ns.length ∧ 0 < ns.length ∧ ns.length ≤ 900) ∧ P := ⟨c, h⟩
def gd : D → Bool
  | .non => true | .bl _ => true | .int _ => true | .str _ => true | .tup _ => true | .lst _ => true | .dk _ _ => true | _ => false
theorem gd_own {d : D} (h : gd d = true) : d.own = false := by cases d <;> first | rfl | cases h
theorem gd_isX {d : D} (h : gd d = true) : d.isX = false := by cases d <;> first | rfl | cases h
theorem gd_nsl {d : D} (h : gd d = true) : ∀ i, d ≠ .sl i := by intro i z; rw [z] at h; cases h
theorem gd_frz {d : D} (h : gd d = true) : d.frz = d := by cases d <;> first | rfl | cases h
theorem dr_gd {d : D} {ρ : SV.Env} (h : gd d = true) : dr ρ d = some d := by cases d <;> first | rfl | cases h
theorem cb_f : ∀ {io : List Bool} {ds : List D} {ρ : SV.Env}, io.all (fun b => !b) = true → Nat.ble ds.length io.length = true → callBack io ds [] ρ = some ρ
  | io, [], ρ, _, _ => by cases io <;> (unfold callBack; rfl)
  | [], _ :: _, _, _, h => by cases h
  | true :: io, _ :: _, _, h, _ => by simp at h
  | false :: io, d :: ds, ρ, h, h2 => by
    have z := cb_f (io := io) (ds := ds) (ρ := ρ) (by simpa using h) h2
    cases d <;> (simp only [callBack]; exact z)
theorem b_frzG {d : D} {ρ : SV.Env} {QD : Res D → SV.Env → Prop} (h : gd d = true) (q : QD (.ok d) ρ) : Ev (fFrz d) ρ QD := b_frz (gd_nsl h) (by rw [gd_frz h]; exact q)
theorem gEqF {i j : Int} : gEq false (.int i) (.int j) = some (.bl (decide (i = j))) := by
  simp [gEq, D.py, SeqAt.shaped, PyData.eqv, PyData.canLay0, PyData.depth]
  rfl
theorem gNeF {i j : Int} : gEq true (.int i) (.int j) = some (.bl (!decide (i = j))) := by
  simp [gEq, D.py, SeqAt.shaped, PyData.eqv, PyData.canLay0, PyData.depth]
  rfl
theorem b_enum {d : D} {ρ : SV.Env} {QL : Res (List D) → SV.Env → Prop} (h : Ev (fSeq d) ρ (onOk QL fun z ρ1 => QL (.ok (enumF 0 z.2)) ρ1)) : Ev (fEnum [d]) ρ QL := by
  unfold fEnum
  simp only [ev_bnd, ev_ret]
  exact h
theorem b_unp {is : List Nat} {ma : M D} {ρ : SV.Env} {QS : Fl → SV.Env → Prop} (h : Ev ma ρ (onOkS QS fun d ρ1 => ∃ ds, d = .tup ds ∧ plain ds = true ∧ ∃ ρ3, unpS is ds ρ1 = some ρ3 ∧ QS .nx ρ3)) : Es (mUnp is ma) ρ QS := by
  unfold mUnp
  rw [es_bndS, ev_bnd]
  refine h.imp fun r ρ1 q => ?_
  cases r with
  | exc c fs => exact q
  | ok a =>
    obtain ⟨ds, rfl, p, ρ3, e, q⟩ := q
    refine ⟨.ok (true, ds), ρ1, ?_, .nx, ρ3, ?_, q⟩
    · unfold fItems; simp [dr, D.seq, p]
    · simp [e]
theorem b_sw {i : Nat} {k1 k2 : M D} {ms : M (List D)} {ρ : SV.Env} {QS : Fl → SV.Env → Prop} (h : Ev (mTup ms) ρ (onOkS QS fun d ρ1 => ∃ a b, d = .tup [a, b] ∧ Es (mSeq (mSetD i k1 a) (mSetD i k2 b)) ρ1 QS)) : Es (mSw i k1 k2 ms) ρ QS := by
  unfold mSw
  rw [es_bndS]
  refine h.imp fun r ρ1 q => ?_
  cases r with
  | exc c fs => exact q
  | ok d =>
    obtain ⟨a, b, rfl, q⟩ := q
    exact q
theorem mixed_ok (n t : Int) (h0 : 0 ≤ n) (h1 : n < 2147483647) (h2 : 0 ≤ t) : ∃ v : Int, 0 ≤ v ∧ ∀ Q : Res D → List D → Prop, Q (.ok (.int v)) [] → Ef f__law_mixed [.int n, .int t] Q := by
  refine ⟨((((n * 69621 + t * 7907 + 40503) % 2147483647 * ((n * 69621 + t * 7907 + 40503) % 2147483647) + t * 104723 + (n * 69621 + t * 7907 + 40503) % 2147483647 / 131) % 2147483629 * 48271 + (n * 69621 + t * 7907 + 40503) % 2147483647 / 7) % 2147483579) / 32, by omega, fun Q hQ => ?_⟩
  refine ef_fun ?_
  simp [m__law_mixed, startE, es_seq, mSet, es_bndS, ev_bnd, mOp, mCB, mCons, mNil, k_var, ev_ret, onOk_ok, onOkS_ok, onNx_nx, onNx_ret, k_II, ev_add, D.own, D.isX, fC1, k_look, dr, gInt, k_mv_int, k_st, mRet, es_end, ioGet, hQ]
  exact ⟨⟨by omega, by omega⟩, by decide +kernel, by decide +kernel, by decide +kernel⟩
theorem gIx_lst {cs : List Int} {i : Nat} {c : Int} (h : cs[i]? = some c) : gIx (.lst (cs.map D.int)) (.int (i : Nat)) = some (.int c) := by
  have hl : i < cs.length := (List.getElem?_eq_some_iff.mp h).1
  have e : cs[i] = c := by rw [List.getElem?_eq_getElem hl] at h; exact Option.some.inj h
  simp [gIx, D.seq, atI, ixN, hl, e, D.own]
theorem gLen_fz {cs : List Int} : gLen (.fz (cs.map D.int)) = some (.int (cs.length : Nat)) := by simp [gLen]
theorem gLen_lst {cs : List Int} : gLen (.lst (cs.map D.int)) = some (.int (cs.length : Nat)) := by simp [gLen, D.seq]
def hnd (cs : List Int) (i : Nat) (r t : Int) : D := .ol [.lst (cs.map .int), .int i, .int r, .int t]
def HOk (h : D) : Prop := ∃ cs i r t, h = hnd cs i r t ∧ (∀ c ∈ cs, 0 ≤ c) ∧ cs.length ≤ 16777216 ∧ 0 ≤ r ∧ 0 ≤ t ∧ t < 2147483587
theorem div_ok {m : Int} (m0 : 0 < m) (m1 : m < 1267650600228229401496703205376) : (decide (0 < m) && decide (m.natAbs.log2 < 9000)) = true := by
  have h : m.natAbs.log2 < 100 := by
    rcases Nat.eq_zero_or_pos m.natAbs with z | z
    · rw [z]; decide
    · exact (Nat.log2_lt (by omega)).mpr (by omega)
  simp only [Bool.and_eq_true, decide_eq_true_eq]
  exact ⟨m0, by omega⟩
local macro_rules
  | `(tactic| solve | $a | $b | $c | $d | $e) => `(tactic| (repeat' (first
      | (apply_rules (transparency := .reducible) (symm := false) (exfalso := false) (maxDepth := 1000) only [@b_ok, @b_okS, @b_nx, @b_seq, @b_op, @b_ret, @b_cons, @b_nil, @b_CB, @b_C1, @b_set, @b_tb, @b_bl, @b_if, @b_end, @b_preps, @b_prepF, @b_preps0, @b_call, @b_owns, @b_owns0])
      | (apply_rules (transparency := .reducible) (symm := false) (exfalso := false) (maxDepth := 1000) only [@b_nret, @b_nexc, @b_exc, @b_excS, @b_nbrk, @b_nct, @b_mret, @b_expr, @b_setI, @b_un, @b_C2, @b_tru, @b_and, @b_or, @b_not, @b_notT, @b_andV, @b_orV, @b_blE, @b_ifE, @b_add, @b_neg, @b_aug, @b_prepT, @b_frzs, @b_frzs0, @b_tup, @b_lst, @b_isN, @b_notN, @b_isi, @b_raise, @b_ownS, @b_bnd, @b_iter, @b_fseq, @b_mfor, @b_enum, @b_callK, @b_sl, @b_part, @b_pi])
      | ((with_reducible apply b_var); rfl; (focus (first | rfl | assumption)); (focus (first | rfl | assumption)))
      | ((with_reducible apply b_varO); rfl; (focus (first | rfl | assumption)))
      | ((with_reducible apply b_st); exact Nat.le_of_ble_eq_true rfl)
      | ((with_reducible apply b_mvS); rfl; (focus (first | rfl | assumption)))
      | ((with_reducible apply b_mv); (focus (first | assumption | (intro _ z; cases z; done))))
      | ((with_reducible apply b_frzS); rfl; (focus (first | rfl | assumption)))
      | ((with_reducible apply b_frzG); focus (first | assumption | rfl))
      | ((with_reducible apply b_frz); (focus (first | assumption | (intro _ z; cases z; done))))
      | ((with_reducible apply b_own); (focus (first | assumption | (intro _ z; cases z; done))))
      | ((with_reducible apply b_II); focus (first | rfl | $c))
      | ((with_reducible apply b_look2); (focus (first | rfl | exact dr_gd (by assumption))); (focus (first | rfl | exact dr_gd (by assumption))); focus (first | exact gEqF | exact gNeF | $a | rfl))
      | ((with_reducible apply b_look); (focus (first | rfl | exact dr_gd (by assumption))); focus (first | $a | rfl))
      | ((with_reducible apply b_trv); (focus (first | rfl | exact dr_gd (by assumption))); rfl)
      | ((with_reducible apply b_io); rfl)
      | ((with_reducible apply b_lim); exact Nat.le_of_ble_eq_true rfl)
      | ((with_reducible apply b_setD); rfl)
      | ((with_reducible apply b_setK); rfl; rfl)
      | ((with_reducible apply b_LM); rfl)
      | ((with_reducible apply b_ifT); focus (first | rfl | $b))
      | ((with_reducible apply b_ifF); focus (first | rfl | $b))
      | ((with_reducible apply b_eT); focus (first | rfl | $b))
      | ((with_reducible apply b_eF); focus (first | rfl | $b))
      | ((with_reducible apply b_rng1); focus (first | (simp [okR]; done) | (simp [okR]; omega)))
      | ((with_reducible apply b_rng2); focus (first | (simp [okR]; done) | (simp [okR]; omega)))
      | ((with_reducible apply b_back); focus (first | rfl | exact cb_f rfl rfl))
      | ((with_reducible apply b_seqF); rfl)
      | ((with_reducible apply b_LMr); rfl; focus (refine lApp ?_; first | (simp; done) | (simp; omega) | $e))
      | ((with_reducible apply b_rz); exact ⟨rfl, Nat.le_of_ble_eq_true rfl, Nat.le_of_ble_eq_true rfl⟩)
      | $d
      | fail)))
theorem take_ok {h : D} {m : Int} (hh : HOk h) (m0 : 0 < m) (m1 : m < 1267650600228229401496703205376) : ∃ v h', 0 ≤ v ∧ v < m ∧ HOk h' ∧ ∀ Q : Res D → List D → Prop, Q (.ok (.int v)) [h'] → Ef f__law_take [h, .int m] Q := by
  obtain ⟨cs, i, r, t, rfl, hc, hl, r0, t0, t1⟩ := hh
  by_cases hr : r = 0
  · subst hr
    by_cases hi : i < cs.length
    · have hg : cs[i]? = some cs[i] := List.getElem?_eq_getElem hi
      have c0 : 0 ≤ cs[i] := hc _ (List.getElem_mem hi)
      generalize cs[i] = c at hg c0
      by_cases hb : c < 1000000000000000000
      · obtain ⟨v, v0, hv⟩ := mixed_ok (c % 2147483647) ((i : Int) + 1) (by omega) (by omega) (by omega)
        refine ⟨v % m, hnd cs (i + 1) 0 t, Int.emod_nonneg _ (by omega), Int.emod_lt_of_pos _ m0, ⟨cs, i + 1, 0, t, rfl, hc, hl, by omega, t0, t1⟩, fun Q hQ => ef_fun ?_⟩
        show Es m__law_take [some (hnd cs i 0 t), some (.int m), none, none] _
        unfold m__law_take
        solve | (first | exact gIx_lst hg | exact gLen_lst) | (simp; omega) | (simp; omega) | refine hv _ ?_ | fail
        exact ⟨_, rfl, hQ⟩
      · refine ⟨c % m, hnd cs (i + 1) (c / m) t, Int.emod_nonneg _ (by omega), Int.emod_lt_of_pos _ m0, ⟨cs, i + 1, _, t, rfl, hc, hl, Int.ediv_nonneg c0 (by omega), t0, t1⟩, fun Q hQ => ef_fun ?_⟩
        show Es m__law_take [some (hnd cs i 0 t), some (.int m), none, none] _
        unfold m__law_take
        solve | (first | exact gIx_lst hg | exact gLen_lst) | (simp; omega) | (first | (simp; omega) | exact div_ok m0 m1) | fail | fail
        exact ⟨_, rfl, hQ⟩
    · obtain ⟨v, v0, hv⟩ := mixed_ok ((t + 1) % 2147483587) (i : Int) (by omega) (by omega) (by omega)
      refine ⟨v % m, hnd cs i 0 ((t + 1) % 2147483587), Int.emod_nonneg _ (by omega), Int.emod_lt_of_pos _ m0, ⟨cs, i, 0, _, rfl, hc, hl, by omega, by omega, by omega⟩, fun Q hQ => ef_fun ?_⟩
      show Es m__law_take [some (hnd cs i 0 t), some (.int m), none, none] _
      unfold m__law_take
      solve | exact gLen_lst | (simp; omega) | (simp; omega) | refine hv _ ?_ | fail
      exact ⟨_, rfl, hQ⟩
  · refine ⟨r % m, hnd cs i (r / m) t, Int.emod_nonneg _ (by omega), Int.emod_lt_of_pos _ m0, ⟨cs, i, _, t, rfl, hc, hl, Int.ediv_nonneg r0 (by omega), t0, t1⟩, fun Q hQ => ef_fun ?_⟩
    show Es m__law_take [some (hnd cs i r t), some (.int m), none, none] _
    unfold m__law_take
    solve | exact gLen_lst | (simp; omega) | (first | (simp; omega) | exact div_ok m0 m1) | fail | fail
    exact ⟨_, rfl, hQ⟩
theorem take_k {h : D} {m : Int} {Q : Res D → List D → Prop} (hh : HOk h) (m0 : 0 < m) (m1 : m < 1267650600228229401496703205376) (k : ∀ v h', 0 ≤ v → v < m → HOk h' → Q (.ok (.int v)) [h']) : Ef f__law_take [h, .int m] Q := by
  obtain ⟨v, h', v0, v1, h1, q⟩ := take_ok hh m0 m1
  exact q Q (k v h' v0 v1 h1)
theorem frzs_ints : ∀ xs : List Int, D.frzs (xs.map D.int) = xs.map D.int
  | [] => rfl
  | x :: xs => by simp [D.frzs, D.frz, frzs_ints xs]
theorem hand_k {ns : List Int} (hl : ns.length ≤ 63) {Q : Res D → List D → Prop} (k : ∀ h, HOk h → Q (.ok h) []) : Ef f__law_hand [.fz (ns.map D.int)] Q := by
  refine ef_fun ?_
  show Es m__law_hand [some (.fz (ns.map D.int)), none, none, none] _
  unfold m__law_hand
  solve | exact gLen_fz | (first | (simp; done) | (simp; omega)) | (first | (simp; done) | (simp; omega)) | fail | fail
  refine es_for (fun ds ρ => ∃ (done rest : List Int) (t : Int) (x : Option D), ds = rest.map D.int ∧ ρ = [some (.fz (ns.map D.int)), some (.int t), some (.ol (done.map D.int)), x] ∧ 0 ≤ t ∧ t < 2147483587 ∧ (∀ c ∈ done, 0 ≤ c) ∧ done.length + rest.length ≤ 63) ?_ ?_ _ _ ⟨[], ns, (ns.length : Int) + 53, none, rfl, rfl, by omega, by omega, by simp, by simpa using hl⟩
  · rintro ρ ⟨done, rest, t, x, e, rfl, t0, t1, hc, hl2⟩
    solve | fail | (first | (simp; done) | (simp; omega)) | (first | (simp; done) | (simp; omega)) | fail | fail
    exact ⟨_, rfl, k _ ⟨done, 0, 0, t, by simp [hnd, D.frz, frzs_ints], hc, by omega, by omega, t0, t1⟩⟩
  · rintro d ds ρ ⟨done, rest, t, x, e, rfl, t0, t1, hc, hl2⟩
    cases rest with
    | nil => cases e
    | cons r rest =>
      cases e
      refine ⟨_, rfl, ?_⟩
      simp at hl2
      solve | fail | (first | (simp; done) | (simp; omega)) | (first | (simp; done) | (simp; omega)) | fail | fail
      exact ⟨done ++ [if r < 0 then -r else r], rest, (t * 1021 + r) % 2147483587, some (.int r), rfl, by simp, by omega, by omega, by
        intro c hm
        rcases List.mem_append.mp hm with z | z
        · exact hc c z
        · have z := List.mem_singleton.mp z
          rw [z]
          split <;> omega, by simp; omega⟩
theorem HOk.own {h : D} (hh : HOk h) : h.own = true := by obtain ⟨cs, i, r, t, rfl, _⟩ := hh; rfl
theorem HOk.isX {h : D} (hh : HOk h) : h.isX = false := by obtain ⟨cs, i, r, t, rfl, _⟩ := hh; rfl
theorem HOk.nsl {h : D} (hh : HOk h) : ∀ i, h ≠ .sl i := by obtain ⟨cs, i, r, t, rfl, _⟩ := hh; intro i z; cases z
theorem gIx_any {ds : List D} {v : Int} (h0 : 0 ≤ v) (h1 : v < ds.length) (p : ∀ d ∈ ds, gd d = true) : ∃ d, d ∈ ds ∧ gIx (.lst ds) (.int v) = some d := by
  have hl : v.toNat < ds.length := by omega
  refine ⟨ds[v.toNat], List.getElem_mem hl, ?_⟩
  have e : ixN ds.length v = some v.toNat := by unfold ixN; rw [if_pos h0, if_pos h1]
  have o := gd_own (p _ (List.getElem_mem hl))
  simp [gIx, D.seq, atI, e, o, hl]
theorem gLen_l {ds : List D} : gLen (.lst ds) = some (.int (ds.length : Nat)) := by simp [gLen, D.seq]
theorem gLen_t {ds : List D} : gLen (.tup ds) = some (.int (ds.length : Nat)) := by simp [gLen, D.seq]
theorem plain_gd : ∀ {ds : List D}, (∀ d ∈ ds, gd d = true) → plain ds = true := fun {ds} g => by
  unfold SV.plain
  exact List.all_eq_true.mpr fun d hd => by rw [gd_own (g d hd)]; rfl
theorem tupOf_l {ds : List D} {ρ : SV.Env} {QD : Res D → SV.Env → Prop} (g : ∀ d ∈ ds, gd d = true) (q : QD (.ok (.tup ds)) ρ) : Ev (fTupOf (.lst ds)) ρ QD := by
  refine ⟨_, _, ?_, q⟩
  unfold fTupOf bnd fItems
  simp [dr, D.seq, plain_gd g, SV.ret]
theorem tupOf_t {ds : List D} {ρ : SV.Env} {QD : Res D → SV.Env → Prop} (g : ∀ d ∈ ds, gd d = true) (q : QD (.ok (.tup ds)) ρ) : Ev (fTupOf (.tup ds)) ρ QD := by
  refine ⟨_, _, ?_, q⟩
  unfold fTupOf bnd fItems
  simp [dr, D.seq, plain_gd g, SV.ret]
theorem gd_ints (xs : List Int) : ∀ d ∈ xs.map D.int, gd d = true := fun d hd => by
  obtain ⟨x, _, rfl⟩ := List.mem_map.mp hd
  rfl
theorem cut_t {ds : List D} {lo hi : Option Int} {ρ : SV.Env} {QD : Res D → SV.Env → Prop} (g : ∀ d ∈ ds, gd d = true) (q : QD (.ok (.tup (SV.cut ds lo hi))) ρ) : Ev (fCut (.tup ds) lo hi) ρ QD := by
  refine ⟨_, _, ?_, q⟩
  unfold fCut bnd fItems
  simp [dr, D.seq, plain_gd g, SV.ret]
theorem gIx_t0 {a : D} {ds : List D} (h : gd a = true) : gIx (.tup (a :: ds)) (.int 0) = some a := by
  have e : atI (a :: ds) 0 = some a := by simp [atI, ixN]
  show (match atI (a :: ds) 0 with
    | some d => if d.own = true then none else some d
    | none => none) = _
  rw [e]
  simp [gd_own h]
theorem gEq_non {neg : Bool} {j : Int} : gEq neg (.int j) .non = some (.bl neg) := by
  cases neg <;> simp [gEq, D.py, SeqAt.shaped, PyData.eqv, PyData.canLay0, PyData.depth] <;> rfl
theorem upTo_succ (lo : Int) (n : Nat) : SV.upTo lo (n + 1) = .int lo :: SV.upTo (lo + 1) n := by
  unfold SV.upTo
  rw [List.range_succ_eq_map]
  simp only [List.map_cons, List.map_map, Int.ofNat_zero]
  congr 1
  · simp
  · apply List.map_congr_left
    intro a _
    simp only [Function.comp]
    congr 1
    omega
theorem frzs_gd : ∀ {ds : List D}, (∀ d ∈ ds, gd d = true) → D.frzs ds = ds
  | [], _ => rfl
  | d :: ds, g => by
    simp only [D.frzs]
    rw [gd_frz (g d (by simp)), frzs_gd fun x hx => g x (by simp [hx])]
theorem cut_f {ds : List D} {lo hi : Option Int} {ρ : SV.Env} {QD : Res D → SV.Env → Prop} (g : ∀ d ∈ ds, gd d = true) (q : QD (.ok (.ol (SV.cut ds lo hi))) ρ) : Ev (fCut (.ol ds) lo hi) ρ QD := by
  refine ⟨_, _, ?_, q⟩
  unfold fCut bnd fItems
  simp [frzs_gd g, SV.ret]
theorem cut_s {ds : List D} {i : Nat} {lo hi : Option Int} {ρ : SV.Env} {QD : Res D → SV.Env → Prop} (h : ρ[i]? = some (some (.ol ds))) (g : ∀ d ∈ ds, gd d = true) (q : QD (.ok (.ol (SV.cut ds lo hi))) ρ) : Ev (fCut (.sl i) lo hi) ρ QD := by
  refine ⟨_, _, ?_, q⟩
  unfold fCut bnd fItems
  simp [dr, h, D.isX, D.seq, plain_gd g, SV.ret]
theorem cut_take {ds : List D} (n : Nat) : SV.cut ds none (some (n : Int)) = ds.take n := by
  unfold SV.cut
  rw [HT.sIx_nat, HT.sIx_none]
  rcases Nat.le_total n ds.length with h | h
  · rw [Nat.min_eq_left h]; simp
  · rw [Nat.min_eq_right h]; simp [List.take_of_length_le h]
theorem add_ff {A B : List D} {ρ : SV.Env} {QD : Res D → SV.Env → Prop} (ga : ∀ d ∈ A, gd d = true) (gb : ∀ d ∈ B, gd d = true) (hl : A.length + B.length ≤ 16777216) (q : QD (.ok (.ol (A ++ B))) ρ) : Ev (fAddA (.ol A) (.ol B)) ρ QD := by
  refine ⟨_, _, ?_, q⟩
  simp [fAddA, fLs, bnd, SV.ret, frzs_gd ga, frzs_gd gb, hl]
theorem add_sf {A B : List D} {i : Nat} {ρ : SV.Env} {QD : Res D → SV.Env → Prop} (h : ρ[i]? = some (some (.ol A))) (ga : ∀ d ∈ A, gd d = true) (gb : ∀ d ∈ B, gd d = true) (hl : A.length + B.length ≤ 16777216) (q : QD (.ok (.ol (A ++ B))) ρ) : Ev (fAddA (.sl i) (.ol B)) ρ QD := by
  refine ⟨_, _, ?_, q⟩
  simp [fAddA, fLs, bnd, SV.ret, dr, h, D.isX, frzs_gd gb, plain_gd ga, hl]
theorem gLen_o {ds : List D} : gLen (.ol ds) = some (.int (ds.length : Nat)) := by simp [gLen, D.seq]
theorem tupOf_g {ds : List D} {ρ : SV.Env} {QD : Res D → SV.Env → Prop} (g : ∀ d ∈ ds, gd d = true) (q : QD (.ok (.tup ds)) ρ) : Ev (fTupOf (.ol ds)) ρ QD := by
  refine ⟨_, _, ?_, q⟩
  unfold fTupOf bnd fItems
  simp [SV.ret, frzs_gd g]
theorem tupOf_s {ds : List D} {ρ : SV.Env} {QD : Res D → SV.Env → Prop} {i : Nat} (h : ρ[i]? = some (some (.ol ds))) (g : ∀ d ∈ ds, gd d = true) (q : QD (.ok (.tup ds)) ρ) : Ev (fTupOf (.sl i)) ρ QD := by
  refine ⟨_, _, ?_, q⟩
  unfold fTupOf bnd fItems
  simp [dr, h, D.isX, D.seq, plain_gd g, SV.ret]
theorem es_cut {s : SM} {ρ : SV.Env} {k QS : Fl → SV.Env → Prop} (J : SV.Env → Prop) (h : Es s ρ fun fl ρ1 => fl = .nx ∧ J ρ1) (q : ∀ ρ1, J ρ1 → k .nx ρ1) : Es s ρ (onNx QS k) := h.imp fun fl ρ1 ⟨e, j⟩ => by subst e; exact q ρ1 j
theorem lstOf_s {ds : List D} {ρ : SV.Env} {QD : Res D → SV.Env → Prop} {i : Nat} (h : ρ[i]? = some (some (.ol ds))) (g : ∀ d ∈ ds, gd d = true) (q : QD (.ok (.ol ds)) ρ) : Ev (fLstOf (.sl i)) ρ QD := by
  refine ⟨_, _, ?_, q⟩
  unfold fLstOf bnd fItems
  simp [dr, h, D.isX, D.seq, plain_gd g, SV.ret]
theorem ixN_ok {n : Nat} {m : Int} (h0 : 0 ≤ m) (h1 : m < n) : ixN n m = some m.toNat := by unfold ixN; rw [if_pos h0, if_pos h1]
theorem pys_ints : ∀ xs : List Int, D.pys (xs.map D.int) = some (xs.map PyData.int)
  | [] => rfl
  | x :: xs => by simp [D.pys, D.py, pys_ints xs]
theorem lay_ints : ∀ xs : List Int, PyData.canLayAll0 (xs.map PyData.int) = true ∧ PyData.depthAll (xs.map PyData.int) = 0
  | [] => ⟨rfl, rfl⟩
  | x :: xs => by
    obtain ⟨h1, h2⟩ := lay_ints xs
    constructor
    · simp [PyData.canLayAll0, PyData.canLay0, h1]
    · simp [PyData.depthAll, PyData.depth, h2]
theorem eqv_ints : ∀ xs ys : List Int, PyData.eqvAll (xs.map PyData.int) (ys.map PyData.int) = decide (xs = ys)
  | [], [] => by simp [PyData.eqvAll]
  | [], y :: ys => by simp [PyData.eqvAll]
  | x :: xs, [] => by simp [PyData.eqvAll]
  | x :: xs, y :: ys => by
    simp only [List.map_cons, PyData.eqvAll, PyData.eqv, eqv_ints xs ys]
    by_cases h : x = y <;> by_cases h2 : xs = ys <;> simp [h, h2]
theorem gEq_tt {neg : Bool} {xs ys : List Int} : gEq neg (.tup (xs.map D.int)) (.tup (ys.map D.int)) = some (.bl (if neg = true then !decide (xs = ys) else decide (xs = ys))) := by
  have a := lay_ints xs
  have b := lay_ints ys
  simp [gEq, D.py, pys_ints, SeqAt.shaped, PyData.canLay0, PyData.depth, a, b, PyData.eqv, eqv_ints]
theorem gEq_oo {neg : Bool} {xs ys : List Int} : gEq neg (.ol (xs.map D.int)) (.ol (ys.map D.int)) = some (.bl (if neg = true then !decide (xs = ys) else decide (xs = ys))) := by
  have a := lay_ints xs
  have b := lay_ints ys
  simp [gEq, D.py, pys_ints, SeqAt.shaped, PyData.canLay0, PyData.depth, a, b, PyData.eqv, eqv_ints]
theorem gEq_ll {neg : Bool} {xs ys : List Int} : gEq neg (.lst (xs.map D.int)) (.lst (ys.map D.int)) = some (.bl (if neg = true then !decide (xs = ys) else decide (xs = ys))) := by
  have a := lay_ints xs
  have b := lay_ints ys
  simp [gEq, D.py, pys_ints, SeqAt.shaped, PyData.canLay0, PyData.depth, a, b, PyData.eqv, eqv_ints]
theorem es_suite {i : Nat} {c : Str} {fs : List (Str × D)} {ms : SM} {ρ : SV.Env} {QS : Fl → SV.Env → Prop} (n : noX ρ = true) (hl : i < ρ.length) (h : Es ms (ρ.set i (some (.xc c (fs.map (·.1)) (fs.map (·.2))))) fun fl ρ1 => (noX (ρ1.set i none) = true ∧ fl.isExc = false) ∧ QS fl (ρ1.set i none)) : Es (suiteS (some i) c fs ms) ρ QS := by
  obtain ⟨fl, ρ1, e, h2, q⟩ := h
  refine ⟨fl, _, ?_, q⟩
  unfold suiteS
  rw [if_pos n]
  simp only
  rw [if_pos hl, e]
  simp only
  rw [if_pos h2]
theorem es_hdT {sub : Str → Str → Option Bool} {c c2 : Str} {fs : List (Str × D)} {oi : Option Nat} {ms : SM} {r : List (Str × Option Nat × SM)} {ρ : SV.Env} {QS : Fl → SV.Env → Prop} (e : sub c c2 = some true) (h : Es (suiteS oi c fs ms) ρ QS) : Es (hdGo sub c fs ((c2, oi, ms) :: r)) ρ QS := by
  obtain ⟨fl, ρ1, e1, q⟩ := h
  exact ⟨fl, ρ1, by unfold hdGo; simp only [e]; exact e1, q⟩
theorem es_hdF {sub : Str → Str → Option Bool} {c c2 : Str} {fs : List (Str × D)} {oi : Option Nat} {ms : SM} {r : List (Str × Option Nat × SM)} {ρ : SV.Env} {QS : Fl → SV.Env → Prop} (e : sub c c2 = some false) (h : Es (hdGo sub c fs r) ρ QS) : Es (hdGo sub c fs ((c2, oi, ms) :: r)) ρ QS := by
  obtain ⟨fl, ρ1, e1, q⟩ := h
  exact ⟨fl, ρ1, by unfold hdGo; simp only [e]; exact e1, q⟩
theorem b_xf {ok : List Str} {i : Nat} {f c : Str} {ns : List Str} {xs : List D} {d : D} {ρ : SV.Env} {QD : Res D → SV.Env → Prop} (h : ρ[i]? = some (some (.xc c ns xs))) (hc : c ∈ ok) (hl : (ns.zip xs).lookup f = some d) (q : QD (.ok d) ρ) : Ev (mXf ok i f) ρ QD := by
  refine ⟨_, _, ?_, q⟩
  unfold mXf
  rw [h]
  simp only
  rw [if_pos hc]
  simp only [hl]
end LAWP
end
section
set_option Elab.async false
set_option linter.all false
set_option autoImplicit false
set_option maxRecDepth 100000
set_option maxHeartbeats 0
set_option pp.maxSteps 400
namespace LAWP
open PySem PySem.Spec L2 SV LAWM
/-! ### texts of lawful signs -/
theorem sk_app {a b : Str} (h1 : PyData.strOk a = true) (h2 : PyData.strOk b = true) : PyData.strOk (a ++ b) = true := by
  unfold PyData.strOk at *
  rw [show (a ++ b).cps = a.cps ++ b.cps from rfl, Array.all_append, h1, h2]
  rfl
theorem sk_of (s : String) : PyData.strOk (Str.ofString s) = true := by
  unfold PyData.strOk
  rw [Str.ofString_eq_toList]
  simp only [List.all_toArray, List.all_map, List.all_eq_true, Function.comp]
  intro c _
  have h := c.valid
  simp only [decide_eq_true_eq]
  show c.val.toNat < 0x110000
  rcases h with h | ⟨_, h⟩
  · exact Nat.lt_trans h (by decide)
  · exact h
theorem sk_from : ∀ {ts : List Str} {k : Nat} {acc : Str}, (∀ t ∈ ts, PyData.strOk t = true) → PyData.strOk acc = true → PyData.strOk (textFrom k acc ts) = true
  | [], _, _, _, h => h
  | t :: ts, k, acc, ht, h => by
    unfold textFrom
    exact sk_from (fun x hx => ht x (by simp [hx])) (sk_app (sk_app h (sk_of _)) (ht t (by simp)))
theorem sk_join : ∀ {ts : List Str} {sep : Str}, (∀ t ∈ ts, PyData.strOk t = true) → PyData.strOk sep = true → PyData.strOk (Str.join sep ts) = true
  | [], _, _, _ => by show PyData.strOk Str.empty = true; decide +kernel
  | [x], _, ht, _ => ht x (by simp)
  | x :: y :: r, sep, ht, h => by
    show PyData.strOk (x ++ sep ++ Str.join sep (y :: r)) = true
    exact sk_app (sk_app (ht x (by simp)) h) (sk_join (fun z hz => ht z (by simp [hz])) h)
theorem sk_list {ts : List Str} (h : ∀ t ∈ ts, PyData.strOk t = true) : PyData.strOk (listText ts) = true := sk_app (sk_from h (sk_of _)) (sk_of _)
theorem sk_tup {ts : List Str} (h : ∀ t ∈ ts, PyData.strOk t = true) : PyData.strOk (tupleText ts) = true := sk_app (sk_app (sk_of _) (sk_join h (sk_of _))) (sk_of _)
/-! ### things that are compared and shown -/
def strP (x : Str) : Bool := PyData.strOk x && (PyData.strOk (reprText x) && (x.cps.toList.all (fun c => decide (c < 16 ^ 8)) && decide (x.cps.size ≤ 20)))
mutual
def pk : D → Bool
  | .non => true
  | .bl _ => true
  | .int i => decide (i.natAbs < 10 ^ 22)
  | .str x => strP x
  | .tup xs => pks xs
  | .lst xs => pks xs
  | .ol xs => pks xs
  | _ => false
def pks : List D → Bool
  | [] => true
  | x :: xs => pk x && pks xs
end
mutual
def dpt : D → Nat
  | .tup xs => dpts xs + 1
  | .lst xs => dpts xs + 1
  | .ol xs => dpts xs + 1
  | _ => 0
def dpts : List D → Nat
  | [] => 0
  | x :: xs => max (dpt x) (dpts xs)
end
mutual
def siz : D → Nat
  | .int _ => 75
  | .str _ => 20
  | .tup xs => sizs xs
  | .lst xs => sizs xs
  | .ol xs => sizs xs
  | _ => 0
def sizs : List D → Nat
  | [] => 0
  | x :: xs => siz x + 1 + sizs xs
end
structure Pk (d : D) (p : PyData) : Prop where
  py : d.py = some p
  lay : p.canLay0 = true
  dp : p.depth = dpt d
  eq : PyData.eqv p p = true
  sh : p.showable = true
  lv : p.leavesShort 24 = true
  wt : p.weight ≤ siz d
  sk : PyData.strOk p.shown = true
structure Pks (ds : List D) (ps : List PyData) : Prop where
  py : D.pys ds = some ps
  lay : PyData.canLayAll0 ps = true
  dp : PyData.depthAll ps = dpts ds
  eq : PyData.eqvAll ps ps = true
  sh : PyData.showableAll ps = true
  lv : PyData.leavesShortAll 24 ps = true
  wt : PyData.weightAll ps ≤ sizs ds
  sk : ∀ t ∈ PyData.shownAll ps, PyData.strOk t = true
theorem Pks.tup {ds : List D} {ps : List PyData} (h : Pks ds ps) : Pk (.tup ds) (.tuple ps) := ⟨by simp [D.py, h.py], by simpa [PyData.canLay0] using h.lay, by simp [PyData.depth, dpt, h.dp], by simpa [PyData.eqv] using h.eq, by simpa [PyData.showable] using h.sh, by simpa [PyData.leavesShort] using h.lv, by simpa [PyData.weight, siz] using h.wt, by simpa [PyData.shown] using sk_tup h.sk⟩
theorem Pks.lst {ds : List D} {ps : List PyData} (h : Pks ds ps) : Pk (.lst ds) (.list ps) := ⟨by simp [D.py, h.py], by simpa [PyData.canLay0] using h.lay, by simp [PyData.depth, dpt, h.dp], by simpa [PyData.eqv] using h.eq, by simpa [PyData.showable] using h.sh, by simpa [PyData.leavesShort] using h.lv, by simpa [PyData.weight, siz] using h.wt, by simpa [PyData.shown] using sk_list h.sk⟩
theorem Pks.ol {ds : List D} {ps : List PyData} (h : Pks ds ps) : Pk (.ol ds) (.list ps) := ⟨by simp [D.py, h.py], by simpa [PyData.canLay0] using h.lay, by simp [PyData.depth, dpt, h.dp], by simpa [PyData.eqv] using h.eq, by simpa [PyData.showable] using h.sh, by simpa [PyData.leavesShort] using h.lv, by simpa [PyData.weight, siz] using h.wt, by simpa [PyData.shown] using sk_list h.sk⟩
theorem int_short {i : Int} (h : i.natAbs < 10 ^ 22) : (PyData.shown (.int i)).length ≤ 24 := by
  have e := int_text_length_le10 (k := 22) (by decide) h
  show (Str.ofString (toString i)).length ≤ 24
  rw [ofString_length]
  omega
theorem pk_int {i : Int} (h : i.natAbs < 10 ^ 22) : Pk (.int i) (.int i) := by
  have h2 : i.natAbs.log2 < 74 := by
    rcases Nat.eq_zero_or_pos i.natAbs with z | z
    · rw [z]; decide
    · exact (Nat.log2_lt (by omega)).mpr (Nat.lt_of_lt_of_le h (by decide))
  refine ⟨rfl, rfl, rfl, by simp [PyData.eqv], by simp [PyData.showable]; omega, by simp only [PyData.leavesShort, decide_eq_true_eq]; exact int_short h, ?_, ?_⟩
  · simp only [PyData.weight, siz]
    split <;> omega
  · simp only [PyData.shown]; exact sk_of _
mutual
theorem pk_ok : ∀ (d : D), pk d = true → ∃ p, Pk d p
  | .non, _ => ⟨.none, rfl, rfl, rfl, rfl, rfl, rfl, Nat.le_refl _, by decide +kernel⟩
  | .bl b, _ => ⟨.bool b, rfl, rfl, rfl, by cases b <;> rfl, rfl, rfl, Nat.le_refl _, by cases b <;> decide +kernel⟩
  | .int i, h => ⟨.int i, pk_int (by simpa [pk] using h)⟩
  | .str x, h => by
    have h : strP x = true := h
    unfold strP at h
    obtain ⟨h1, h⟩ := Bool.and_eq_true_iff.mp h
    obtain ⟨h2, h⟩ := Bool.and_eq_true_iff.mp h
    obtain ⟨h3, h4⟩ := Bool.and_eq_true_iff.mp h
    exact ⟨.str x, rfl, by simpa [PyData.canLay0] using h1, rfl, by simp [PyData.eqv], rfl, by simpa [PyData.leavesShort] using h3, by simpa [PyData.weight, siz] using h4, by simpa [PyData.shown] using h2⟩
  | .tup xs, h => let ⟨ps, q⟩ := pks_ok xs h; ⟨_, q.tup⟩
  | .lst xs, h => let ⟨ps, q⟩ := pks_ok xs h; ⟨_, q.lst⟩
  | .ol xs, h => let ⟨ps, q⟩ := pks_ok xs h; ⟨_, q.ol⟩
  | .fz _, h => by simp [pk] at h
  | .dk _ _, h => by simp [pk] at h
  | .ins _ _ _, h => by simp [pk] at h
  | .od _ _, h => by simp [pk] at h
  | .oi _ _ _, h => by simp [pk] at h
  | .sl _, h => by simp [pk] at h
  | .xc _ _ _, h => by simp [pk] at h
  | .rg _ _, h => by simp [pk] at h
theorem pks_ok : ∀ (ds : List D), pks ds = true → ∃ ps, Pks ds ps
  | [], _ => ⟨[], rfl, rfl, rfl, rfl, rfl, rfl, Nat.le_refl _, fun t ht => by simp [PyData.shownAll] at ht⟩
  | d :: ds, h => by
    obtain ⟨h1, h2⟩ := Bool.and_eq_true_iff.mp (show (pk d && pks ds) = true from h)
    obtain ⟨p, a⟩ := pk_ok d h1
    obtain ⟨ps, b⟩ := pks_ok ds h2
    refine ⟨p :: ps, by simp [D.pys, a.py, b.py], by simp [PyData.canLayAll0, a.lay, b.lay], by simp [PyData.depthAll, dpts, a.dp, b.dp], by simp [PyData.eqvAll, a.eq, b.eq], by simp [PyData.showableAll, a.sh, b.sh], by simp [PyData.leavesShortAll, a.lv, b.lv], ?_, ?_⟩
    · have := a.wt
      have := b.wt
      simp only [PyData.weightAll, sizs]
      omega
    · intro t ht
      simp only [PyData.shownAll, List.mem_cons] at ht
      rcases ht with rfl | ht
      · exact a.sk
      · exact b.sk t ht
end
mutual
theorem py_frz : ∀ d : D, d.frz.py = d.py
  | .ol ds => by simp only [D.frz, D.py, pys_frzs ds]
  | .od _ _ => rfl
  | .oi _ _ _ => rfl
  | .non => rfl
  | .bl _ => rfl
  | .int _ => rfl
  | .str _ => rfl
  | .tup _ => rfl
  | .lst _ => rfl
  | .fz _ => rfl
  | .dk _ _ => rfl
  | .ins _ _ _ => rfl
  | .sl _ => rfl
  | .xc _ _ _ => rfl
  | .rg _ _ => rfl
  | .xv _ _ _ => rfl
  | .xw _ => rfl
theorem pys_frzs : ∀ ds : List D, D.pys (D.frzs ds) = D.pys ds
  | [] => rfl
  | d :: ds => by simp only [D.frzs, D.pys, py_frz d, pys_frzs ds]
end
/-- what is the same for == -/
theorem gEq_self {neg : Bool} {d e : D} (h : pk d = true) (hd : dpt d ≤ 64) (he : e.py = d.py) : gEq neg d e = some (.bl (!neg)) := by
  obtain ⟨p, a⟩ := pk_ok d h
  have s : SeqAt.shaped p = true := by unfold SeqAt.shaped; rw [a.lay, a.dp]; simp [hd]
  unfold gEq
  rw [he, a.py]
  simp only [s, and_self, if_true, a.eq]
  cases neg <;> rfl
def dsp : D → Bool
  | .tup _ => true | .lst _ => true | .ol _ => true | _ => false
/-- what is shown of a thing: a text that is like itself -/
theorem gRepr_ok {d : D} (h : pk d = true) (hd : dpt d ≤ 64) (hs : siz d ≤ 600000) (k : dsp d = true) : ∃ S : Str, PyData.strOk S = true ∧ ∀ e : D, e.py = d.py → gRepr e = some (.str S) := by
  obtain ⟨p, a⟩ := pk_ok d h
  have s : SeqAt.shaped p = true := by unfold SeqAt.shaped; rw [a.lay, a.dp]; simp [hd]
  have l : p.shown.length ≤ sizeLine := by
    have z := PyData.shown_le 24 (by decide) p a.lv
    have w := a.wt
    rw [show sizeLine = 16777216 from sizeLine_eq]
    omega
  have di : PyProof.Rows.isDisplay p = true := by
    have z := a.py
    cases d <;> first | (simp only [D.py] at z; split at z <;> first | (cases z; rfl) | cases z) | cases k
  refine ⟨p.shown, a.sk, fun e he => ?_⟩
  unfold gRepr
  rw [he, a.py]
  simp only [okRep, s, di, a.sh, l, decide_true, Bool.and_self, if_true]
theorem gEq_str {neg : Bool} {S : Str} (h : PyData.strOk S = true) : gEq neg (.str S) (.str S) = some (.bl (!neg)) := by
  unfold gEq
  cases neg <;> simp [D.py, SeqAt.shaped, PyData.canLay0, PyData.depth, h, PyData.eqv]
end LAWP
end
section
set_option Elab.async false
set_option linter.all false
set_option autoImplicit false
set_option maxRecDepth 100000
set_option maxHeartbeats 0
set_option pp.maxSteps 400
namespace LAWP
open PySem PySem.Spec L2 SV LAWM
theorem lstOf_l {ds : List D} {ρ : SV.Env} {QD : Res D → SV.Env → Prop} (g : ∀ d ∈ ds, gd d = true) (q : QD (.ok (.ol ds)) ρ) : Ev (fLstOf (.lst ds)) ρ QD := by
  refine ⟨_, _, ?_, q⟩
  unfold fLstOf bnd fItems
  simp [dr, D.seq, plain_gd g, SV.ret]
theorem cut_l {ds : List D} {lo hi : Option Int} {ρ : SV.Env} {QD : Res D → SV.Env → Prop} (g : ∀ d ∈ ds, gd d = true) (q : QD (.ok (.ol (SV.cut ds lo hi))) ρ) : Ev (fCut (.lst ds) lo hi) ρ QD := by
  refine ⟨_, _, ?_, q⟩
  unfold fCut bnd fItems
  simp [dr, D.seq, plain_gd g, SV.ret]
theorem add_lf {A B : List D} {ρ : SV.Env} {QD : Res D → SV.Env → Prop} (ga : ∀ d ∈ A, gd d = true) (gb : ∀ d ∈ B, gd d = true) (hl : A.length + B.length ≤ 16777216) (q : QD (.ok (.ol (A ++ B))) ρ) : Ev (fAddA (.lst A) (.ol B)) ρ QD := by
  refine ⟨_, _, ?_, q⟩
  simp [fAddA, fLs, bnd, SV.ret, dr, frzs_gd gb, hl]
theorem b_chain {f g : D → D → M D} {ma mb mc : M D} {ρ : SV.Env} {QD : Res D → SV.Env → Prop} (h : Ev ma ρ (onOk QD fun x ρ1 => Ev mb ρ1 (onOk QD fun y ρ2 => Ev (f x y) ρ2 (onOk QD fun k ρ3 => ∃ b, k = .bl b ∧ Ev (if b = true then (if y.sv.isSome = true then bnd mc fun z => g y z else stuck) else SV.ret (.bl false)) ρ3 QD)))) : Ev (mChain f g ma mb mc) ρ QD := by
  unfold mChain
  rw [ev_bnd]
  refine h.imp fun r ρ1 q => ?_
  cases r with
  | exc c fs => exact q
  | ok x =>
    rw [onOk_ok] at *
    rw [ev_bnd]
    refine q.imp fun r ρ2 q => ?_
    cases r with
    | exc c fs => exact q
    | ok y =>
      rw [onOk_ok] at *
      rw [ev_bnd]
      refine q.imp fun r ρ3 q => ?_
      cases r with
      | exc c fs => exact q
      | ok k =>
        obtain ⟨b, rfl, q⟩ := q
        exact q
theorem seq_asc (a b c : SM) : mSeq (mSeq a b) c = mSeq a (mSeq b c) := by
  funext ρ
  unfold mSeq
  rcases a ρ with _ | ⟨fl, ρ1⟩
  · rfl
  · cases fl <;> rfl
def fD : Option Int → D
  | none => .non
  | some i => .int i
def whB (lo hi : Option Int) : D → Bool
  | .int i => (match lo with
    | some l => decide (l ≤ i)
    | none => true) && (match hi with
    | some l => decide (i ≤ l)
    | none => true)
  | _ => false
def whole (d : D) : Bool := whB (some 0) (some 99) d
local macro_rules
  | `(tactic| solve | $a | $b | $c | $d | $e) => `(tactic| (repeat' (first
      | (apply_rules (transparency := .reducible) (symm := false) (exfalso := false) (maxDepth := 1000) only [@b_ok, @b_okS, @b_nx, @b_seq, @b_op, @b_ret, @b_cons, @b_nil, @b_CB, @b_C1, @b_set, @b_tb, @b_bl, @b_if, @b_end, @b_preps, @b_prepF, @b_preps0, @b_call, @b_owns, @b_owns0])
      | (apply_rules (transparency := .reducible) (symm := false) (exfalso := false) (maxDepth := 1000) only [@b_nret, @b_nexc, @b_exc, @b_excS, @b_nbrk, @b_nct, @b_mret, @b_expr, @b_setI, @b_un, @b_C2, @b_tru, @b_and, @b_or, @b_not, @b_notT, @b_andV, @b_orV, @b_blE, @b_ifE, @b_add, @b_neg, @b_aug, @b_prepT, @b_frzs, @b_frzs0, @b_tup, @b_lst, @b_isN, @b_notN, @b_isi, @b_raise, @b_ownS, @b_bnd, @b_iter, @b_fseq, @b_mfor, @b_enum, @b_callK, @b_sl, @b_part, @b_pi])
      | ((with_reducible apply b_var); rfl; (focus (first | rfl | assumption)); (focus (first | rfl | assumption)))
      | ((with_reducible apply b_varO); rfl; (focus (first | rfl | assumption)))
      | ((with_reducible apply b_st); exact Nat.le_of_ble_eq_true rfl)
      | ((with_reducible apply b_mvS); rfl; (focus (first | rfl | assumption)))
      | ((with_reducible apply b_mv); (focus (first | assumption | (intro _ z; cases z; done))))
      | ((with_reducible apply b_frzS); rfl; (focus (first | rfl | assumption)))
      | ((with_reducible apply b_frzG); focus (first | assumption | rfl))
      | ((with_reducible apply b_frz); (focus (first | assumption | (intro _ z; cases z; done))))
      | ((with_reducible apply b_own); (focus (first | assumption | (intro _ z; cases z; done))))
      | ((with_reducible apply b_II); focus (first | rfl | $c))
      | ((with_reducible apply b_look2); (focus (first | rfl | exact dr_gd (by assumption))); (focus (first | rfl | exact dr_gd (by assumption))); focus (first | exact gEqF | exact gNeF | $a | rfl))
      | ((with_reducible apply b_look); (focus (first | rfl | exact dr_gd (by assumption))); focus (first | $a | rfl))
      | ((with_reducible apply b_trv); (focus (first | rfl | exact dr_gd (by assumption))); rfl)
      | ((with_reducible apply b_io); rfl)
      | ((with_reducible apply b_lim); exact Nat.le_of_ble_eq_true rfl)
      | ((with_reducible apply b_setD); rfl)
      | ((with_reducible apply b_setK); rfl; rfl)
      | ((with_reducible apply b_LM); rfl)
      | ((with_reducible apply b_ifT); focus (first | rfl | $b))
      | ((with_reducible apply b_ifF); focus (first | rfl | $b))
      | ((with_reducible apply b_eT); focus (first | rfl | $b))
      | ((with_reducible apply b_eF); focus (first | rfl | $b))
      | ((with_reducible apply b_rng1); focus (first | (simp [okR]; done) | (simp [okR]; omega)))
      | ((with_reducible apply b_rng2); focus (first | (simp [okR]; done) | (simp [okR]; omega)))
      | ((with_reducible apply b_back); focus (first | rfl | exact cb_f rfl rfl))
      | ((with_reducible apply b_seqF); rfl)
      | ((with_reducible apply b_LMr); rfl; focus (refine lApp ?_; first | (simp; done) | (simp; omega) | $e))
      | ((with_reducible apply b_rz); exact ⟨rfl, Nat.le_of_ble_eq_true rfl, Nat.le_of_ble_eq_true rfl⟩)
      | $d
      | fail)))
theorem whole_g {d : D} {lo hi : Option Int} {Q : Res D → List D → Prop} (hd : gd d = true) (k : Q (.ok (.bl (whB lo hi d))) []) : Ef f_is_whole [d, fD lo, fD hi] Q := by
  refine ef_fun ?_
  show Es m_is_whole [some d, some (fD lo), some (fD hi)] _
  unfold m_is_whole
  have o := gd_own hd
  have ox := gd_isX hd
  have lg : gd (fD lo) = true := by cases lo <;> rfl
  have lw := gd_own lg
  have lx := gd_isX lg
  have hg : gd (fD hi) = true := by cases hi <;> rfl
  have hw := gd_own hg
  have hx := gd_isX hg
  cases d with
  | int i =>
    cases lo with
    | none =>
      cases hi with
      | none =>
        show Es _ [some (D.int i), some D.non, some D.non] _
        solve | fail | (first | (simp; done) | (simp; omega)) | (first | (simp; done) | (simp; omega)) | fail | fail
        exact ⟨_, rfl, k⟩
      | some b =>
        show Es _ [some (D.int i), some D.non, some (D.int b)] _
        solve | fail | (first | (simp; done) | (simp; omega)) | (first | (simp; done) | (simp; omega)) | fail | fail
        exact ⟨_, rfl, by simpa [whB] using k⟩
    | some a =>
      by_cases ha : i < a
      · have e : whB (some a) hi (.int i) = false := by simp [whB]; intro; omega
        rw [e] at k
        show Es _ [some (D.int i), some (D.int a), some (fD hi)] _
        solve | fail | (first | (simp; done) | (simp; omega)) | (first | (simp; done) | (simp; omega)) | fail | fail
        exact ⟨_, rfl, k⟩
      · have ha2 : a ≤ i := by omega
        cases hi with
        | none =>
          show Es _ [some (D.int i), some (D.int a), some D.non] _
          solve | fail | (first | (simp; done) | (simp; omega)) | (first | (simp; done) | (simp; omega)) | fail | fail
          exact ⟨_, rfl, by simpa [whB, ha2] using k⟩
        | some b =>
          show Es _ [some (D.int i), some (D.int a), some (D.int b)] _
          solve | fail | (first | (simp; done) | (simp; omega)) | (first | (simp; done) | (simp; omega)) | fail | fail
          exact ⟨_, rfl, by simpa [whB, ha2] using k⟩
  | ol xs => cases hd
  | fz xs => cases hd
  | od ks xs => cases hd
  | oi c ns xs => cases hd
  | ins c ns xs => cases hd
  | sl i => cases hd
  | xc c ns xs => cases hd
  | xv c ns xs => cases hd
  | xw c => cases hd
  | rg a b => cases hd
  | _ =>
    solve | fail | (first | (simp; done) | (simp; omega)) | (first | (simp; done) | (simp; omega)) | fail | fail
    exact ⟨_, rfl, k⟩
theorem whole_k {d : D} {Q : Res D → List D → Prop} (hd : gd d = true) (k : Q (.ok (.bl (whole d))) []) : Ef f_is_whole [d, .int 0, .int 99] Q := whole_g (lo := some 0) (hi := some 99) hd k
def bad : List D → Nat → Option Nat
  | [], _ => none
  | d :: ds, i => if whole d = true then bad ds (i + 1) else some i
def itemsOf : D → Option (List D)
  | .lst ds => some ds
  | .tup ds => some ds
  | _ => none
def Th (s : D) : Prop := gd s = true ∧ ∀ ds, itemsOf s = some ds → ∀ d ∈ ds, gd d = true
theorem gIx_lat {ds : List D} {i : Nat} {d : D} (h : ds[i]? = some d) (g : gd d = true) : gIx (.lst ds) (.int (i : Nat)) = some d := by
  have hl : i < ds.length := (List.getElem?_eq_some_iff.mp h).1
  have e : ds[i] = d := by rw [List.getElem?_eq_getElem hl] at h; exact Option.some.inj h
  simp [gIx, D.seq, atI, ixN, hl, e, gd_own g]
def Rw (xs : List Int) : Prop := ∀ x ∈ xs, 0 ≤ x ∧ x < 100
theorem Rw.app {xs : List Int} {v : Int} (r : Rw xs) (h0 : 0 ≤ v) (h1 : v < 100) : Rw (xs ++ [v]) := fun x hx => by
  rcases List.mem_append.mp hx with z | z
  · exact r x z
  · rw [List.mem_singleton.mp z]; exact ⟨h0, h1⟩
theorem bad_none : ∀ {ds : List D} {i : Nat}, bad ds i = none → ∃ xs : List Int, ds = xs.map D.int ∧ Rw xs
  | [], _, _ => ⟨[], rfl, fun x hx => by simp at hx⟩
  | d :: ds, i, h => by
    unfold bad at h
    split at h
    · rename_i hw
      obtain ⟨xs, rfl, r⟩ := bad_none h
      cases d with
      | int x =>
        have hx : 0 ≤ x ∧ x ≤ 99 := by simpa [whole, whB] using hw
        exact ⟨x :: xs, rfl, fun y hy => by
          rcases List.mem_cons.mp hy with z | z
          · rw [z]; omega
          · exact r y z⟩
      | _ => cases hw
    · cases h
theorem bad_ok : ∀ {xs : List Int} {i : Nat}, Rw xs → bad (xs.map D.int) i = none
  | [], _, _ => rfl
  | x :: xs, i, r => by
    have hx := r x (by simp)
    have hw : whole (.int x) = true := by simp [whole, whB]; omega
    simp only [List.map_cons, bad, hw, if_true]
    exact bad_ok fun y hy => r y (by simp [hy])
theorem gIx_tat {ds : List D} {i : Nat} {d : D} (h : ds[i]? = some d) (g : gd d = true) : gIx (.tup ds) (.int (i : Nat)) = some d := by
  have hl : i < ds.length := (List.getElem?_eq_some_iff.mp h).1
  have e : ds[i] = d := by rw [List.getElem?_eq_getElem hl] at h; exact Option.some.inj h
  simp [gIx, D.seq, atI, ixN, hl, e, gd_own g]
theorem lstOf_t {ds : List D} {ρ : SV.Env} {QD : Res D → SV.Env → Prop} (g : ∀ d ∈ ds, gd d = true) (q : QD (.ok (.ol ds)) ρ) : Ev (fLstOf (.tup ds)) ρ QD := by
  refine ⟨_, _, ?_, q⟩
  unfold fLstOf bnd fItems
  simp [dr, D.seq, plain_gd g, SV.ret]
def pourF (m : Int) (d : D) : Option Str := match itemsOf d with
  | some [a, b] => if whB (some 0) (some (m - 1)) a = false then some "mark" else if whB (some 0) (some 99) b = false then some "colour" else none
  | _ => some "pour"
def sD : Option Str → D
  | none => .non
  | some x => .str x
theorem gIx0 {d a b : D} (h : itemsOf d = some [a, b]) (g : gd a = true) : gIx d (.int 0) = some a := by
  cases d <;> first | (cases h; first | exact gIx_lat (i := 0) rfl g | exact gIx_tat (i := 0) rfl g) | cases h
theorem gIx1 {d a b : D} (h : itemsOf d = some [a, b]) (g : gd b = true) : gIx d (.int 1) = some b := by
  cases d <;> first | (cases h; first | exact gIx_lat (i := 1) rfl g | exact gIx_tat (i := 1) rfl g) | cases h
theorem pfault_k {d : D} {m : Int} {Q : Res D → List D → Prop} (th : Th d) (k : Q (.ok (sD (pourF m d))) []) : Ef f_pour_fault [.int m, d] Q := by
  obtain ⟨g, gi⟩ := th
  refine ef_fun ?_
  show Es m_pour_fault [some (.int m), some d] _
  unfold m_pour_fault
  have o := gd_own g
  have ox := gd_isX g
  have two : ∀ a b, itemsOf d = some [a, b] → gd a = true ∧ gd b = true := fun a b h => ⟨gi _ h a (by simp), gi _ h b (by simp)⟩
  have key : ∀ (a b : D), itemsOf d = some [a, b] → pourF m d = (if whB (some 0) (some (m - 1)) a = false then some (Str.ofString "mark") else if whB (some 0) (some 99) b = false then some (Str.ofString "colour") else (none : Option Str)) := fun a b h => by unfold pourF; rw [h]
  cases d with
  | lst ds =>
    rcases ds with _ | ⟨a, _ | ⟨b, _ | ⟨c, r⟩⟩⟩
    · solve | exact gLen_l | (first | (simp; done) | (simp; omega)) | (first | (simp; done) | (simp; omega)) | fail | fail
      exact ⟨_, rfl, k⟩
    · solve | exact gLen_l | (first | (simp; done) | (simp; omega)) | (first | (simp; done) | (simp; omega)) | fail | fail
      exact ⟨_, rfl, k⟩
    · have e := key a b rfl
      obtain ⟨ga, gb⟩ := two a b rfl
      have i0 : gIx (.lst [a, b]) (.int 0) = some a := gIx0 rfl ga
      have i1 : gIx (.lst [a, b]) (.int 1) = some b := gIx1 rfl gb
      have na := gd_nsl ga
      have nb := gd_nsl gb
      cases ha : whB (some 0) (some (m - 1)) a with
      | false =>
        rw [e, if_pos ha] at k
        solve | (first | exact gLen_l | exact i0 | exact i1) | (first | (simp; done) | (simp [ha]; done)) | (first | (simp; done) | (simp; omega)) | refine whole_g (lo := some 0) (hi := some _) ga ?_ | fail
        exact ⟨_, rfl, k⟩
      | true =>
        rw [if_neg (by simp [ha])] at e
        cases hb : whB (some 0) (some 99) b with
        | false =>
          rw [e, if_pos hb] at k
          solve | (first | exact gLen_l | exact i0 | exact i1) | (first | (simp; done) | (simp [ha]; done) | (simp [hb]; done)) | (first | (simp; done) | (simp; omega)) | (first | refine whole_g (lo := some 0) (hi := some _) ga ?_ | refine whole_g (lo := some 0) (hi := some _) gb ?_) | fail
          exact ⟨_, rfl, k⟩
        | true =>
          rw [e, if_neg (by simp [hb])] at k
          solve | (first | exact gLen_l | exact i0 | exact i1) | (first | (simp; done) | (simp [ha]; done) | (simp [hb]; done)) | (first | (simp; done) | (simp; omega)) | (first | refine whole_g (lo := some 0) (hi := some _) ga ?_ | refine whole_g (lo := some 0) (hi := some _) gb ?_) | fail
          exact ⟨_, rfl, k⟩
    · solve | exact gLen_l | (first | (simp; done) | (simp; omega)) | (first | (simp; done) | (simp; omega)) | fail | fail
      exact ⟨_, rfl, k⟩
  | tup ds =>
    rcases ds with _ | ⟨a, _ | ⟨b, _ | ⟨c, r⟩⟩⟩
    · solve | exact gLen_t | (first | (simp; done) | (simp; omega)) | (first | (simp; done) | (simp; omega)) | fail | fail
      exact ⟨_, rfl, k⟩
    · solve | exact gLen_t | (first | (simp; done) | (simp; omega)) | (first | (simp; done) | (simp; omega)) | fail | fail
      exact ⟨_, rfl, k⟩
    · have e := key a b rfl
      obtain ⟨ga, gb⟩ := two a b rfl
      have i0 : gIx (.tup [a, b]) (.int 0) = some a := gIx0 rfl ga
      have i1 : gIx (.tup [a, b]) (.int 1) = some b := gIx1 rfl gb
      have na := gd_nsl ga
      have nb := gd_nsl gb
      cases ha : whB (some 0) (some (m - 1)) a with
      | false =>
        rw [e, if_pos ha] at k
        solve | (first | exact gLen_t | exact i0 | exact i1) | (first | (simp; done) | (simp [ha]; done)) | (first | (simp; done) | (simp; omega)) | refine whole_g (lo := some 0) (hi := some _) ga ?_ | fail
        exact ⟨_, rfl, k⟩
      | true =>
        rw [if_neg (by simp [ha])] at e
        cases hb : whB (some 0) (some 99) b with
        | false =>
          rw [e, if_pos hb] at k
          solve | (first | exact gLen_t | exact i0 | exact i1) | (first | (simp; done) | (simp [ha]; done) | (simp [hb]; done)) | (first | (simp; done) | (simp; omega)) | (first | refine whole_g (lo := some 0) (hi := some _) ga ?_ | refine whole_g (lo := some 0) (hi := some _) gb ?_) | fail
          exact ⟨_, rfl, k⟩
        | true =>
          rw [e, if_neg (by simp [hb])] at k
          solve | (first | exact gLen_t | exact i0 | exact i1) | (first | (simp; done) | (simp [ha]; done) | (simp [hb]; done)) | (first | (simp; done) | (simp; omega)) | (first | refine whole_g (lo := some 0) (hi := some _) ga ?_ | refine whole_g (lo := some 0) (hi := some _) gb ?_) | fail
          exact ⟨_, rfl, k⟩
    · solve | exact gLen_t | (first | (simp; done) | (simp; omega)) | (first | (simp; done) | (simp; omega)) | fail | fail
      exact ⟨_, rfl, k⟩
  | ol xs => cases g
  | fz xs => cases g
  | od ks xs => cases g
  | oi c ns xs => cases g
  | ins c ns xs => cases g
  | sl i => cases g
  | xc c ns xs => cases g
  | xv c ns xs => cases g
  | xw c => cases g
  | rg a b => cases g
  | _ =>
    solve | fail | (first | (simp; done) | (simp; omega)) | (first | (simp; done) | (simp; omega)) | fail | fail
    exact ⟨_, rfl, k⟩
end LAWP
end
section
set_option Elab.async false
set_option linter.all false
set_option autoImplicit false
set_option maxRecDepth 100000
set_option maxHeartbeats 0
set_option pp.maxSteps 400
namespace LAWP
open PySem PySem.Spec L2 SV LAWM
def mk4 (d : D) : Bool := whB (some 1) (some 4) d
local macro_rules
  | `(tactic| solve | $a | $b | $c | $d | $e) => `(tactic| (repeat' (first
      | (apply_rules (transparency := .reducible) (symm := false) (exfalso := false) (maxDepth := 1000) only [@b_ok, @b_okS, @b_nx, @b_seq, @b_op, @b_ret, @b_cons, @b_nil, @b_CB, @b_C1, @b_set, @b_tb, @b_bl, @b_if, @b_end, @b_preps, @b_prepF, @b_preps0, @b_call, @b_owns, @b_owns0])
      | (apply_rules (transparency := .reducible) (symm := false) (exfalso := false) (maxDepth := 1000) only [@b_nret, @b_nexc, @b_exc, @b_excS, @b_nbrk, @b_nct, @b_mret, @b_expr, @b_setI, @b_un, @b_C2, @b_tru, @b_and, @b_or, @b_not, @b_notT, @b_andV, @b_orV, @b_blE, @b_ifE, @b_add, @b_neg, @b_aug, @b_prepT, @b_frzs, @b_frzs0, @b_tup, @b_lst, @b_isN, @b_notN, @b_isi, @b_raise, @b_ownS, @b_bnd, @b_iter, @b_fseq, @b_mfor, @b_enum, @b_callK, @b_sl, @b_part, @b_pi])
      | ((with_reducible apply b_var); rfl; (focus (first | rfl | assumption)); (focus (first | rfl | assumption)))
      | ((with_reducible apply b_varO); rfl; (focus (first | rfl | assumption)))
      | ((with_reducible apply b_st); exact Nat.le_of_ble_eq_true rfl)
      | ((with_reducible apply b_mvS); rfl; (focus (first | rfl | assumption)))
      | ((with_reducible apply b_mv); (focus (first | assumption | (intro _ z; cases z; done))))
      | ((with_reducible apply b_frzS); rfl; (focus (first | rfl | assumption)))
      | ((with_reducible apply b_frzG); focus (first | assumption | rfl))
      | ((with_reducible apply b_frz); (focus (first | assumption | (intro _ z; cases z; done))))
      | ((with_reducible apply b_own); (focus (first | assumption | (intro _ z; cases z; done))))
      | ((with_reducible apply b_II); focus (first | rfl | $c))
      | ((with_reducible apply b_look2); (focus (first | rfl | exact dr_gd (by assumption))); (focus (first | rfl | exact dr_gd (by assumption))); focus (first | exact gEqF | exact gNeF | $a | rfl))
      | ((with_reducible apply b_look); (focus (first | rfl | exact dr_gd (by assumption))); focus (first | $a | rfl))
      | ((with_reducible apply b_trv); (focus (first | rfl | exact dr_gd (by assumption))); rfl)
      | ((with_reducible apply b_io); rfl)
      | ((with_reducible apply b_lim); exact Nat.le_of_ble_eq_true rfl)
      | ((with_reducible apply b_setD); rfl)
      | ((with_reducible apply b_setK); rfl; rfl)
      | ((with_reducible apply b_LM); rfl)
      | ((with_reducible apply b_ifT); focus (first | rfl | $b))
      | ((with_reducible apply b_ifF); focus (first | rfl | $b))
      | ((with_reducible apply b_eT); focus (first | rfl | $b))
      | ((with_reducible apply b_eF); focus (first | rfl | $b))
      | ((with_reducible apply b_rng1); focus (first | (simp [okR]; done) | (simp [okR]; omega)))
      | ((with_reducible apply b_rng2); focus (first | (simp [okR]; done) | (simp [okR]; omega)))
      | ((with_reducible apply b_back); focus (first | rfl | exact cb_f rfl rfl))
      | ((with_reducible apply b_seqF); rfl)
      | ((with_reducible apply b_LMr); rfl; focus (refine lApp ?_; first | (simp; done) | (simp; omega) | $e))
      | ((with_reducible apply b_rz); exact ⟨rfl, Nat.le_of_ble_eq_true rfl, Nat.le_of_ble_eq_true rfl⟩)
      | $d
      | fail)))
theorem marks_k {d : D} {Q : Res D → List D → Prop} (hd : gd d = true) (k1 : mk4 d = true → Q (.ok d) []) (k2 : mk4 d = false → Q (.exc "BadMarks" [("marks", d)]) []) : Ef f_check_marks [d] Q := by
  refine ef_fun ?_
  show Es m_check_marks [some d] _
  unfold m_check_marks
  have o := gd_own hd
  have ox := gd_isX hd
  have nn := gd_nsl hd
  have wk : ∀ {Q : Res D → List D → Prop}, Q (.ok (.bl (mk4 d))) [] → Ef f_is_whole [d, .int 1, .int 4] Q := fun {Q} k => whole_g (lo := some 1) (hi := some 4) hd k
  cases hw : mk4 d with
  | true =>
    solve | fail | (simp [hw]; done) | (first | (simp; done) | (simp; omega)) | refine wk ?_ | fail
    exact ⟨_, rfl, k1 hw⟩
  | false =>
    solve | fail | (simp [hw]; done) | (first | (simp; done) | (simp; omega)) | refine wk ?_ | fail
    exact ⟨_, rfl, k2 hw⟩
theorem mk4_int {d : D} (h : mk4 d = true) : ∃ m : Int, d = .int m ∧ 1 ≤ m ∧ m ≤ 4 := by
  cases d with
  | int i => exact ⟨i, rfl, by simpa [mk4, whB] using h⟩
  | _ => cases h
def tupO (d : D) : D := match itemsOf d with
  | some ds => .tup ds
  | none => d
theorem tupOf_th {d : D} {ds : List D} {ρ : SV.Env} {QD : Res D → SV.Env → Prop} (h : itemsOf d = some ds) (g : ∀ x ∈ ds, gd x = true) (q : QD (.ok (.tup ds)) ρ) : Ev (fTupOf d) ρ QD := by
  cases d <;> first | (cases h; first | exact tupOf_l g q | exact tupOf_t g q) | cases h
theorem gd_two {x y : Int} : ∀ z ∈ [D.int x, D.int y], gd z = true := fun z hz => by
  rcases List.mem_cons.mp hz with rfl | hz
  · rfl
  · rw [List.mem_singleton.mp hz]; rfl
theorem pour_none {m : Int} {d : D} (h : pourF m d = none) : ∃ a b : Int, itemsOf d = some [.int a, .int b] ∧ 0 ≤ a ∧ a ≤ m - 1 ∧ 0 ≤ b ∧ b ≤ 99 := by
  unfold pourF at h
  split at h
  · rename_i a b e
    split at h
    · cases h
    · rename_i ha
      split at h
      · cases h
      · rename_i hb
        cases a with
        | int i =>
          cases b with
          | int j =>
            refine ⟨i, j, e, ?_⟩
            simp [whB] at ha hb
            omega
          | _ => exact absurd rfl hb
        | _ => exact absurd rfl ha
  · cases h
theorem pfault_n {d : D} {m : Int} {Q : Res D → List D → Prop} (th : Th d) (h : pourF m d = none) (k : Q (.ok .non) []) : Ef f_pour_fault [.int m, d] Q := pfault_k th (by rw [h]; exact k)
theorem pfault_s {d : D} {m : Int} {w : Str} {Q : Res D → List D → Prop} (th : Th d) (h : pourF m d = some w) (k : Q (.ok (.str w)) []) : Ef f_pour_fault [.int m, d] Q := pfault_k th (by rw [h]; exact k)
def Sc (s : D) : Prop := gd s = true ∧ ∀ ds, itemsOf s = some ds → ∀ d ∈ ds, Th d
def scrB (m : Int) : List D → Nat → Option (Nat × Str)
  | [], _ => none
  | d :: ds, i => match pourF m d with
    | some w => some (i, w)
    | none => scrB m ds (i + 1)
def scrF (m : Int) (s : D) : Option (Nat × Str) := match itemsOf s with
  | some ds => if (12 : Int) < ds.length then some (0, "many") else scrB m ds 0
  | none => some (0, "many")
theorem scrB_all {m : Int} : ∀ {ds : List D} {i : Nat}, scrB m ds i = none → ∀ d ∈ ds, pourF m d = none
  | [], _, _, d, hd => by cases hd
  | x :: xs, i, h, d, hd => by
    unfold scrB at h
    split at h
    · cases h
    · rename_i hx
      rcases List.mem_cons.mp hd with rfl | hd
      · exact hx
      · exact scrB_all h d hd
theorem iter_th {s : D} {ds : List D} (h : itemsOf s = some ds) : ∃ b, s.seqF = some (b, ds) := by
  cases s <;> first | (cases h; exact ⟨_, rfl⟩) | cases h
theorem script_loop {s : D} {m : Int} {ds : List D} {Q : Res D → List D → Prop} (sc : Sc s) (hi : itemsOf s = some ds) (hl : ¬ (12 : Int) < ds.length) (k1 : scrB m ds 0 = none → Q (.ok (.tup (ds.map tupO))) []) (k2 : ∀ j w, scrB m ds 0 = some (j, w) → Q (.exc "BadScript" [("index", .int (j : Nat)), ("what", .str w)]) []) (a b c : Option D) :
    Es (forL (tgT [tgN 2, tgN 3]) (mSeq (mSet 4 (mCall [false, false] f_pour_fault [] (mCons (mVar 0) (mCons (mVar 3) mNil)))) (mIf (mTb (mNotN (mVar 4))) (mRaise "BadScript" ["index", "what"] (mCons (mVar 2) (mCons (mVar 4) mNil))) (endS .nx))) (enumF 0 ds)) [some (.int m), some s, a, b, c]
      (onNx (fun fl ρ => ∃ cs, ioGet [false, false] ρ = some cs ∧ match fl with
        | .ret d => Q (.ok d) cs
        | .nx => Q (.ok .non) cs
        | .exc c fs => Q (.exc c fs) cs
        | _ => False) fun _ ρ1 => Es (mRet (mCB fTup (mCons (mLc (mIter (mVar 1)) (tgN 3) (SV.ret true) (mCB fTup (mCons (mVar 3) mNil)) [3]) mNil))) ρ1 (fun fl ρ => ∃ cs, ioGet [false, false] ρ = some cs ∧ match fl with
        | .ret d => Q (.ok d) cs
        | .nx => Q (.ok .non) cs
        | .exc c fs => Q (.exc c fs) cs
        | _ => False)) := by
  obtain ⟨sd, si⟩ := sc
  have th := si ds hi
  have g : ∀ d ∈ ds, gd d = true := fun d hd => (th d hd).1
  have o := gd_own sd
  have ox := gd_isX sd
  refine es_for (fun dsl ρ => ∃ (i : Nat) (rest : List D) (a b c : Option D), dsl = enumF i rest ∧ ρ = [some (.int m), some s, a, b, c] ∧ (∀ d ∈ rest, Th d) ∧ scrB m rest i = scrB m ds 0) ?_ ?_ _ _ ⟨0, ds, a, b, c, rfl, rfl, th, rfl⟩
  · rintro ρ ⟨i, rest, a, b, c, e, rfl, gr, eb⟩
    cases rest with
    | cons r rest => cases e
    | nil =>
      have e0 : scrB m ds 0 = none := eb.symm
      have kk := k1 e0
      have al := scrB_all e0
      obtain ⟨bb, hq⟩ := iter_th hi
      refine b_nx ?_
      show Es _ _ _
      solve | fail | (first | (simp; done) | (simp; omega)) | (first | (simp; done) | (simp; omega)) | fail | fail
      refine ev_lc (fun dsl acc ρ => ∃ (done rest : List D), dsl = rest ∧ acc = done.map tupO ∧ done ++ rest = ds ∧ ρ = [some (.int m), some s, a, none, c]) ?_ ?_ ?_
      · solve | fail | (first | (simp; done) | (simp; omega)) | (first | (simp; done) | (simp; omega)) | fail | fail
        refine b_seqF hq ?_
        solve | fail | (first | (simp; done) | (simp; omega)) | (first | (simp; done) | (simp; omega)) | fail | fail
        exact ⟨⟨[], ds, rfl, rfl, rfl, rfl⟩, by show ds.length ≤ lim; simp [lim]; omega⟩
      · rintro acc ρ ⟨done, rest, e, rfl, hd, rfl⟩
        subst e
        rw [List.append_nil] at hd
        subst hd
        have gt : ∀ x ∈ done.map tupO, gd x = true := fun x hx => by
          obtain ⟨y, hy, rfl⟩ := List.mem_map.mp hx
          obtain ⟨a, b, e, _⟩ := pour_none (al y hy)
          unfold tupO
          rw [e]
          rfl
        solve | fail | (first | (simp; done) | (simp; omega)) | (first | (simp; done) | (simp; omega)) | refine tupOf_g gt ?_ | fail
        exact ⟨_, rfl, kk⟩
      · rintro d dsl acc ρ ⟨done, rest, e, rfl, hd, rfl⟩
        cases rest with
        | nil => cases e
        | cons r rest =>
          cases e
          have hm : d ∈ ds := by rw [← hd]; simp
          obtain ⟨x, y, e, _⟩ := pour_none (al d hm)
          have et : tupO d = .tup [.int x, .int y] := by unfold tupO; rw [e]
          have g0 := g d hm
          have go := gd_own g0
          have gx := gd_isX g0
          refine ⟨_, rfl, b_ret ⟨true, rfl, ?_⟩⟩
          simp only [if_true]
          solve | fail | (first | (simp; done) | (simp; omega)) | (first | (simp; done) | (simp; omega)) | refine tupOf_th e gd_two ?_ | fail
          refine ⟨_, rfl, ?_⟩
          solve | fail | (first | (simp; done) | (simp; omega)) | (first | (simp; done) | (simp; omega)) | fail | fail
          exact ⟨_, rfl, done ++ [d], dsl, rfl, by simp [et], by simpa using hd, rfl⟩
  · rintro d dsl ρ ⟨i, rest, a, b, c, e, rfl, gr, eb⟩
    cases rest with
    | nil => cases e
    | cons r rest =>
      cases e
      refine ⟨_, rfl, ?_⟩
      have tr := gr r (by simp)
      have tg := tr.1
      have go := gd_own tr.1
      have gx := gd_isX tr.1
      cases hp : pourF m r with
      | none =>
        solve | fail | (first | (simp; done) | (simp; omega)) | (first | (simp; done) | (simp; omega)) | refine pfault_n tr hp ?_ | fail
        exact ⟨i + 1, rest, _, _, _, rfl, rfl, fun d hd => gr d (by simp [hd]), by rw [← eb]; simp [scrB, hp]⟩
      | some w =>
        solve | fail | (first | (simp; done) | (simp; omega)) | (first | (simp; done) | (simp; omega)) | refine pfault_s tr hp ?_ | fail
        exact ⟨_, rfl, k2 i w (by rw [← eb]; simp [scrB, hp])⟩
theorem script_k {d s : D} {Q : Res D → List D → Prop} (hd : gd d = true) (sc : Sc s) (k0 : mk4 d = false → Q (.exc "BadMarks" [("marks", d)]) []) (k1 : ∀ m ds, d = .int m → mk4 d = true → itemsOf s = some ds → scrF m s = none → Q (.ok (.tup (ds.map tupO))) []) (k2 : ∀ m j w, d = .int m → mk4 d = true → scrF m s = some (j, w) → Q (.exc "BadScript" [("index", .int (j : Nat)), ("what", .str w)]) []) : Ef f_check_script [d, s] Q := by
  refine ef_fun ?_
  show Es m_check_script [some d, some s, none, none, none] _
  unfold m_check_script
  have o := gd_own hd
  have ox := gd_isX hd
  have g := sc.1
  have po := gd_own g
  have px := gd_isX g
  solve | fail | (first | (simp; done) | (simp; omega)) | (first | (simp; done) | (simp; omega)) | refine marks_k hd (fun hw => ?_) (fun hw => ?_) | fail
  · obtain ⟨m, rfl, m1, m4⟩ := mk4_int hw
    cases s with
    | lst ds =>
      by_cases hl : (12 : Int) < ds.length
      · solve | exact gLen_l | (first | (simp; done) | (simp; omega)) | (first | (simp; done) | (simp; omega)) | fail | fail
        exact ⟨_, rfl, k2 m 0 _ rfl hw (by simp [scrF, itemsOf, hl])⟩
      · solve | exact gLen_l | (first | (simp; done) | (simp; omega)) | (first | (simp; done) | (simp; omega)) | fail | fail
        exact script_loop sc rfl hl (fun e => k1 m ds rfl hw rfl (by simp [scrF, itemsOf, hl, e])) (fun j w e => k2 m j w rfl hw (by simp [scrF, itemsOf, hl, e])) none none none
    | tup ds =>
      by_cases hl : (12 : Int) < ds.length
      · solve | exact gLen_t | (first | (simp; done) | (simp; omega)) | (first | (simp; done) | (simp; omega)) | fail | fail
        exact ⟨_, rfl, k2 m 0 _ rfl hw (by simp [scrF, itemsOf, hl])⟩
      · solve | exact gLen_t | (first | (simp; done) | (simp; omega)) | (first | (simp; done) | (simp; omega)) | fail | fail
        exact script_loop sc rfl hl (fun e => k1 m ds rfl hw rfl (by simp [scrF, itemsOf, hl, e])) (fun j w e => k2 m j w rfl hw (by simp [scrF, itemsOf, hl, e])) none none none
    | ol xs => cases g
    | fz xs => cases g
    | od ks xs => cases g
    | oi c ns xs => cases g
    | ins c ns xs => cases g
    | sl i => cases g
    | xc c ns xs => cases g
    | xv c ns xs => cases g
    | xw c => cases g
    | rg a b => cases g
    | _ =>
      solve | fail | (first | (simp; done) | (simp; omega)) | (first | (simp; done) | (simp; omega)) | fail | fail
      exact ⟨_, rfl, k2 m 0 _ rfl hw rfl⟩
  · exact ⟨_, rfl, k0 hw⟩
def fstF (o : Option Int) (s : D) : Option Nat := match itemsOf s with
  | none => some 0
  | some ds => match o with
    | none => if 1 ≤ ds.length ∧ ds.length ≤ 4 then bad ds 0 else some 0
    | some m => if (ds.length : Int) = m then bad ds 0 else some 0
theorem firsts_loop {s : D} {ds : List D} {e0 e1 e2 : Option D} {Q : Res D → List D → Prop} (th : Th s) (hi : itemsOf s = some ds) (k1 : bad ds 0 = none → Q (.ok (.tup ds)) []) (k2 : ∀ j, bad ds 0 = some j → Q (.exc "BadFirsts" [("index", .int (j : Nat))]) []) (a b : Option D) :
    Es (forL (tgT [tgN 4, tgN 5]) (mIf (mNot (mTru (mCall [false, false, false] f_is_whole [] (mCons (mVar 5) (mCons (SV.ret (.int 0)) (mCons (SV.ret (.int 99)) mNil)))))) (mRaise "BadFirsts" ["index"] (mCons (mVar 4) mNil)) (endS .nx)) (enumF 0 ds)) [e0, some s, e1, e2, a, b]
      (onNx (fun fl ρ => ∃ cs, ioGet [false, false] ρ = some cs ∧ match fl with
        | .ret d => Q (.ok d) cs
        | .nx => Q (.ok .non) cs
        | .exc c fs => Q (.exc c fs) cs
        | _ => False) fun _ ρ1 => Es (mRet (mCB fTup (mCons (mVar 1) mNil))) ρ1 (fun fl ρ => ∃ cs, ioGet [false, false] ρ = some cs ∧ match fl with
        | .ret d => Q (.ok d) cs
        | .nx => Q (.ok .non) cs
        | .exc c fs => Q (.exc c fs) cs
        | _ => False)) := by
  obtain ⟨sd, sg⟩ := th
  have g := sg ds hi
  refine es_for (fun dsl ρ => ∃ (i : Nat) (rest : List D) (a b : Option D), dsl = enumF i rest ∧ ρ = [e0, some s, e1, e2, a, b] ∧ (∀ d ∈ rest, gd d = true) ∧ bad rest i = bad ds 0) ?_ ?_ _ _ ⟨0, ds, a, b, rfl, rfl, g, rfl⟩
  · rintro ρ ⟨i, rest, a, b, e, rfl, gr, eb⟩
    cases rest with
    | cons r rest => cases e
    | nil =>
      have o := gd_own sd
      have ox := gd_isX sd
      solve | fail | (first | (simp; done) | (simp; omega)) | (first | (simp; done) | (simp; omega)) | refine tupOf_th hi g ?_ | fail
      exact ⟨_, rfl, k1 eb.symm⟩
  · rintro d dsl ρ ⟨i, rest, a, b, e, rfl, gr, eb⟩
    cases rest with
    | nil => cases e
    | cons r rest =>
      cases e
      refine ⟨_, rfl, ?_⟩
      have gr0 := gr r (by simp)
      have o := gd_own gr0
      have ox := gd_isX gr0
      have nn := gd_nsl gr0
      have ef := gd_frz gr0
      have wk : ∀ {Q : Res D → List D → Prop}, Q (.ok (.bl (whole r))) [] → Ef f_is_whole [r, .int 0, .int 99] Q := fun {Q} k => whole_k gr0 k
      cases hw : whole r with
      | true =>
        solve | fail | (simp [hw]; done) | (first | (simp; done) | (simp; omega)) | refine wk ?_ | fail
        refine ⟨i + 1, rest, _, _, rfl, rfl, fun d hd => gr d (by simp [hd]), ?_⟩
        rw [← eb]
        simp [bad, hw]
      | false =>
        solve | fail | (simp [hw]; done) | (first | (simp; done) | (simp; omega)) | refine wk ?_ | fail
        exact ⟨_, rfl, k2 i (by rw [← eb]; simp [bad, hw])⟩
theorem firstsN_k {s : D} {Q : Res D → List D → Prop} (th : Th s) (k1 : ∀ ds, itemsOf s = some ds → fstF none s = none → Q (.ok (.tup ds)) []) (k2 : ∀ j, fstF none s = some j → Q (.exc "BadFirsts" [("index", .int (j : Nat))]) []) : Ef f_check_firsts [.non, s] Q := by
  refine ef_fun ?_
  show Es m_check_firsts [some (.non), some s, none, none, none, none] _
  unfold m_check_firsts
  have g := th.1
  have po := gd_own g
  have px := gd_isX g
  cases s with
  | lst ds =>
    by_cases hl : 1 ≤ ds.length ∧ ds.length ≤ 4
    · have z0 : (1 : Int) ≤ (ds.length : Nat) ∧ ((ds.length : Nat) : Int) ≤ 4 := by omega
      have k1' : bad ds 0 = none → Q (.ok (.tup ds)) [] := fun e => k1 ds rfl (by simp [fstF, itemsOf, hl]; exact e)
      have k2' := fun j (e : bad ds 0 = some j) => k2 j (by simp [fstF, itemsOf, hl]; exact e)
      solve | exact gLen_l | (first | (simp; done) | (simp [hl]; done) | (simp; omega) | (simp [hl]; omega)) | (first | (simp; done) | (simp; omega)) | fail | fail
      try refine b_chain ?_
      solve | exact gLen_l | (first | (simp; done) | (simp [hl]; done) | (simp; omega) | (simp [hl]; omega)) | (first | (simp; done) | (simp; omega)) | fail | fail
      exact firsts_loop th rfl k1' k2' none none
    · have k3 := k2 0 (by simp [fstF, itemsOf, hl])
      by_cases h1 : (1 : Int) ≤ (ds.length : Nat)
      · have h4 : ¬ ((ds.length : Nat) : Int) ≤ 4 := by omega
        solve | exact gLen_l | (first | (simp; done) | (simp [hl]; done) | (simp; omega) | (simp [hl]; omega)) | (first | (simp; done) | (simp; omega)) | fail | fail
        try refine b_chain ?_
        solve | exact gLen_l | (first | (simp; done) | (simp [hl]; done) | (simp; omega) | (simp [hl]; omega)) | (first | (simp; done) | (simp; omega)) | fail | fail
        exact ⟨_, rfl, k3⟩
      · solve | exact gLen_l | (first | (simp; done) | (simp [hl]; done) | (simp; omega) | (simp [hl]; omega)) | (first | (simp; done) | (simp; omega)) | fail | fail
        try refine b_chain ?_
        solve | exact gLen_l | (first | (simp; done) | (simp [hl]; done) | (simp; omega) | (simp [hl]; omega)) | (first | (simp; done) | (simp; omega)) | fail | fail
        exact ⟨_, rfl, k3⟩
  | tup ds =>
    by_cases hl : 1 ≤ ds.length ∧ ds.length ≤ 4
    · have z0 : (1 : Int) ≤ (ds.length : Nat) ∧ ((ds.length : Nat) : Int) ≤ 4 := by omega
      have k1' : bad ds 0 = none → Q (.ok (.tup ds)) [] := fun e => k1 ds rfl (by simp [fstF, itemsOf, hl]; exact e)
      have k2' := fun j (e : bad ds 0 = some j) => k2 j (by simp [fstF, itemsOf, hl]; exact e)
      solve | exact gLen_t | (first | (simp; done) | (simp [hl]; done) | (simp; omega) | (simp [hl]; omega)) | (first | (simp; done) | (simp; omega)) | fail | fail
      try refine b_chain ?_
      solve | exact gLen_t | (first | (simp; done) | (simp [hl]; done) | (simp; omega) | (simp [hl]; omega)) | (first | (simp; done) | (simp; omega)) | fail | fail
      exact firsts_loop th rfl k1' k2' none none
    · have k3 := k2 0 (by simp [fstF, itemsOf, hl])
      by_cases h1 : (1 : Int) ≤ (ds.length : Nat)
      · have h4 : ¬ ((ds.length : Nat) : Int) ≤ 4 := by omega
        solve | exact gLen_t | (first | (simp; done) | (simp [hl]; done) | (simp; omega) | (simp [hl]; omega)) | (first | (simp; done) | (simp; omega)) | fail | fail
        try refine b_chain ?_
        solve | exact gLen_t | (first | (simp; done) | (simp [hl]; done) | (simp; omega) | (simp [hl]; omega)) | (first | (simp; done) | (simp; omega)) | fail | fail
        exact ⟨_, rfl, k3⟩
      · solve | exact gLen_t | (first | (simp; done) | (simp [hl]; done) | (simp; omega) | (simp [hl]; omega)) | (first | (simp; done) | (simp; omega)) | fail | fail
        try refine b_chain ?_
        solve | exact gLen_t | (first | (simp; done) | (simp [hl]; done) | (simp; omega) | (simp [hl]; omega)) | (first | (simp; done) | (simp; omega)) | fail | fail
        exact ⟨_, rfl, k3⟩
  | ol xs => cases g
  | fz xs => cases g
  | od ks xs => cases g
  | oi c ns xs => cases g
  | ins c ns xs => cases g
  | sl i => cases g
  | xc c ns xs => cases g
  | xv c ns xs => cases g
  | xw c => cases g
  | rg a b => cases g
  | _ =>
    solve | fail | (first | (simp; done) | (simp; omega)) | (first | (simp; done) | (simp; omega)) | fail | fail
    exact ⟨_, rfl, k2 0 rfl⟩
end LAWP
end
section
set_option Elab.async false
set_option linter.all false
set_option autoImplicit false
set_option maxRecDepth 100000
set_option maxHeartbeats 0
set_option pp.maxSteps 400
namespace LAWP
open PySem PySem.Spec L2 SV LAWM
/-! ### things good through and through -/
mutual
def dg : D → Bool
  | .non => true
  | .bl _ => true
  | .int _ => true
  | .str x => PyData.strOk x
  | .tup xs => decide (xs.length < 40) && dgs xs
  | .lst xs => decide (xs.length < 40) && dgs xs
  | .dk ks xs => decide (ks = [.inl 0]) && (match xs with
    | [.int i] => decide (i = 1)
    | _ => false)
  | _ => false
def dgs : List D → Bool
  | [] => true
  | x :: xs => dg x && dgs xs
end
mutual
def bareD : D → D
  | .tup xs => .tup (bareDs xs)
  | .lst xs => .tup (bareDs xs)
  | d => d
def bareDs : List D → List D
  | [] => []
  | x :: xs => bareD x :: bareDs xs
end
mutual
def dp : D → Nat
  | .tup xs => dps xs + 1
  | .lst xs => dps xs + 1
  | _ => 0
def dps : List D → Nat
  | [] => 0
  | x :: xs => max (dp x) (dps xs)
end
theorem bareDs_map : ∀ xs : List D, bareDs xs = xs.map bareD
  | [] => rfl
  | x :: xs => by simp [bareDs, bareDs_map xs]
theorem dgs_mem : ∀ {xs : List D}, dgs xs = true → ∀ d ∈ xs, dg d = true
  | x :: xs, h, d, hd => by
    obtain ⟨h1, h2⟩ := Bool.and_eq_true_iff.mp (show (dg x && dgs xs) = true from h)
    rcases List.mem_cons.mp hd with rfl | hd
    · exact h1
    · exact dgs_mem h2 d hd
theorem dgs_of : ∀ {xs : List D}, (∀ d ∈ xs, dg d = true) → dgs xs = true
  | [], _ => rfl
  | x :: xs, h => by
    show (dg x && dgs xs) = true
    rw [h x (by simp), dgs_of fun d hd => h d (by simp [hd])]
    rfl
theorem dps_mem : ∀ {xs : List D} {d : D}, d ∈ xs → dp d ≤ dps xs
  | x :: xs, d, hd => by
    show dp d ≤ max (dp x) (dps xs)
    rcases List.mem_cons.mp hd with rfl | hd
    · exact Nat.le_max_left _ _
    · exact Nat.le_trans (dps_mem hd) (Nat.le_max_right _ _)
theorem dps_le : ∀ {xs : List D} {n : Nat}, (∀ d ∈ xs, dp d ≤ n) → dps xs ≤ n
  | [], _, _ => Nat.zero_le _
  | x :: xs, n, h => by
    show max (dp x) (dps xs) ≤ n
    exact Nat.max_le.mpr ⟨h x (by simp), dps_le fun d hd => h d (by simp [hd])⟩
theorem dg_gd {d : D} (h : dg d = true) : gd d = true := by cases d <;> first | rfl | (simp [dg] at h; done)
theorem dg_items {d : D} {ds : List D} (h : dg d = true) (e : itemsOf d = some ds) : ds.length < 40 ∧ (∀ x ∈ ds, dg x = true) ∧ dp d = dps ds + 1 ∧ bareD d = .tup (ds.map bareD) := by
  cases d <;> first
    | (cases e; simp only [dg, Bool.and_eq_true, decide_eq_true_eq] at h; exact ⟨h.1, dgs_mem h.2, rfl, by rw [← bareDs_map]; rfl⟩)
    | cases e
theorem dg_none {d : D} (h : itemsOf d = none) : bareD d = d ∧ dp d = 0 := by
  cases d <;> first | exact ⟨rfl, rfl⟩ | cases h
theorem dg_th {d : D} (h : dg d = true) : Th d := ⟨dg_gd h, fun ds e x hx => dg_gd ((dg_items h e).2.1 x hx)⟩
theorem dg_sc {d : D} (h : dg d = true) : Sc d := ⟨dg_gd h, fun ds e x hx => dg_th ((dg_items h e).2.1 x hx)⟩
theorem isi_seq {d : D} {ds : List D} (e : itemsOf d = some ds) : gIsi [.lst, .tup] d = some (.bl true) := by cases d <;> first | rfl | cases e
theorem isi_no {d : D} (h : gd d = true) (e : itemsOf d = none) : gIsi [.lst, .tup] d = some (.bl false) := by cases d <;> first | rfl | (cases h; done) | (cases e; done)
theorem len_seq {d : D} {ds : List D} (e : itemsOf d = some ds) : gLen d = some (.int (ds.length : Nat)) := by cases d <;> first | (cases e; simp [gLen, D.seq]; done) | cases e
theorem items_cases (d : D) : (∃ ds, itemsOf d = some ds) ∨ itemsOf d = none := by
  cases h : itemsOf d with
  | none => exact .inr rfl
  | some ds => exact .inl ⟨ds, rfl⟩
theorem dg_tup {xs : List D} (hl : xs.length < 40) (h : ∀ d ∈ xs, dg d = true) : dg (.tup xs) = true := by simp [dg, hl, dgs_of h]
theorem dg_lst {xs : List D} (hl : xs.length < 40) (h : ∀ d ∈ xs, dg d = true) : dg (.lst xs) = true := by simp [dg, hl, dgs_of h]
theorem dg_bare : ∀ (n : Nat) (d : D), dp d < n → dg d = true → dg (bareD d) = true ∧ dp (bareD d) = dp d ∧ bareD (bareD d) = bareD d
  | 0, _, h, _ => absurd h (Nat.not_lt_zero _)
  | n + 1, d, h, g => by
    rcases items_cases d with ⟨ds, e⟩ | e
    · obtain ⟨hl, hg, hd, hb⟩ := dg_items g e
      have ih : ∀ x ∈ ds, dg (bareD x) = true ∧ dp (bareD x) = dp x ∧ bareD (bareD x) = bareD x := fun x hx => dg_bare n x (by have := dps_mem hx; omega) (hg x hx)
      rw [hb]
      refine ⟨dg_tup (by simpa using hl) fun y hy => ?_, ?_, ?_⟩
      · obtain ⟨x, hx, rfl⟩ := List.mem_map.mp hy
        exact (ih x hx).1
      · rw [hd]
        show dps _ + 1 = _
        congr 1
        have : ∀ (xs : List D), (∀ x ∈ xs, dp (bareD x) = dp x) → dps (xs.map bareD) = dps xs := by
          intro xs
          induction xs with
          | nil => intro _; rfl
          | cons x xs ih2 =>
            intro hx
            show max (dp (bareD x)) (dps (xs.map bareD)) = max (dp x) (dps xs)
            rw [hx x (by simp), ih2 fun y hy => hx y (by simp [hy])]
        exact this ds fun x hx => (ih x hx).2.1
      · show D.tup (bareDs _) = _
        rw [bareDs_map, List.map_map]
        congr 1
        apply List.map_congr_left
        intro x hx
        exact (ih x hx).2.2
    · obtain ⟨h1, h2⟩ := dg_none e
      rw [h1]
      exact ⟨g, rfl, h1⟩
theorem b_fz0 {m : M D} {ρ : SV.Env} {QD : Res D → SV.Env → Prop} (h : Ev m ρ (onOk QD fun x ρ1 => Ev (fFrz x) ρ1 QD)) : Ev (mFz m) ρ QD := SV.b_fz h
local macro_rules
  | `(tactic| solve | $a | $b | $c | $d | $e) => `(tactic| (repeat' (first
      | (apply_rules (transparency := .reducible) (symm := false) (exfalso := false) (maxDepth := 1000) only [@b_ok, @b_okS, @b_nx, @b_seq, @b_op, @b_ret, @b_cons, @b_nil, @b_CB, @b_C1, @b_set, @b_tb, @b_bl, @b_if, @b_end, @b_preps, @b_prepF, @b_preps0, @b_call, @b_owns, @b_owns0])
      | (apply_rules (transparency := .reducible) (symm := false) (exfalso := false) (maxDepth := 1000) only [@b_nret, @b_nexc, @b_exc, @b_excS, @b_nbrk, @b_nct, @b_mret, @b_expr, @b_setI, @b_un, @b_C2, @b_tru, @b_and, @b_or, @b_not, @b_notT, @b_andV, @b_orV, @b_blE, @b_ifE, @b_add, @b_neg, @b_aug, @b_prepT, @b_frzs, @b_frzs0, @b_tup, @b_lst, @b_isN, @b_notN, @b_isi, @b_raise, @b_ownS, @b_bnd, @b_iter, @b_fseq, @b_mfor, @b_enum, @b_callK, @b_sl, @b_part, @b_pi])
      | ((with_reducible apply b_var); rfl; (focus (first | rfl | assumption)); (focus (first | rfl | assumption)))
      | ((with_reducible apply b_varO); rfl; (focus (first | rfl | assumption)))
      | ((with_reducible apply b_st); exact Nat.le_of_ble_eq_true rfl)
      | ((with_reducible apply b_mvS); rfl; (focus (first | rfl | assumption)))
      | ((with_reducible apply b_mv); (focus (first | assumption | (intro _ z; cases z; done))))
      | ((with_reducible apply b_frzS); rfl; (focus (first | rfl | assumption)))
      | ((with_reducible apply b_frzG); focus (first | assumption | rfl))
      | ((with_reducible apply b_frz); (focus (first | assumption | (intro _ z; cases z; done))))
      | ((with_reducible apply b_own); (focus (first | assumption | (intro _ z; cases z; done))))
      | ((with_reducible apply b_II); focus (first | rfl | $c))
      | ((with_reducible apply b_look2); (focus (first | rfl | exact dr_gd (by assumption))); (focus (first | rfl | exact dr_gd (by assumption))); focus (first | exact gEqF | exact gNeF | $a | rfl))
      | ((with_reducible apply b_look); (focus (first | rfl | exact dr_gd (by assumption))); focus (first | $a | rfl))
      | ((with_reducible apply b_trv); (focus (first | rfl | exact dr_gd (by assumption))); rfl)
      | ((with_reducible apply b_io); rfl)
      | ((with_reducible apply b_lim); exact Nat.le_of_ble_eq_true rfl)
      | ((with_reducible apply b_setD); rfl)
      | ((with_reducible apply b_setK); rfl; rfl)
      | ((with_reducible apply b_LM); rfl)
      | ((with_reducible apply b_ifT); focus (first | rfl | $b))
      | ((with_reducible apply b_ifF); focus (first | rfl | $b))
      | ((with_reducible apply b_eT); focus (first | rfl | $b))
      | ((with_reducible apply b_eF); focus (first | rfl | $b))
      | ((with_reducible apply b_rng1); focus (first | (simp [okR]; done) | (simp [okR]; omega)))
      | ((with_reducible apply b_rng2); focus (first | (simp [okR]; done) | (simp [okR]; omega)))
      | ((with_reducible apply b_back); focus (first | rfl | exact cb_f rfl rfl))
      | ((with_reducible apply b_seqF); rfl)
      | ((with_reducible apply b_LMr); rfl; focus (refine lApp ?_; first | (simp; done) | (simp; omega) | $e))
      | ((with_reducible apply b_rz); exact ⟨rfl, Nat.le_of_ble_eq_true rfl, Nat.le_of_ble_eq_true rfl⟩)
      | $d
      | fail)))
theorem bare_k : ∀ (n : Nat) {d : D} {Q : Res D → List D → Prop}, dg d = true → dp d < n → Q (.ok (bareD d)) [] → Ef (f__law_bare n) [d] Q := by
  intro n
  induction n with
  | zero => intro d Q _ h; exact absurd h (Nat.not_lt_zero _)
  | succ n ih =>
    intro d Q g hn k
    refine ef_fun ?_
    show Es (m__law_bare (fun _ => f__law_bare n) n) [some d, none] _
    unfold m__law_bare
    have gg := dg_gd g
    have o := gd_own gg
    have ox := gd_isX gg
    have nn := gd_nsl gg
    rcases items_cases d with ⟨ds, e⟩ | e
    · obtain ⟨hl, hg, hd, hb⟩ := dg_items g e
      solve | exact isi_seq e | (first | (simp; done) | (simp; omega)) | (first | (simp; done) | (simp; omega)) | fail | fail
      refine ev_lc (fun dsl acc ρ => ∃ (done rest : List D), dsl = rest ∧ acc = done.map bareD ∧ done ++ rest = ds ∧ ρ = [some d, none]) ?_ ?_ ?_
      · obtain ⟨bb, hq⟩ := iter_th e
        solve | fail | (first | (simp; done) | (simp; omega)) | (first | (simp; done) | (simp; omega)) | fail | fail
        refine b_seqF hq ?_
        solve | fail | (first | (simp; done) | (simp; omega)) | (first | (simp; done) | (simp; omega)) | fail | fail
        exact ⟨⟨[], ds, rfl, rfl, rfl, rfl⟩, by show ds.length ≤ lim; simp [lim]; omega⟩
      · rintro acc ρ ⟨done, rest, e1, rfl, hdn, rfl⟩
        subst e1
        rw [List.append_nil] at hdn
        subst hdn
        have gt : ∀ x ∈ done.map bareD, gd x = true := fun x hx => by
          obtain ⟨y, hy, rfl⟩ := List.mem_map.mp hx
          exact dg_gd (dg_bare (dp y + 1) y (by omega) (hg y hy)).1
        solve | fail | (first | (simp; done) | (simp; omega)) | (first | (simp; done) | (simp; omega)) | refine tupOf_g gt ?_ | fail
        rw [hb] at k
        exact ⟨_, rfl, k⟩
      · rintro x dsl acc ρ ⟨done, rest, e1, rfl, hdn, rfl⟩
        cases rest with
        | nil => cases e1
        | cons r rest =>
          cases e1
          have hm : x ∈ ds := by rw [← hdn]; simp
          have g0 := hg x hm
          have g1 := dg_gd g0
          have go := gd_own g1
          have gx := gd_isX g1
          have gb := dg_gd (dg_bare (dp x + 1) x (by omega) g0).1
          have nb := gd_nsl gb
          have dm := dps_mem hm
          refine ⟨_, rfl, b_ret ⟨true, rfl, ?_⟩⟩
          simp only [if_true]
          solve | fail | (first | (simp; done) | (simp; omega)) | (first | (simp; done) | (simp; omega)) | refine ih g0 (by omega) ?_ | fail
          refine ⟨_, rfl, ?_⟩
          solve | fail | (first | (simp; done) | (simp; omega)) | (first | (simp; done) | (simp; omega)) | fail | fail
          exact ⟨_, rfl, done ++ [x], dsl, rfl, by simp, by simpa using hdn, rfl⟩
    · rw [(dg_none e).1] at k
      solve | exact isi_no gg e | (first | (simp; done) | (simp; omega)) | (first | (simp; done) | (simp; omega)) | fail | fail
      exact ⟨_, rfl, k⟩
end LAWP
end
section
set_option Elab.async false
set_option linter.all false
set_option autoImplicit false
set_option maxRecDepth 100000
set_option maxHeartbeats 0
set_option pp.maxSteps 400
namespace LAWP
open PySem PySem.Spec L2 SV LAWM
/-! ### as lists and tuples -/
def Lk (d e : D) : Prop := dg e = true ∧ bareD e = bareD d ∧ dp e = dp d
def Al : List D → List D → Prop
  | [], [] => True
  | d :: ds, e :: es => Lk d e.frz ∧ Al ds es
  | _, _ => False
theorem Al.app : ∀ {ds es : List D} {d e : D}, Al ds es → Lk d e.frz → Al (ds ++ [d]) (es ++ [e])
  | [], [], _, _, _, h => ⟨h, True.intro⟩
  | _ :: _, _ :: _, _, _, ⟨a, b⟩, h => ⟨a, Al.app b h⟩
  | [], _ :: _, _, _, h, _ => h.elim
  | _ :: _, [], _, _, h, _ => h.elim
theorem Al.out : ∀ {ds es : List D}, Al ds es → (D.frzs es).length = ds.length ∧ (∀ x ∈ D.frzs es, dg x = true) ∧ bareDs (D.frzs es) = bareDs ds ∧ dps (D.frzs es) = dps ds
  | [], [], _ => ⟨rfl, (fun x hx => by cases hx), rfl, rfl⟩
  | d :: ds, e :: es, ⟨⟨a1, a2, a3⟩, b⟩ => by
    obtain ⟨h1, h2, h3, h4⟩ := Al.out b
    refine ⟨by simp [D.frzs, h1], fun x hx => ?_, ?_, ?_⟩
    · rcases List.mem_cons.mp (show x ∈ e.frz :: D.frzs es from hx) with rfl | hx
      · exact a1
      · exact h2 x hx
    · show bareD e.frz :: bareDs (D.frzs es) = bareD d :: bareDs ds
      rw [a2, h3]
    · show max (dp e.frz) (dps (D.frzs es)) = max (dp d) (dps ds)
      rw [a3, h4]
  | [], _ :: _, h => h.elim
  | _ :: _, [], h => h.elim
theorem gLt40 {n : Nat} (h : n < 40) : decide (((n : Nat) : Int) < 40) = true := by simp; omega
local macro_rules
  | `(tactic| solve | $a | $b | $c | $d | $e) => `(tactic| (repeat' (first
      | (apply_rules (transparency := .reducible) (symm := false) (exfalso := false) (maxDepth := 1000) only [@b_ok, @b_okS, @b_nx, @b_seq, @b_op, @b_ret, @b_cons, @b_nil, @b_CB, @b_C1, @b_set, @b_tb, @b_bl, @b_if, @b_end, @b_preps, @b_prepF, @b_preps0, @b_call, @b_owns, @b_owns0])
      | (apply_rules (transparency := .reducible) (symm := false) (exfalso := false) (maxDepth := 1000) only [@b_nret, @b_nexc, @b_exc, @b_excS, @b_nbrk, @b_nct, @b_mret, @b_expr, @b_setI, @b_un, @b_C2, @b_tru, @b_and, @b_or, @b_not, @b_notT, @b_andV, @b_orV, @b_blE, @b_ifE, @b_add, @b_neg, @b_aug, @b_prepT, @b_frzs, @b_frzs0, @b_tup, @b_lst, @b_isN, @b_notN, @b_isi, @b_raise, @b_ownS, @b_bnd, @b_iter, @b_fseq, @b_mfor, @b_enum, @b_callK, @b_sl, @b_part, @b_pi])
      | ((with_reducible apply b_var); rfl; (focus (first | rfl | assumption)); (focus (first | rfl | assumption)))
      | ((with_reducible apply b_varO); rfl; (focus (first | rfl | assumption)))
      | ((with_reducible apply b_st); exact Nat.le_of_ble_eq_true rfl)
      | ((with_reducible apply b_mvS); rfl; (focus (first | rfl | assumption)))
      | ((with_reducible apply b_mv); (focus (first | assumption | (intro _ z; cases z; done))))
      | ((with_reducible apply b_frzS); rfl; (focus (first | rfl | assumption)))
      | ((with_reducible apply b_frzG); focus (first | assumption | rfl))
      | ((with_reducible apply b_frz); (focus (first | assumption | (intro _ z; cases z; done))))
      | ((with_reducible apply b_own); (focus (first | assumption | (intro _ z; cases z; done))))
      | ((with_reducible apply b_II); focus (first | rfl | $c))
      | ((with_reducible apply b_look2); (focus (first | rfl | exact dr_gd (by assumption))); (focus (first | rfl | exact dr_gd (by assumption))); focus (first | exact gEqF | exact gNeF | $a | rfl))
      | ((with_reducible apply b_look); (focus (first | rfl | exact dr_gd (by assumption))); focus (first | $a | rfl))
      | ((with_reducible apply b_trv); (focus (first | rfl | exact dr_gd (by assumption))); rfl)
      | ((with_reducible apply b_io); rfl)
      | ((with_reducible apply b_lim); exact Nat.le_of_ble_eq_true rfl)
      | ((with_reducible apply b_setD); rfl)
      | ((with_reducible apply b_setK); rfl; rfl)
      | ((with_reducible apply b_LM); rfl)
      | ((with_reducible apply b_ifT); focus (first | rfl | $b))
      | ((with_reducible apply b_ifF); focus (first | rfl | $b))
      | ((with_reducible apply b_eT); focus (first | rfl | $b))
      | ((with_reducible apply b_eF); focus (first | rfl | $b))
      | ((with_reducible apply b_rng1); focus (first | (simp [okR]; done) | (simp [okR]; omega)))
      | ((with_reducible apply b_rng2); focus (first | (simp [okR]; done) | (simp [okR]; omega)))
      | ((with_reducible apply b_back); focus (first | rfl | exact cb_f rfl rfl))
      | ((with_reducible apply b_seqF); rfl)
      | ((with_reducible apply b_LMr); rfl; focus (refine lApp ?_; first | (simp; done) | (simp; omega) | $e))
      | ((with_reducible apply b_rz); exact ⟨rfl, Nat.le_of_ble_eq_true rfl, Nat.le_of_ble_eq_true rfl⟩)
      | $d
      | fail)))
theorem lists_k : ∀ (n : Nat) {h d : D} {Q : Res D → List D → Prop}, HOk h → dg d = true → dp d < n → (∀ e h', (∀ i, e ≠ .sl i) → Lk d e.frz → HOk h' → Q (.ok e) [h']) → Ef (f__law_lists n) [h, d] Q := by
  intro n
  induction n with
  | zero => intro h d Q _ _ hn; exact absurd hn (Nat.not_lt_zero _)
  | succ n ih =>
    intro h d Q hh g hn k
    refine ef_fun ?_
    show Es (m__law_lists (fun _ => f__law_lists n) n) [some h, some d, none, none] _
    unfold m__law_lists
    have gg := dg_gd g
    have o := gd_own gg
    have ox := gd_isX gg
    have nn := gd_nsl gg
    have ho := hh.own
    have hx := hh.isX
    rcases items_cases d with ⟨ds, e⟩ | e
    · obtain ⟨hl, hg, hd, hb⟩ := dg_items g e
      have bl := gLt40 hl
      rw [← bareDs_map] at hb
      solve | (first | exact isi_seq e | exact len_seq e) | exact bl | (first | (simp; done) | (simp; omega)) | fail | fail
      refine ev_lc (fun dsl acc ρ => ∃ (done rest : List D) (h : D), dsl = rest ∧ Al done acc ∧ done ++ rest = ds ∧ HOk h ∧ ρ = [some h, some d, none, none]) ?_ ?_ ?_
      · obtain ⟨bb, hq⟩ := iter_th e
        solve | fail | (first | (simp; done) | (simp; omega)) | (first | (simp; done) | (simp; omega)) | fail | fail
        refine b_seqF hq ?_
        solve | fail | (first | (simp; done) | (simp; omega)) | (first | (simp; done) | (simp; omega)) | fail | fail
        exact ⟨⟨[], ds, h, rfl, True.intro, rfl, hh, rfl⟩, by show ds.length ≤ lim; simp [lim]; omega⟩
      · rintro acc ρ ⟨done, rest, h, e1, al, hdn, hh, rfl⟩
        subst e1
        rw [List.append_nil] at hdn
        subst hdn
        obtain ⟨l1, l2, l3, l4⟩ := al.out
        have ho := hh.own
        have hx := hh.isX
        have gt : ∀ x ∈ D.frzs acc, gd x = true := fun x hx => dg_gd (l2 x hx)
        have ff := frzs_gd gt
        have k1 : ∀ h', HOk h' → Q (.ok (.ol (D.frzs acc))) [h'] := fun h' hh' => k _ h' (fun i z => by cases z) (by
          show Lk d (.lst (D.frzs (D.frzs acc)))
          rw [ff]
          refine ⟨dg_lst (by omega) l2, ?_, ?_⟩
          · rw [hb]; show D.tup (bareDs _) = _; rw [l3]
          · rw [hd]; show dps _ + 1 = _; rw [l4]) hh'
        have k2 : ∀ h', HOk h' → Q (.ok (.tup (D.frzs acc))) [h'] := fun h' hh' => k _ h' (fun i z => by cases z) (by
          refine ⟨dg_tup (by omega) l2, ?_, ?_⟩
          · rw [hb]; show D.tup (bareDs _) = _; rw [l3]
          · rw [hd]; show dps _ + 1 = _; rw [l4]) hh'
        solve | fail | (first | (simp; done) | (simp; omega)) | (first | (simp; done) | (simp; omega)) | refine take_k hh (by omega) (by omega) fun v h1 v0 v1 hh1 => ?_ | fail
        obtain rfl | rfl : v = 0 ∨ v = 1 := by omega
        · solve | fail | (first | (simp; done) | (simp; omega)) | (first | (simp; done) | (simp; omega)) | with_reducible refine b_varZ rfl ?_ | fail
          refine tupOf_s rfl gt ?_
          solve | fail | (first | (simp; done) | (simp; omega)) | (first | (simp; done) | (simp; omega)) | fail | fail
          exact ⟨[h1], by simp [ioGet, hh1.isX], k2 _ hh1⟩
        · solve | fail | (first | (simp; done) | (simp; omega)) | (first | (simp; done) | (simp; omega)) | with_reducible refine b_varZ rfl ?_ | fail
          exact ⟨[h1], by simp [ioGet, hh1.isX], k1 _ hh1⟩
      · rintro x dsl acc ρ ⟨done, rest, h, e1, al, hdn, hh, rfl⟩
        cases rest with
        | nil => cases e1
        | cons r rest =>
          cases e1
          have ho := hh.own
          have hx := hh.isX
          have hm : x ∈ ds := by rw [← hdn]; simp
          have g0 := hg x hm
          have g1 := dg_gd g0
          have go := gd_own g1
          have gx := gd_isX g1
          have dm := dps_mem hm
          refine ⟨_, rfl, b_ret ⟨true, rfl, ?_⟩⟩
          simp only [if_true]
          solve | fail | (first | (simp; done) | (simp; omega)) | (first | (simp; done) | (simp; omega)) | refine ih hh g0 (by omega) fun e h' ne lk hh' => ?_ | fail
          refine ⟨_, rfl, ?_⟩
          solve | fail | (first | (simp; done) | (simp; omega)) | (first | (simp; done) | (simp; omega)) | fail | fail
          exact ⟨_, rfl, done ++ [x], dsl, h', rfl, al.app lk, by simpa using hdn, hh', rfl⟩
    · obtain ⟨b1, b2⟩ := dg_none e
      solve | exact isi_no gg e | (first | (simp; done) | (simp; omega)) | (first | (simp; done) | (simp; omega)) | fail | fail
      exact ⟨[h], by simp [ioGet, hh.isX], k d h nn (by rw [gd_frz gg]; exact ⟨g, rfl, rfl⟩) hh⟩
end LAWP
end
section
set_option Elab.async false
set_option linter.all false
set_option autoImplicit false
set_option maxRecDepth 100000
set_option maxHeartbeats 0
set_option pp.maxSteps 400
namespace LAWP
open PySem PySem.Spec L2 SV LAWM
local macro_rules
  | `(tactic| solve | $a | $b | $c | $d | $e) => `(tactic| (repeat' (first
      | (apply_rules (transparency := .reducible) (symm := false) (exfalso := false) (maxDepth := 1000) only [@b_ok, @b_okS, @b_nx, @b_seq, @b_op, @b_ret, @b_cons, @b_nil, @b_CB, @b_C1, @b_set, @b_tb, @b_bl, @b_if, @b_end, @b_preps, @b_prepF, @b_preps0, @b_call, @b_owns, @b_owns0])
      | (apply_rules (transparency := .reducible) (symm := false) (exfalso := false) (maxDepth := 1000) only [@b_nret, @b_nexc, @b_exc, @b_excS, @b_nbrk, @b_nct, @b_mret, @b_expr, @b_setI, @b_un, @b_C2, @b_tru, @b_and, @b_or, @b_not, @b_notT, @b_andV, @b_orV, @b_blE, @b_ifE, @b_add, @b_neg, @b_aug, @b_prepT, @b_frzs, @b_frzs0, @b_tup, @b_lst, @b_isN, @b_notN, @b_isi, @b_raise, @b_ownS, @b_bnd, @b_iter, @b_fseq, @b_mfor, @b_enum, @b_callK, @b_sl, @b_part, @b_pi])
      | ((with_reducible apply b_var); rfl; (focus (first | rfl | assumption)); (focus (first | rfl | assumption)))
      | ((with_reducible apply b_varO); rfl; (focus (first | rfl | assumption)))
      | ((with_reducible apply b_st); exact Nat.le_of_ble_eq_true rfl)
      | ((with_reducible apply b_mvS); rfl; (focus (first | rfl | assumption)))
      | ((with_reducible apply b_mv); (focus (first | assumption | (intro _ z; cases z; done))))
      | ((with_reducible apply b_frzS); rfl; (focus (first | rfl | assumption)))
      | ((with_reducible apply b_frzG); focus (first | assumption | rfl))
      | ((with_reducible apply b_frz); (focus (first | assumption | (intro _ z; cases z; done))))
      | ((with_reducible apply b_own); (focus (first | assumption | (intro _ z; cases z; done))))
      | ((with_reducible apply b_II); focus (first | rfl | $c))
      | ((with_reducible apply b_look2); (focus (first | rfl | exact dr_gd (by assumption))); (focus (first | rfl | exact dr_gd (by assumption))); focus (first | exact gEqF | exact gNeF | $a | rfl))
      | ((with_reducible apply b_look); (focus (first | rfl | exact dr_gd (by assumption))); focus (first | $a | rfl))
      | ((with_reducible apply b_trv); (focus (first | rfl | exact dr_gd (by assumption))); rfl)
      | ((with_reducible apply b_io); rfl)
      | ((with_reducible apply b_lim); exact Nat.le_of_ble_eq_true rfl)
      | ((with_reducible apply b_setD); rfl)
      | ((with_reducible apply b_setK); rfl; rfl)
      | ((with_reducible apply b_LM); rfl)
      | ((with_reducible apply b_ifT); focus (first | rfl | $b))
      | ((with_reducible apply b_ifF); focus (first | rfl | $b))
      | ((with_reducible apply b_eT); focus (first | rfl | $b))
      | ((with_reducible apply b_eF); focus (first | rfl | $b))
      | ((with_reducible apply b_rng1); focus (first | (simp [okR]; done) | (simp [okR]; omega)))
      | ((with_reducible apply b_rng2); focus (first | (simp [okR]; done) | (simp [okR]; omega)))
      | ((with_reducible apply b_back); focus (first | rfl | exact cb_f rfl rfl))
      | ((with_reducible apply b_seqF); rfl)
      | ((with_reducible apply b_LMr); rfl; focus (refine lApp ?_; first | (simp; done) | (simp; omega) | $e))
      | ((with_reducible apply b_rz); exact ⟨rfl, Nat.le_of_ble_eq_true rfl, Nat.le_of_ble_eq_true rfl⟩)
      | $d
      | fail)))
theorem number_k {d : D} {hi : Int} {Q : Res D → List D → Prop} (hd : gd d = true) (k : Q (.ok (.bl (whB (some 0) (some hi) d))) []) : Ef f__law_number [d, .int hi] Q := by
  refine ef_fun ?_
  show Es m__law_number [some d, some (.int hi)] _
  unfold m__law_number
  have o := gd_own hd
  have ox := gd_isX hd
  cases d with
  | int i =>
    solve | fail | (first | (simp; done) | (simp; omega)) | (first | (simp; done) | (simp; omega)) | fail | fail
    refine b_chain ?_
    by_cases h : 0 ≤ i
    · solve | fail | (simp [h]; done) | (first | (simp; done) | (simp; omega)) | fail | fail
      exact ⟨_, rfl, by simpa [whB, h] using k⟩
    · solve | fail | (simp [h]; done) | (first | (simp; done) | (simp; omega)) | fail | fail
      exact ⟨_, rfl, by simpa [whB, h] using k⟩
  | ol xs => cases hd
  | fz xs => cases hd
  | od ks xs => cases hd
  | oi c ns xs => cases hd
  | ins c ns xs => cases hd
  | sl i => cases hd
  | xc c ns xs => cases hd
  | xv c ns xs => cases hd
  | xw c => cases hd
  | rg a b => cases hd
  | _ =>
    solve | fail | (first | (simp; done) | (simp; omega)) | (first | (simp; done) | (simp; omega)) | fail | fail
    exact ⟨_, rfl, k⟩
def hueB (m : Int) (d : D) : Bool := match itemsOf d with
  | some cs => decide ((cs.length : Int) = m) && cs.all whole
  | none => false
theorem hues_k {d : D} {m : Int} {Q : Res D → List D → Prop} (g : dg d = true) (k : Q (.ok (.bl (hueB m d))) []) : Ef f__law_hues [d, .int m] Q := by
  refine ef_fun ?_
  show Es m__law_hues [some d, some (.int m), none] _
  unfold m__law_hues
  have gg := dg_gd g
  have o := gd_own gg
  have ox := gd_isX gg
  have nn := gd_nsl gg
  rcases items_cases d with ⟨ds, e⟩ | e
  · obtain ⟨hl, hg, hd, hb⟩ := dg_items g e
    by_cases hm : ((ds.length : Nat) : Int) = m
    · have k' : Q (.ok (.bl (ds.all whole))) [] := by simpa [hueB, e, hm] using k
      solve | (first | exact isi_seq e | exact len_seq e) | (simp [hm]; done) | (first | (simp; done) | (simp; omega)) | fail | fail
      refine ev_lc (fun dsl acc ρ => ∃ (done rest : List D), dsl = rest ∧ (acc.isEmpty = done.all whole) ∧ done ++ rest = ds ∧ ρ = [some d, some (.int m), none]) ?_ ?_ ?_
      · obtain ⟨bb, hq⟩ := iter_th e
        solve | fail | (first | (simp; done) | (simp; omega)) | (first | (simp; done) | (simp; omega)) | fail | fail
        refine b_seqF hq ?_
        solve | fail | (first | (simp; done) | (simp; omega)) | (first | (simp; done) | (simp; omega)) | fail | fail
        exact ⟨⟨[], ds, rfl, rfl, rfl, rfl⟩, by show ds.length ≤ lim; simp [lim]; omega⟩
      · rintro acc ρ ⟨done, rest, e1, ha, hdn, rfl⟩
        subst e1
        rw [List.append_nil] at hdn
        subst hdn
        rw [← ha] at k'
        solve | fail | (first | (simp; done) | (simp; omega)) | (first | (simp; done) | (simp; omega)) | fail | fail
        exact ⟨_, rfl, by simpa using k'⟩
      · rintro x dsl acc ρ ⟨done, rest, e1, ha, hdn, rfl⟩
        cases rest with
        | nil => cases e1
        | cons r rest =>
          cases e1
          have hmm : x ∈ ds := by rw [← hdn]; simp
          have g1 := dg_gd (hg x hmm)
          have go := gd_own g1
          have gx := gd_isX g1
          have wk : ∀ {Q : Res D → List D → Prop}, Q (.ok (.bl (whole x))) [] → Ef f__law_number [x, .int 99] Q := fun {Q} k => number_k g1 k
          refine ⟨_, rfl, ?_⟩
          cases hw : whole x with
          | true =>
            solve | fail | (first | (simp; done) | (simp; omega)) | (first | (simp; done) | (simp; omega)) | refine wk ?_ | fail
            refine ⟨false, by simp [hw], ?_⟩
            rw [if_neg Bool.false_ne_true]
            exact ⟨done ++ [x], dsl, rfl, by simp [ha, hw], by simpa using hdn, rfl⟩
          | false =>
            solve | fail | (first | (simp; done) | (simp; omega)) | (first | (simp; done) | (simp; omega)) | refine wk ?_ | fail
            refine ⟨true, by simp [hw], ?_⟩
            rw [if_pos rfl]
            solve | fail | (first | (simp; done) | (simp; omega)) | (first | (simp; done) | (simp; omega)) | fail | fail
            refine ⟨_, rfl, ?_⟩
            solve | fail | (first | (simp; done) | (simp; omega)) | (first | (simp; done) | (simp; omega)) | fail | fail
            exact ⟨_, rfl, done ++ [x], dsl, rfl, by simp [hw], by simpa using hdn, rfl⟩
    · have k' : Q (.ok (.bl false)) [] := by simpa [hueB, e, hm] using k
      solve | (first | exact isi_seq e | exact len_seq e) | (simp [hm]; done) | (first | (simp; done) | (simp; omega)) | fail | fail
      exact ⟨_, rfl, k'⟩
  · have k' : Q (.ok (.bl false)) [] := by simpa [hueB, e] using k
    solve | exact isi_no gg e | (first | (simp; done) | (simp; omega)) | (first | (simp; done) | (simp; omega)) | fail | fail
    exact ⟨_, rfl, k'⟩
theorem gIx_k0 {d a b : D} (h : itemsOf d = some [a, b]) (g : gd a = true) : gIx d (.int 0) = some a := gIx0 h g
theorem pours_loop {s : D} {m : Int} {ds : List D} {Q : Res D → List D → Prop} (th : ∀ d ∈ ds, Th d) (k1 : scrB m ds 0 = none → Q (.ok (.bl true)) []) (k2 : ∀ z, scrB m ds 0 = some z → Q (.ok (.bl false)) []) (b : Option D) (gs : gd s = true) :
    Es (forL (tgN 2) (mSeq (mIf (mOr (mNot (mTru (mIsi [.lst, .tup] (mVar 2)))) (mTb (mOp fNe (mCB fLen (mCons (mVar 2) mNil)) (SV.ret (.int 2))))) (mRet (SV.ret (.bl false))) (endS .nx))
      (mIf (mOr (mNot (mTru (mCall [false, false] f__law_number [] (mCons (mOp fIx (mVar 2) (SV.ret (.int 0))) (mCons (mOp fSub (mVar 1) (SV.ret (.int 1))) mNil))))) (mNot (mTru (mCall [false, false] f__law_number [] (mCons (mOp fIx (mVar 2) (SV.ret (.int 1))) (mCons (SV.ret (.int 99)) mNil)))))) (mRet (SV.ret (.bl false))) (endS .nx))) ds) [some s, some (.int m), b]
      (onNx (fun fl ρ => ∃ cs, ioGet [false, false] ρ = some cs ∧ match fl with
        | .ret d => Q (.ok d) cs
        | .nx => Q (.ok .non) cs
        | .exc c fs => Q (.exc c fs) cs
        | _ => False) fun _ ρ1 => Es (mRet (SV.ret (.bl true))) ρ1 (fun fl ρ => ∃ cs, ioGet [false, false] ρ = some cs ∧ match fl with
        | .ret d => Q (.ok d) cs
        | .nx => Q (.ok .non) cs
        | .exc c fs => Q (.exc c fs) cs
        | _ => False)) := by
  refine es_for (fun dsl ρ => ∃ (i : Nat) (rest : List D) (b : Option D), dsl = rest ∧ ρ = [some s, some (.int m), b] ∧ (∀ d ∈ rest, Th d) ∧ scrB m rest i = scrB m ds 0) ?_ ?_ _ _ ⟨0, ds, b, rfl, rfl, th, rfl⟩
  · rintro ρ ⟨i, rest, b, e, rfl, gr, eb⟩
    subst e
    solve | fail | (first | (simp; done) | (simp; omega)) | (first | (simp; done) | (simp; omega)) | fail | fail
    exact ⟨_, rfl, k1 eb.symm⟩
  · rintro d dsl ρ ⟨i, rest, b, e, rfl, gr, eb⟩
    subst e
    refine ⟨_, rfl, ?_⟩
    have tr := gr d (by simp)
    have tg := tr.1
    have go := gd_own tg
    have gx := gd_isX tg
    have key : ∀ w, pourF m d = some w → Q (.ok (.bl false)) [] := fun w hw => k2 (i, w) (by rw [← eb]; simp [scrB, hw])
    rcases items_cases d with ⟨xs, e⟩ | e
    · rcases xs with _ | ⟨x, _ | ⟨y, _ | ⟨z, r⟩⟩⟩
      · have kk := key _ (show pourF m d = some _ by unfold pourF; rw [e])
        solve | (first | exact isi_seq e | exact len_seq e) | (first | (simp; done) | (simp; omega)) | (first | (simp; done) | (simp; omega)) | fail | fail
        exact ⟨_, rfl, kk⟩
      · have kk := key _ (show pourF m d = some _ by unfold pourF; rw [e])
        solve | (first | exact isi_seq e | exact len_seq e) | (first | (simp; done) | (simp; omega)) | (first | (simp; done) | (simp; omega)) | fail | fail
        exact ⟨_, rfl, kk⟩
      · have gx0 := tr.2 _ e x (by simp)
        have gy0 := tr.2 _ e y (by simp)
        have i0 := gIx0 e gx0
        have i1 := gIx1 e gy0
        have nx := gd_nsl gx0
        have ny := gd_nsl gy0
        cases ha : whB (some 0) (some (m - 1)) x with
        | false =>
          have kk := key _ (show pourF m d = some _ by unfold pourF; rw [e]; simp [ha]; rfl)
          solve | (first | exact isi_seq e | exact len_seq e | exact i0 | exact i1) | (first | (simp; done) | (simp [ha]; done)) | (first | (simp; done) | (simp; omega)) | refine number_k gx0 ?_ | fail
          exact ⟨_, rfl, kk⟩
        | true =>
          cases hb : whB (some 0) (some 99) y with
          | false =>
            have kk := key _ (show pourF m d = some _ by unfold pourF; rw [e]; simp [ha, hb]; rfl)
            solve | (first | exact isi_seq e | exact len_seq e | exact i0 | exact i1) | (first | (simp; done) | (simp [ha]; done) | (simp [hb]; done)) | (first | (simp; done) | (simp; omega)) | (first | refine number_k gx0 ?_ | refine number_k gy0 ?_) | fail
            exact ⟨_, rfl, kk⟩
          | true =>
            have hp : pourF m d = none := by unfold pourF; rw [e]; simp [ha, hb]
            solve | (first | exact isi_seq e | exact len_seq e | exact i0 | exact i1) | (first | (simp; done) | (simp [ha]; done) | (simp [hb]; done)) | (first | (simp; done) | (simp; omega)) | (first | refine number_k gx0 ?_ | refine number_k gy0 ?_) | fail
            exact ⟨i + 1, dsl, _, rfl, rfl, fun d hd => gr d (by simp [hd]), by rw [← eb]; simp [scrB, hp]⟩
      · have kk := key _ (show pourF m d = some _ by unfold pourF; rw [e])
        solve | (first | exact isi_seq e | exact len_seq e) | (first | (simp; done) | (simp; omega)) | (first | (simp; done) | (simp; omega)) | fail | fail
        exact ⟨_, rfl, kk⟩
    · have kk := key _ (show pourF m d = some _ by unfold pourF; rw [e])
      solve | exact isi_no tg e | (first | (simp; done) | (simp; omega)) | (first | (simp; done) | (simp; omega)) | fail | fail
      exact ⟨_, rfl, kk⟩
theorem pours_k {s : D} {m : Int} {Q : Res D → List D → Prop} (g : dg s = true) (k1 : scrF m s = none → Q (.ok (.bl true)) []) (k2 : ∀ z, scrF m s = some z → Q (.ok (.bl false)) []) : Ef f__law_pours [s, .int m] Q := by
  refine ef_fun ?_
  show Es m__law_pours [some s, some (.int m), none] _
  unfold m__law_pours
  have gg := dg_gd g
  have o := gd_own gg
  have ox := gd_isX gg
  have nn := gd_nsl gg
  rcases items_cases s with ⟨ds, e⟩ | e
  · obtain ⟨hl, hg, hd, hb⟩ := dg_items g e
    by_cases hm : (12 : Int) < (ds.length : Nat)
    · have k' := k2 _ (show scrF m s = some _ by unfold scrF; rw [e]; simp only; rw [if_pos hm])
      solve | (first | exact isi_seq e | exact len_seq e) | (first | (simp [hm]; done) | (simp; omega)) | (first | (simp; done) | (simp; omega)) | fail | fail
      exact ⟨_, rfl, k'⟩
    · have es : scrF m s = scrB m ds 0 := by unfold scrF; rw [e]; simp only; rw [if_neg hm]
      obtain ⟨bb, hq⟩ := iter_th e
      solve | (first | exact isi_seq e | exact len_seq e) | (first | (simp [hm]; done) | (simp; omega)) | (first | (simp; done) | (simp; omega)) | fail | fail
      refine b_seqF hq ?_
      solve | fail | (first | (simp; done) | (simp; omega)) | (first | (simp; done) | (simp; omega)) | fail | fail
      exact pours_loop (fun d hd => dg_th (hg d hd)) (fun e => k1 (es.trans e)) (fun z e => k2 z (es.trans e)) none gg
  · have k' := k2 _ (show scrF m s = some _ by unfold scrF; rw [e])
    solve | exact isi_no gg e | (first | (simp; done) | (simp; omega)) | (first | (simp; done) | (simp; omega)) | fail | fail
    exact ⟨_, rfl, k'⟩
theorem colour_k {h : D} {Q : Res D → List D → Prop} (hh : HOk h) (k : ∀ v h', 0 ≤ v → v < 100 → HOk h' → Q (.ok (.int v)) [h']) : Ef f__law_colour [h] Q := by
  refine ef_fun ?_
  show Es m__law_colour [some h, none] _
  unfold m__law_colour
  have o := hh.own
  have ox := hh.isX
  solve | fail | (first | (simp; done) | (simp; omega)) | (first | (simp; done) | (simp; omega)) | refine take_k hh (by omega) (by omega) fun v h1 v0 v1 hh1 => ?_ | fail
  have o1 := hh1.own
  have ox1 := hh1.isX
  by_cases e0 : v = 0
  · solve | fail | (simp [e0]; done) | (first | (simp; done) | (simp; omega)) | refine take_k hh1 (by omega) (by omega) fun w h2 w0 w1 hh2 => ?_ | fail
    exact ⟨[h2], by simp [ioGet, hh2.isX], k w h2 w0 (by omega) hh2⟩
  · by_cases e1 : v < 3
    · solve | fail | (first | (simp [e0]; done) | (simp [e1]; done)) | (first | (simp; done) | (simp; omega)) | refine take_k hh1 (by omega) (by omega) fun w h2 w0 w1 hh2 => ?_ | fail
      exact ⟨[h2], by simp [ioGet, hh2.isX], k w h2 w0 (by omega) hh2⟩
    · solve | fail | (first | (simp [e0]; done) | (simp [e1]; done) | (simp; omega)) | (first | (simp; done) | (simp; omega)) | refine take_k hh1 (by omega) (by omega) fun w h2 w0 w1 hh2 => ?_ | fail
      exact ⟨[h2], by simp [ioGet, hh2.isX], k w h2 w0 (by omega) hh2⟩
theorem odd_k {h : D} {b : Int} {Q : Res D → List D → Prop} (hh : HOk h) (k : ∀ d h', dg d = true → dp d ≤ 1 → HOk h' → Q (.ok d) [h']) : Ef f__law_odd [h, .int b] Q := by
  refine ef_fun ?_
  show Es m__law_odd [some h, some (.int b), none] _
  unfold m__law_odd
  have o := hh.own
  have ox := hh.isX
  solve | fail | (first | (simp; done) | (simp; omega)) | (first | (simp; done) | (simp; omega)) | refine take_k hh (by omega) (by omega) fun v h1 v0 v1 hh1 => ?_ | fail
  have o1 := hh1.own
  have ox1 := hh1.isX
  obtain hv | hv | hv | hv | hv | hv | hv | hv | hv : v = 0 ∨ v = 1 ∨ v = 2 ∨ v = 3 ∨ v = 4 ∨ v = 5 ∨ v = 6 ∨ v = 7 ∨ v = 8 := by omega
  all_goals subst hv
  · solve | fail | (first | (simp; done) | (simp; omega)) | (first | (simp; done) | (simp; omega)) | refine take_k hh1 (by decide +kernel) (by decide +kernel) fun w h2 w0 w1 hh2 => ?_ | fail
    exact ⟨[h2], by simp [ioGet, hh2.isX], k _ h2 rfl (Nat.zero_le _) hh2⟩
  · solve | fail | (first | (simp; done) | (simp; omega)) | (first | (simp; done) | (simp; omega)) | refine take_k hh1 (by decide +kernel) (by decide +kernel) fun w h2 w0 w1 hh2 => ?_ | fail
    exact ⟨[h2], by simp [ioGet, hh2.isX], k _ h2 rfl (Nat.zero_le _) hh2⟩
  all_goals
    solve | fail | (first | (simp; done) | (simp; omega)) | (first | (simp; done) | (simp; omega)) | fail | fail
    exact ⟨[h1], by simp [ioGet, ox1], k _ h1 (by first | rfl | decide +kernel) (by first | exact Nat.zero_le _ | exact Nat.le_refl _ | decide +kernel) hh1⟩
theorem rid_k {h : D} {Q : Res D → List D → Prop} (hh : HOk h) (k : ∀ d h', dg d = true → itemsOf d = none → HOk h' → Q (.ok d) [h']) : Ef f__law_rid [h] Q := by
  refine ef_fun ?_
  show Es m__law_rid [some h] _
  unfold m__law_rid
  have o := hh.own
  have ox := hh.isX
  solve | fail | (first | (simp; done) | (simp; omega)) | (first | (simp; done) | (simp; omega)) | refine take_k hh (by omega) (by omega) fun v h1 v0 v1 hh1 => ?_ | fail
  have o1 := hh1.own
  have ox1 := hh1.isX
  obtain hv | hv | hv | hv | hv | hv : v = 0 ∨ v = 1 ∨ v = 2 ∨ v = 3 ∨ v = 4 ∨ v = 5 := by omega
  all_goals subst hv
  all_goals
    solve | fail | (first | (simp; done) | (simp; omega)) | (first | (simp; done) | (simp; omega)) | fail | fail
    exact ⟨[h1], by simp [ioGet, ox1], k _ h1 (by first | rfl | decide +kernel) rfl hh1⟩
end LAWP
end
section
set_option Elab.async false
set_option linter.all false
set_option autoImplicit false
set_option maxRecDepth 100000
set_option maxHeartbeats 0
set_option pp.maxSteps 400
namespace LAWP
open PySem PySem.Spec L2 SV LAWM
def toI : D → Int
  | .int i => i
  | _ => 0
def intsOf (ds : List D) : List Int := ds.map toI
theorem intsOf_ints (xs : List Int) : intsOf (xs.map D.int) = xs := by
  unfold intsOf
  rw [List.map_map]
  have : toI ∘ D.int = id := rfl
  rw [this, List.map_id]
def rowsB (m k : Int) (d : D) : Bool := match itemsOf d with
  | some rs => decide ((rs.length : Int) = k) && rs.all (hueB m)
  | none => false
def firstRow (d : D) : List Int := match itemsOf d with
  | some (r :: _) => (match itemsOf r with
    | some cs => intsOf cs
    | none => [])
  | _ => []
def sightF (fs : List D) (s : D) : Option Str := match itemsOf s with
  | some [sc, rw] => (match scrF fs.length sc with
    | some _ => some "script"
    | none => (match itemsOf sc with
      | some ps => if rowsB fs.length (ps.length + 1) rw = true then (if firstRow rw = intsOf fs then none else some "firsts") else some "rows"
      | none => some "script"))
  | _ => some "sight"
def sightsF (fs : List D) : List D → Nat → Option (Nat × Str)
  | [], _ => none
  | s :: ss, i => match sightF fs s with
    | some w => some (i, w)
    | none => sightsF fs ss (i + 1)
def sgtsF (F S : D) (u : Int) : Option (Nat × Str) := match itemsOf S with
  | none => some (0, "many")
  | some ss => if u < (ss.length : Int) then some (0, "many") else match itemsOf F with
    | some fs => sightsF fs ss 0
    | none => none
def rul (F S : D) (u : Int) : D := match fstF none F with
  | some j => .ol [.str "firsts", .int (j : Nat)]
  | none => match sgtsF F S u with
    | some (j, w) => .ol [.str "sight", .int (j : Nat), .str w]
    | none => bareD S
theorem gIx_at {d x : D} {ds : List D} {i : Nat} (e : itemsOf d = some ds) (h : ds[i]? = some x) (g : gd x = true) : gIx d (.int (i : Nat)) = some x := by
  cases d <;> first | (cases e; first | exact gIx_lat h g | exact gIx_tat h g) | cases e
theorem scr_items {m : Int} {s : D} (h : scrF m s = none) : ∃ ps, itemsOf s = some ps ∧ ¬ (12 : Int) < ps.length ∧ scrB m ps 0 = none := by
  unfold scrF at h
  split at h
  · rename_i ds e
    split at h
    · cases h
    · rename_i hn; exact ⟨ds, e, hn, h⟩
  · cases h
theorem whole_int {d : D} (h : whole d = true) : ∃ i : Int, d = .int i ∧ 0 ≤ i ∧ i < 100 := by
  cases d with
  | int i => exact ⟨i, rfl, by have : 0 ≤ i ∧ i ≤ 99 := (by simpa [whole, whB] using h); omega⟩
  | _ => cases h
theorem all_ints : ∀ {cs : List D}, cs.all whole = true → ∃ ys : List Int, cs = ys.map D.int ∧ Rw ys
  | [], _ => ⟨[], rfl, fun x hx => by simp at hx⟩
  | c :: cs, h => by
    simp only [List.all_cons, Bool.and_eq_true] at h
    obtain ⟨i, rfl, h0, h1⟩ := whole_int h.1
    obtain ⟨ys, rfl, r⟩ := all_ints h.2
    exact ⟨i :: ys, rfl, fun x hx => by
      rcases List.mem_cons.mp hx with rfl | hx
      · exact ⟨h0, h1⟩
      · exact r x hx⟩
theorem hue_ints {m : Int} {d : D} (h : hueB m d = true) : ∃ ys : List Int, itemsOf d = some (ys.map D.int) ∧ (ys.length : Int) = m ∧ Rw ys := by
  unfold hueB at h
  split at h
  · rename_i cs e
    simp only [Bool.and_eq_true, decide_eq_true_eq] at h
    obtain ⟨ys, rfl, r⟩ := all_ints h.2
    exact ⟨ys, e, by simpa using h.1, r⟩
  · cases h
/-! ### the law's own judgement -/
local macro_rules
  | `(tactic| solve | $a | $b | $c | $d | $e) => `(tactic| (repeat' (first
      | (apply_rules (transparency := .reducible) (symm := false) (exfalso := false) (maxDepth := 1000) only [@b_ok, @b_okS, @b_nx, @b_seq, @b_op, @b_ret, @b_cons, @b_nil, @b_CB, @b_C1, @b_set, @b_tb, @b_bl, @b_if, @b_end, @b_preps, @b_prepF, @b_preps0, @b_call, @b_owns, @b_owns0])
      | (apply_rules (transparency := .reducible) (symm := false) (exfalso := false) (maxDepth := 1000) only [@b_nret, @b_nexc, @b_exc, @b_excS, @b_nbrk, @b_nct, @b_mret, @b_expr, @b_setI, @b_un, @b_C2, @b_tru, @b_and, @b_or, @b_not, @b_notT, @b_andV, @b_orV, @b_blE, @b_ifE, @b_add, @b_neg, @b_aug, @b_prepT, @b_frzs, @b_frzs0, @b_tup, @b_lst, @b_isN, @b_notN, @b_isi, @b_raise, @b_ownS, @b_bnd, @b_iter, @b_fseq, @b_mfor, @b_enum, @b_callK, @b_sl, @b_part, @b_pi])
      | ((with_reducible apply b_var); rfl; (focus (first | rfl | assumption)); (focus (first | rfl | assumption)))
      | ((with_reducible apply b_varO); rfl; (focus (first | rfl | assumption)))
      | ((with_reducible apply b_st); exact Nat.le_of_ble_eq_true rfl)
      | ((with_reducible apply b_mvS); rfl; (focus (first | rfl | assumption)))
      | ((with_reducible apply b_mv); (focus (first | assumption | (intro _ z; cases z; done))))
      | ((with_reducible apply b_frzS); rfl; (focus (first | rfl | assumption)))
      | ((with_reducible apply b_frzG); focus (first | assumption | rfl))
      | ((with_reducible apply b_frz); (focus (first | assumption | (intro _ z; cases z; done))))
      | ((with_reducible apply b_own); (focus (first | assumption | (intro _ z; cases z; done))))
      | ((with_reducible apply b_II); focus (first | rfl | $c))
      | ((with_reducible apply b_look2); (focus (first | rfl | exact dr_gd (by assumption))); (focus (first | rfl | exact dr_gd (by assumption))); focus (first | exact gEqF | exact gNeF | $a | rfl))
      | ((with_reducible apply b_look); (focus (first | rfl | exact dr_gd (by assumption))); focus (first | $a | rfl))
      | ((with_reducible apply b_trv); (focus (first | rfl | exact dr_gd (by assumption))); rfl)
      | ((with_reducible apply b_io); rfl)
      | ((with_reducible apply b_lim); exact Nat.le_of_ble_eq_true rfl)
      | ((with_reducible apply b_setD); rfl)
      | ((with_reducible apply b_setK); rfl; rfl)
      | ((with_reducible apply b_LM); rfl)
      | ((with_reducible apply b_ifT); focus (first | rfl | $b))
      | ((with_reducible apply b_ifF); focus (first | rfl | $b))
      | ((with_reducible apply b_eT); focus (first | rfl | $b))
      | ((with_reducible apply b_eF); focus (first | rfl | $b))
      | ((with_reducible apply b_rng1); focus (first | (simp [okR]; done) | (simp [okR]; omega)))
      | ((with_reducible apply b_rng2); focus (first | (simp [okR]; done) | (simp [okR]; omega)))
      | ((with_reducible apply b_back); focus (first | rfl | exact cb_f rfl rfl))
      | ((with_reducible apply b_seqF); rfl)
      | ((with_reducible apply b_LMr); rfl; focus (refine lApp ?_; first | (simp; done) | (simp; omega) | $e))
      | ((with_reducible apply b_rz); exact ⟨rfl, Nat.le_of_ble_eq_true rfl, Nat.le_of_ble_eq_true rfl⟩)
      | $d
      | fail)))
theorem due_k {F S : D} {u : Int} {Q : Res D → List D → Prop} (gF : dg F = true) (gS : dg S = true) (hd7 : dp S < 7) (k : Q (.ok (rul F S u)) []) : Ef f__law_due [F, S, .int u] Q := by
  refine ef_fun ?_
  show Es m__law_due [some F, some S, some (.int u), none, none, none, none] _
  unfold m__law_due
  have g1 := dg_gd gF
  have o1 := gd_own g1
  have ox1 := gd_isX g1
  have n1 := gd_nsl g1
  have g2 := dg_gd gS
  have o2 := gd_own g2
  have ox2 := gd_isX g2
  have n2 := gd_nsl g2
  rcases items_cases F with ⟨fs, eF⟩ | eF
  case inr =>
    have k' : Q (.ok (.ol [.str "firsts", .int (0 : Nat)])) [] := by simpa [rul, fstF, eF] using k
    solve | exact isi_no g1 eF | (first | (simp; done) | (simp; omega)) | (first | (simp; done) | (simp; omega)) | fail | fail
    exact ⟨_, rfl, k'⟩
  obtain ⟨hlF, hgF, hdF, hbF⟩ := dg_items gF eF
  by_cases hl : 1 ≤ fs.length ∧ fs.length ≤ 4
  case neg =>
    have k' : Q (.ok (.ol [.str "firsts", .int (0 : Nat)])) [] := by simpa [rul, fstF, eF, hl] using k
    by_cases h1 : (1 : Int) ≤ (fs.length : Nat)
    · have h4 : ¬ ((fs.length : Nat) : Int) ≤ 4 := by omega
      solve | (first | exact isi_seq eF | exact len_seq eF) | (first | (simp; done) | (simp; omega)) | (first | (simp; done) | (simp; omega)) | fail | fail
      try refine b_chain ?_
      solve | exact len_seq eF | (first | (simp; done) | (simp [h1]; done) | (simp [h4]; done) | (simp; omega)) | (first | (simp; done) | (simp; omega)) | fail | fail
      exact ⟨_, rfl, k'⟩
    · solve | (first | exact isi_seq eF | exact len_seq eF) | (first | (simp; done) | (simp; omega)) | (first | (simp; done) | (simp; omega)) | fail | fail
      try refine b_chain ?_
      solve | exact len_seq eF | (first | (simp; done) | (simp [h1]; done) | (simp; omega)) | (first | (simp; done) | (simp; omega)) | fail | fail
      exact ⟨_, rfl, k'⟩
  have ef0 : fstF none F = bad fs 0 := by simp [fstF, eF, hl]
  have h1 : (1 : Int) ≤ (fs.length : Nat) := by omega
  have h4 : ((fs.length : Nat) : Int) ≤ 4 := by omega
  solve | (first | exact isi_seq eF | exact len_seq eF) | (first | (simp; done) | (simp; omega)) | (first | (simp; done) | (simp; omega)) | fail | fail
  try refine b_chain ?_
  solve | (first | exact isi_seq eF | exact len_seq eF) | (first | (simp; done) | (simp [h1]; done) | (simp [h4]; done) | (simp; omega)) | (first | (simp; done) | (simp; omega)) | fail | fail
  refine es_for (fun dsl ρ => ∃ (i : Nat) (x : Option D), dsl = SV.upTo i (fs.length - i) ∧ i ≤ fs.length ∧ ρ = [some F, some S, some (.int u), x, none, none, none] ∧ bad (fs.drop i) i = bad fs 0) ?_ ?_ _ _ ⟨0, none, by simp, Nat.zero_le _, rfl, by simp⟩
  rotate_left
  · rintro d dsl ρ ⟨i, x, e, hi, rfl, eb⟩
    have hlt : i < fs.length := by
      rcases Nat.lt_or_ge i fs.length with z | z
      · exact z
      · rw [Nat.sub_eq_zero_of_le z] at e; cases e
    rw [show fs.length - i = (fs.length - (i + 1)) + 1 by omega, upTo_succ] at e
    cases e
    have hget : fs[i]? = some fs[i] := List.getElem?_eq_getElem hlt
    have gx := dg_gd (hgF _ (List.getElem_mem hlt))
    have iF := gIx_at eF hget gx
    have hdr : fs.drop i = fs[i] :: fs.drop (i + 1) := List.drop_eq_getElem_cons hlt
    generalize fs[i] = z at hget gx iF hdr
    have nz := gd_nsl gx
    have wk : ∀ {Q : Res D → List D → Prop}, Q (.ok (.bl (whole z))) [] → Ef f__law_number [z, .int 99] Q := fun {Q} k => number_k gx k
    refine ⟨_, rfl, ?_⟩
    cases hw : whole z with
    | true =>
      solve | exact iF | (simp [hw]; done) | (first | (simp; done) | (simp; omega)) | refine wk ?_ | fail
      exact ⟨i + 1, _, rfl, by omega, rfl, by rw [← eb, hdr]; simp [bad, hw]⟩
    | false =>
      have k' : Q (.ok (.ol [.str "firsts", .int (i : Nat)])) [] := by
        have : bad fs 0 = some i := by rw [← eb, hdr]; simp [bad, hw]
        simpa [rul, ef0, this] using k
      solve | exact iF | (simp [hw]; done) | (first | (simp; done) | (simp; omega)) | refine wk ?_ | fail
      exact ⟨_, rfl, k'⟩
  rintro ρ ⟨i, x, e, hi, rfl, eb⟩
  have hie : i = fs.length := by
    rcases Nat.lt_or_ge i fs.length with z | z
    · rw [show fs.length - i = (fs.length - (i + 1)) + 1 by omega, upTo_succ] at e; cases e
    · omega
  have b0 : bad fs 0 = none := by rw [← eb, hie, List.drop_length]; rfl
  obtain ⟨xs, efs, rwx⟩ := bad_none b0
  have k : Q (.ok (match sgtsF F S u with
    | some (j, w) => .ol [.str "sight", .int (j : Nat), .str w]
    | none => bareD S)) [] := by simpa [rul, ef0, b0] using k
  clear eb e hie hi
  refine b_nx ?_
  rcases items_cases S with ⟨ss, eS⟩ | eS
  case inr =>
    have k' : Q (.ok (.ol [.str "sight", .int (0 : Nat), .str "many"])) [] := by simpa [sgtsF, eS] using k
    solve | exact isi_no g2 eS | (first | (simp; done) | (simp; omega)) | (first | (simp; done) | (simp; omega)) | fail | fail
    exact ⟨_, rfl, k'⟩
  obtain ⟨hlS, hgS, hdS, hbS⟩ := dg_items gS eS
  by_cases hu : u < (ss.length : Int)
  case pos =>
    have k' : Q (.ok (.ol [.str "sight", .int (0 : Nat), .str "many"])) [] := by simpa [sgtsF, eS, hu] using k
    solve | (first | exact isi_seq eS | exact len_seq eS) | (simp [hu]; done) | (first | (simp; done) | (simp; omega)) | fail | fail
    exact ⟨_, rfl, k'⟩
  have k : Q (.ok (match sightsF fs ss 0 with
    | some (j, w) => .ol [.str "sight", .int (j : Nat), .str w]
    | none => bareD S)) [] := by simpa [sgtsF, eS, hu, eF] using k
  solve | (first | exact isi_seq eS | exact len_seq eS) | (first | (simp [hu]; done) | (simp; omega)) | (first | (simp; done) | (simp; omega)) | fail | fail
  refine es_for (fun dsl ρ => ∃ (i : Nat) (x y z t : Option D), dsl = SV.upTo i (ss.length - i) ∧ i ≤ ss.length ∧ ρ = [some F, some S, some (.int u), x, y, z, t] ∧ sightsF fs (ss.drop i) i = sightsF fs ss 0) ?_ ?_ _ _ ⟨0, x, none, none, none, by simp, Nat.zero_le _, rfl, by simp⟩
  · rintro ρ ⟨i, x, y, z, t, e, hi, rfl, eb⟩
    have hie : i = ss.length := by
      rcases Nat.lt_or_ge i ss.length with z | z
      · rw [show ss.length - i = (ss.length - (i + 1)) + 1 by omega, upTo_succ] at e; cases e
      · omega
    have b1 : sightsF fs ss 0 = none := by rw [← eb, hie, List.drop_length]; rfl
    rw [b1] at k
    have nb := gd_nsl (dg_gd (dg_bare 7 S hd7 gS).1)
    solve | fail | (first | (simp; done) | (simp; omega)) | (first | (simp; done) | (simp; omega)) | refine bare_k 7 gS hd7 ?_ | fail
    exact ⟨_, rfl, k⟩
  rintro d dsl ρ ⟨i, x, y, z, t, e, hi, rfl, eb⟩
  have hlt : i < ss.length := by
    rcases Nat.lt_or_ge i ss.length with z | z
    · exact z
    · rw [Nat.sub_eq_zero_of_le z] at e; cases e
  rw [show ss.length - i = (ss.length - (i + 1)) + 1 by omega, upTo_succ] at e
  cases e
  have hget : ss[i]? = some ss[i] := List.getElem?_eq_getElem hlt
  have gs := hgS _ (List.getElem_mem hlt)
  have gx := dg_gd gs
  have iS := gIx_at eS hget gx
  have hdr : ss.drop i = ss[i] :: ss.drop (i + 1) := List.drop_eq_getElem_cons hlt
  generalize ss[i] = s at hget gs gx iS hdr
  have ns := gd_nsl gx
  have os := gd_own gx
  have oxs := gd_isX gx
  have key : ∀ w, sightF fs s = some w → Q (.ok (.ol [.str "sight", .int (i : Nat), .str w])) [] := fun w hw => by
    have : sightsF fs ss 0 = some (i, w) := by rw [← eb, hdr]; simp [sightsF, hw]
    rw [this] at k
    exact k
  have keyN : sightF fs s = none → sightsF fs (ss.drop (i + 1)) (i + 1) = sightsF fs ss 0 := fun hw => by rw [← eb, hdr]; simp [sightsF, hw]
  clear eb hdr
  refine ⟨_, rfl, ?_⟩
  rcases items_cases s with ⟨its, es⟩ | es
  case inr =>
    have kk := key "sight" (by unfold sightF; rw [es])
    solve | (first | exact iS | exact isi_no gx es) | (first | (simp; done) | (simp; omega)) | (first | (simp; done) | (simp; omega)) | fail | fail
    exact ⟨_, rfl, kk⟩
  rcases its with _ | ⟨sc, _ | ⟨rw_, _ | ⟨z3, r3⟩⟩⟩
  · have kk := key "sight" (by unfold sightF; rw [es])
    solve | (first | exact iS | exact isi_seq es | exact len_seq es) | (first | (simp; done) | (simp; omega)) | (first | (simp; done) | (simp; omega)) | fail | fail
    exact ⟨_, rfl, kk⟩
  · have kk := key "sight" (by unfold sightF; rw [es])
    solve | (first | exact iS | exact isi_seq es | exact len_seq es) | (first | (simp; done) | (simp; omega)) | (first | (simp; done) | (simp; omega)) | fail | fail
    exact ⟨_, rfl, kk⟩
  rotate_left
  · have kk := key "sight" (by unfold sightF; rw [es])
    solve | (first | exact iS | exact isi_seq es | exact len_seq es) | (first | (simp; done) | (simp; omega)) | (first | (simp; done) | (simp; omega)) | fail | fail
    exact ⟨_, rfl, kk⟩
  obtain ⟨hls, hgs, hds, hbs⟩ := dg_items gs es
  have gsc := hgs sc (by simp)
  have grw := hgs rw_ (by simp)
  have gsc1 := dg_gd gsc
  have grw1 := dg_gd grw
  have i0 := gIx0 es gsc1
  have i1 := gIx1 es grw1
  have nsc := gd_nsl gsc1
  have nrw := gd_nsl grw1
  have orw := gd_own grw1
  have oxrw := gd_isX grw1
  cases hsc : scrF fs.length sc with
  | some zz =>
    have kk := key "script" (by unfold sightF; rw [es]; simp only [hsc])
    solve | (first | exact iS | exact isi_seq es | exact len_seq es | exact i0 | exact len_seq eF) | (first | (simp; done) | (simp; omega)) | (first | (simp; done) | (simp; omega)) | refine pours_k gsc (fun e => by rw [hsc] at e; cases e) (fun _ _ => ?_) | fail
    exact ⟨_, rfl, kk⟩
  | none =>
    obtain ⟨ps, eps, hps, hscb⟩ := scr_items hsc
    have sw : sightF fs s = (if rowsB fs.length (ps.length + 1) rw_ = true then (if firstRow rw_ = intsOf fs then (none : Option Str) else some (Str.ofString "firsts")) else some (Str.ofString "rows")) := by unfold sightF; rw [es]; simp only [hsc, eps]
    rcases items_cases rw_ with ⟨rs, ers⟩ | ers
    case inr =>
      have kk := key "rows" (by rw [sw]; simp [rowsB, ers])
      solve | (first | exact iS | exact isi_seq es | exact len_seq es | exact i0 | exact i1 | exact len_seq eF | exact isi_no grw1 ers) | (first | (simp; done) | (simp; omega)) | (first | (simp; done) | (simp; omega)) | refine pours_k gsc (fun _ => ?_) (fun _ e => by rw [hsc] at e; cases e) | fail
      exact ⟨_, rfl, kk⟩
    obtain ⟨hlr, hgr, hdr, hbr⟩ := dg_items grw ers
    by_cases hlen : ((rs.length : Nat) : Int) = (ps.length : Nat) + 1
    case neg =>
      have kk := key "rows" (by rw [sw]; simp [rowsB, ers, hlen])
      solve | (first | exact iS | exact isi_seq es | exact len_seq es | exact i0 | exact i1 | exact len_seq eF | exact len_seq eps | exact isi_seq ers | exact len_seq ers) | (first | (simp; done) | (simp [hlen]; done)) | (first | (simp; done) | (simp; omega)) | refine pours_k gsc (fun _ => ?_) (fun _ e => by rw [hsc] at e; cases e) | fail
      exact ⟨_, rfl, kk⟩
    solve | (first | exact iS | exact isi_seq es | exact len_seq es | exact i0 | exact i1 | exact len_seq eF | exact len_seq eps | exact isi_seq ers | exact len_seq ers) | (first | (simp; done) | (simp [hlen]; done)) | (first | (simp; done) | (simp; omega)) | refine pours_k gsc (fun _ => ?_) (fun _ e => by rw [hsc] at e; cases e) | fail
    refine ev_lc (fun dsl acc ρ => ∃ (done rest : List D), dsl = rest ∧ (acc.isEmpty = done.all (hueB fs.length)) ∧ done ++ rest = rs ∧ ρ = [some F, some S, some (.int u), some (.int (i : Nat)), some s, some rw_, none]) ?_ ?_ ?_
    · obtain ⟨bb, hq⟩ := iter_th ers
      solve | fail | (first | (simp; done) | (simp; omega)) | (first | (simp; done) | (simp; omega)) | fail | fail
      refine b_seqF hq ?_
      solve | fail | (first | (simp; done) | (simp; omega)) | (first | (simp; done) | (simp; omega)) | fail | fail
      exact ⟨⟨[], rs, rfl, rfl, rfl, rfl⟩, by show rs.length ≤ lim; simp [lim]; omega⟩
    · rintro acc ρ ⟨done, rest, e1, ha, hdn, rfl⟩
      subst e1
      rw [List.append_nil] at hdn
      subst hdn
      cases hall : done.all (hueB fs.length) with
      | false =>
        rw [hall] at ha
        have kk := key "rows" (by rw [sw]; simp only [rowsB, ers, hall, Bool.and_false]; rfl)
        solve | fail | (simp [ha]; done) | (first | (simp; done) | (simp; omega)) | fail | fail
        exact ⟨_, rfl, kk⟩
      | true =>
        rw [hall] at ha
        have rb : rowsB fs.length (ps.length + 1) rw_ = true := by simp [rowsB, ers, hall, hlen]
        rw [if_pos rb] at sw
        rcases done with _ | ⟨r0, rr⟩
        · simp at hlen; omega
        obtain ⟨ys, ey, ly, ry⟩ := hue_ints (show hueB fs.length r0 = true by simp only [List.all_cons, Bool.and_eq_true] at hall; exact hall.1)
        have gr0 := dg_gd (hgr r0 (by simp))
        have ir0 := gIx_at (i := 0) ers rfl gr0
        have fr : firstRow rw_ = ys := by unfold firstRow; rw [ers]; simp only [ey]; exact intsOf_ints ys
        have fi : intsOf fs = xs := by rw [efs]; exact intsOf_ints xs
        rw [fr, fi] at sw
        have eF' : itemsOf F = some (xs.map D.int) := by rw [eF, efs]
        have teq : gEq true (.tup (ys.map D.int)) (.tup (xs.map D.int)) = some (.bl (!decide (ys = xs))) := gEq_tt
        by_cases hyx : ys = xs
        · rw [if_pos hyx] at sw
          have kn := keyN sw
          solve | (first | exact ir0 | exact teq) | (first | (simp [ha]; done) | (simp [hyx]; done)) | (first | (simp; done) | (simp; omega)) | (first | refine tupOf_th ey (gd_ints _) ?_ | refine tupOf_th eF' (gd_ints _) ?_) | fail
          exact ⟨i + 1, _, _, _, _, rfl, by omega, rfl, kn⟩
        · rw [if_neg hyx] at sw
          have kk := key _ sw
          solve | (first | exact ir0 | exact teq) | (first | (simp [ha]; done) | (simp [hyx]; done)) | (first | (simp; done) | (simp; omega)) | (first | refine tupOf_th ey (gd_ints _) ?_ | refine tupOf_th eF' (gd_ints _) ?_) | fail
          exact ⟨_, rfl, kk⟩
    · rintro x dsl acc ρ ⟨done, rest, e1, ha, hdn, rfl⟩
      cases rest with
      | nil => cases e1
      | cons r rest =>
        cases e1
        have hmm : x ∈ rs := by rw [← hdn]; simp
        have gxx := hgr x hmm
        have gx1 := dg_gd gxx
        have gox := gd_own gx1
        have gxx2 := gd_isX gx1
        have wk : ∀ {Q : Res D → List D → Prop}, Q (.ok (.bl (hueB fs.length x))) [] → Ef f__law_hues [x, .int (fs.length : Nat)] Q := fun {Q} k => hues_k gxx k
        refine ⟨_, rfl, ?_⟩
        cases hw : hueB fs.length x with
        | true =>
          solve | exact len_seq eF | (first | (simp; done) | (simp; omega)) | (first | (simp; done) | (simp; omega)) | refine wk ?_ | fail
          refine ⟨false, by simp [hw], ?_⟩
          rw [if_neg Bool.false_ne_true]
          exact ⟨done ++ [x], dsl, rfl, by simp [ha, hw], by simpa using hdn, rfl⟩
        | false =>
          solve | exact len_seq eF | (first | (simp; done) | (simp; omega)) | (first | (simp; done) | (simp; omega)) | refine wk ?_ | fail
          refine ⟨true, by simp [hw], ?_⟩
          rw [if_pos rfl]
          solve | fail | (first | (simp; done) | (simp; omega)) | (first | (simp; done) | (simp; omega)) | fail | fail
          refine ⟨_, rfl, ?_⟩
          solve | fail | (first | (simp; done) | (simp; omega)) | (first | (simp; done) | (simp; omega)) | fail | fail
          exact ⟨_, rfl, done ++ [x], dsl, rfl, by simp [hw], by simpa using hdn, rfl⟩
end LAWP
end
section
set_option Elab.async false
set_option linter.all false
set_option autoImplicit false
set_option maxRecDepth 100000
set_option maxHeartbeats 0
set_option pp.maxSteps 400
namespace LAWP
open PySem PySem.Spec L2 SV LAWM
/-! ### the program's checks -/
local macro_rules
  | `(tactic| solve | $a | $b | $c | $d | $e) => `(tactic| (repeat' (first
      | (apply_rules (transparency := .reducible) (symm := false) (exfalso := false) (maxDepth := 1000) only [@b_ok, @b_okS, @b_nx, @b_seq, @b_op, @b_ret, @b_cons, @b_nil, @b_CB, @b_C1, @b_set, @b_tb, @b_bl, @b_if, @b_end, @b_preps, @b_prepF, @b_preps0, @b_call, @b_owns, @b_owns0])
      | (apply_rules (transparency := .reducible) (symm := false) (exfalso := false) (maxDepth := 1000) only [@b_nret, @b_nexc, @b_exc, @b_excS, @b_nbrk, @b_nct, @b_mret, @b_expr, @b_setI, @b_un, @b_C2, @b_tru, @b_and, @b_or, @b_not, @b_notT, @b_andV, @b_orV, @b_blE, @b_ifE, @b_add, @b_neg, @b_aug, @b_prepT, @b_frzs, @b_frzs0, @b_tup, @b_lst, @b_isN, @b_notN, @b_isi, @b_raise, @b_ownS, @b_bnd, @b_iter, @b_fseq, @b_mfor, @b_enum, @b_callK, @b_sl, @b_part, @b_pi])
      | ((with_reducible apply b_var); rfl; (focus (first | rfl | assumption)); (focus (first | rfl | assumption)))
      | ((with_reducible apply b_varO); rfl; (focus (first | rfl | assumption)))
      | ((with_reducible apply b_st); exact Nat.le_of_ble_eq_true rfl)
      | ((with_reducible apply b_mvS); rfl; (focus (first | rfl | assumption)))
      | ((with_reducible apply b_mv); (focus (first | assumption | (intro _ z; cases z; done))))
      | ((with_reducible apply b_frzS); rfl; (focus (first | rfl | assumption)))
      | ((with_reducible apply b_frzG); focus (first | assumption | rfl))
      | ((with_reducible apply b_frz); (focus (first | assumption | (intro _ z; cases z; done))))
      | ((with_reducible apply b_own); (focus (first | assumption | (intro _ z; cases z; done))))
      | ((with_reducible apply b_II); focus (first | rfl | $c))
      | ((with_reducible apply b_look2); (focus (first | rfl | exact dr_gd (by assumption))); (focus (first | rfl | exact dr_gd (by assumption))); focus (first | exact gEqF | exact gNeF | $a | rfl))
      | ((with_reducible apply b_look); (focus (first | rfl | exact dr_gd (by assumption))); focus (first | $a | rfl))
      | ((with_reducible apply b_trv); (focus (first | rfl | exact dr_gd (by assumption))); rfl)
      | ((with_reducible apply b_io); rfl)
      | ((with_reducible apply b_lim); exact Nat.le_of_ble_eq_true rfl)
      | ((with_reducible apply b_setD); rfl)
      | ((with_reducible apply b_setK); rfl; rfl)
      | ((with_reducible apply b_LM); rfl)
      | ((with_reducible apply b_ifT); focus (first | rfl | $b))
      | ((with_reducible apply b_ifF); focus (first | rfl | $b))
      | ((with_reducible apply b_eT); focus (first | rfl | $b))
      | ((with_reducible apply b_eF); focus (first | rfl | $b))
      | ((with_reducible apply b_rng1); focus (first | (simp [okR]; done) | (simp [okR]; omega)))
      | ((with_reducible apply b_rng2); focus (first | (simp [okR]; done) | (simp [okR]; omega)))
      | ((with_reducible apply b_back); focus (first | rfl | exact cb_f rfl rfl))
      | ((with_reducible apply b_seqF); rfl)
      | ((with_reducible apply b_LMr); rfl; focus (refine lApp ?_; first | (simp; done) | (simp; omega) | $e))
      | ((with_reducible apply b_rz); exact ⟨rfl, Nat.le_of_ble_eq_true rfl, Nat.le_of_ble_eq_true rfl⟩)
      | $d
      | fail)))
theorem are_rows_k {m kk : Int} {d : D} {Q : Res D → List D → Prop} (g : dg d = true) (k : Q (.ok (.bl (rowsB m kk d))) []) : Ef f_are_rows [.int m, .int kk, d] Q := by
  refine ef_fun ?_
  show Es m_are_rows [some (.int m), some (.int kk), some d, none, none] _
  unfold m_are_rows
  have gg := dg_gd g
  have o := gd_own gg
  have ox := gd_isX gg
  have nn := gd_nsl gg
  rcases items_cases d with ⟨rs, e⟩ | e
  case inr =>
    have k' : Q (.ok (.bl false)) [] := by simpa [rowsB, e] using k
    solve | exact isi_no gg e | (first | (simp; done) | (simp; omega)) | (first | (simp; done) | (simp; omega)) | fail | fail
    exact ⟨_, rfl, k'⟩
  obtain ⟨hl, hg, hd, hb⟩ := dg_items g e
  by_cases hm : ((rs.length : Nat) : Int) = kk
  case neg =>
    have k' : Q (.ok (.bl false)) [] := by simpa [rowsB, e, hm] using k
    solve | (first | exact isi_seq e | exact len_seq e) | (simp [hm]; done) | (first | (simp; done) | (simp; omega)) | fail | fail
    exact ⟨_, rfl, k'⟩
  have k : Q (.ok (.bl (rs.all (hueB m)))) [] := by simpa [rowsB, e, hm] using k
  obtain ⟨bb, hq⟩ := iter_th e
  solve | (first | exact isi_seq e | exact len_seq e) | (simp [hm]; done) | (first | (simp; done) | (simp; omega)) | fail | fail
  refine b_seqF hq ?_
  solve | fail | (first | (simp; done) | (simp; omega)) | (first | (simp; done) | (simp; omega)) | fail | fail
  refine es_for (fun dsl ρ => ∃ (rest : List D) (x y : Option D), dsl = rest ∧ ρ = [some (.int m), some (.int kk), some d, x, y] ∧ (∀ z ∈ rest, dg z = true) ∧ rest.all (hueB m) = rs.all (hueB m)) ?_ ?_ _ _ ⟨rs, none, none, rfl, rfl, hg, rfl⟩
  · rintro ρ ⟨rest, x, y, e1, rfl, gr, ea⟩
    subst e1
    have k' : Q (.ok (.bl true)) [] := by rw [← ea] at k; exact k
    solve | fail | (first | (simp; done) | (simp; omega)) | (first | (simp; done) | (simp; omega)) | fail | fail
    exact ⟨_, rfl, k'⟩
  rintro r dsl ρ ⟨rest, x, y, e1, rfl, gr, ea⟩
  subst e1
  have gr0 := gr r (by simp)
  have gg0 := dg_gd gr0
  have go := gd_own gg0
  have gx := gd_isX gg0
  have no := hueB m r
  refine ⟨_, rfl, ?_⟩
  have kf : hueB m r = false → Q (.ok (.bl false)) [] := fun h => by
    rw [← ea] at k
    simpa [h] using k
  rcases items_cases r with ⟨cs, er⟩ | er
  case inr =>
    have k' := kf (by simp [hueB, er])
    solve | exact isi_no gg0 er | (first | (simp; done) | (simp; omega)) | (first | (simp; done) | (simp; omega)) | fail | fail
    exact ⟨_, rfl, k'⟩
  obtain ⟨hlc, hgc, _, _⟩ := dg_items gr0 er
  by_cases hc : ((cs.length : Nat) : Int) = m
  case neg =>
    have k' := kf (by simp [hueB, er, hc])
    solve | (first | exact isi_seq er | exact len_seq er) | (simp [hc]; done) | (first | (simp; done) | (simp; omega)) | fail | fail
    exact ⟨_, rfl, k'⟩
  obtain ⟨b2, hq2⟩ := iter_th er
  solve | (first | exact isi_seq er | exact len_seq er) | (simp [hc]; done) | (first | (simp; done) | (simp; omega)) | fail | fail
  refine b_seqF hq2 ?_
  solve | fail | (first | (simp; done) | (simp; omega)) | (first | (simp; done) | (simp; omega)) | fail | fail
  refine es_for (fun dsl2 ρ => ∃ (rest2 : List D) (y : Option D), dsl2 = rest2 ∧ ρ = [some (.int m), some (.int kk), some d, some r, y] ∧ (∀ z ∈ rest2, dg z = true) ∧ rest2.all whole = cs.all whole) ?_ ?_ _ _ ⟨cs, y, rfl, rfl, hgc, rfl⟩
  · rintro ρ ⟨rest2, y, e2, rfl, gr2, ea2⟩
    subst e2
    have hr : hueB m r = true := by simp only [hueB, er]; rw [← ea2]; simp [hc]
    exact ⟨dsl, some r, y, rfl, rfl, fun z hz => gr z (by simp [hz]), by rw [← ea]; simp [hr]⟩
  · rintro c dsl2 ρ ⟨rest2, y, e2, rfl, gr2, ea2⟩
    subst e2
    have gc := dg_gd (gr2 c (by simp))
    have goc := gd_own gc
    have gxc := gd_isX gc
    have wk : ∀ {Q : Res D → List D → Prop}, Q (.ok (.bl (whole c))) [] → Ef f_is_whole [c, .int 0, .int 99] Q := fun {Q} k => whole_k gc k
    refine ⟨_, rfl, ?_⟩
    cases hw : whole c with
    | true =>
      solve | fail | (simp [hw]; done) | (first | (simp; done) | (simp; omega)) | refine wk ?_ | fail
      exact ⟨dsl2, _, rfl, rfl, fun z hz => gr2 z (by simp [hz]), by rw [← ea2]; simp [hw]⟩
    | false =>
      have k' := kf (by simp only [hueB, er]; rw [← ea2]; simp [hw])
      solve | fail | (simp [hw]; done) | (first | (simp; done) | (simp; omega)) | refine wk ?_ | fail
      exact ⟨_, rfl, k'⟩
theorem ints_map (ys : List Int) : (ys.map D.int).map bareD = ys.map D.int := by
  rw [List.map_map]
  apply List.map_congr_left
  intro x _
  rfl
theorem bare_ints {d : D} {ys : List Int} (g : dg d = true) (e : itemsOf d = some (ys.map D.int)) : bareD d = tupO d := by
  rw [(dg_items g e).2.2.2, ints_map]
  unfold tupO
  rw [e]
theorem all_mem {α : Type} {p : α → Bool} {xs : List α} (h : xs.all p = true) : ∀ x ∈ xs, p x = true := List.all_eq_true.mp h
theorem script_n {sc : D} {ps : List D} {m : Int} {Q : Res D → List D → Prop} (mk : mk4 (.int m) = true) (g : dg sc = true) (e : itemsOf sc = some ps) (h : scrF m sc = none) (k : Q (.ok (.tup (ps.map tupO))) []) : Ef f_check_script [.int m, sc] Q :=
  script_k rfl (dg_sc g) (fun z => by rw [mk] at z; cases z) (fun m2 ds e1 _ e3 e2 => by cases e1; rw [e] at e3; cases e3; exact k) (fun m2 j2 w2 e1 _ e2 => by cases e1; rw [h] at e2; cases e2)
theorem script_s {sc : D} {m : Int} {j : Nat} {w : Str} {Q : Res D → List D → Prop} (mk : mk4 (.int m) = true) (g : dg sc = true) (h : scrF m sc = some (j, w)) (k : Q (.exc "BadScript" [("index", .int (j : Nat)), ("what", .str w)]) []) : Ef f_check_script [.int m, sc] Q :=
  script_k rfl (dg_sc g) (fun z => by rw [mk] at z; cases z) (fun m2 ds e1 _ e3 e2 => by cases e1; rw [h] at e2; cases e2) (fun m2 j2 w2 e1 _ e2 => by cases e1; rw [h] at e2; cases e2; exact k)
/-- one sight -/
theorem one_k {s : D} {xs : List Int} {i : Nat} {Q : Res D → List D → Prop} (gs : dg s = true) (hl : 1 ≤ xs.length ∧ xs.length ≤ 4) (k1 : ∀ w, sightF (xs.map D.int) s = some w → Q (.exc "BadSight" [("index", .int (i : Nat)), ("what", .str w)]) [])
    (k2 : sightF (xs.map D.int) s = none → Q (.ok (bareD s)) []) : Ef f_check_one_sight [.tup (xs.map D.int), .int (i : Nat), s] Q := by
  refine ef_fun ?_
  show Es m_check_one_sight [some (.tup (xs.map D.int)), some (.int (i : Nat)), some s, none, none, none] _
  unfold m_check_one_sight
  have gx := dg_gd gs
  have ns := gd_nsl gx
  have os := gd_own gx
  have oxs := gd_isX gx
  have lF : gLen (.tup (xs.map D.int)) = some (.int (xs.length : Nat)) := by simp [gLen, D.seq]
  rcases items_cases s with ⟨its, es⟩ | es
  case inr =>
    have kk := k1 "sight" (by unfold sightF; rw [es])
    solve | exact isi_no gx es | (first | (simp; done) | (simp; omega)) | (first | (simp; done) | (simp; omega)) | fail | fail
    exact ⟨_, rfl, kk⟩
  rcases its with _ | ⟨sc, _ | ⟨rw_, _ | ⟨z3, r3⟩⟩⟩
  · have kk := k1 "sight" (by unfold sightF; rw [es])
    solve | (first | exact isi_seq es | exact len_seq es) | (first | (simp; done) | (simp; omega)) | (first | (simp; done) | (simp; omega)) | fail | fail
    exact ⟨_, rfl, kk⟩
  · have kk := k1 "sight" (by unfold sightF; rw [es])
    solve | (first | exact isi_seq es | exact len_seq es) | (first | (simp; done) | (simp; omega)) | (first | (simp; done) | (simp; omega)) | fail | fail
    exact ⟨_, rfl, kk⟩
  rotate_left
  · have kk := k1 "sight" (by unfold sightF; rw [es])
    solve | (first | exact isi_seq es | exact len_seq es) | (first | (simp; done) | (simp; omega)) | (first | (simp; done) | (simp; omega)) | fail | fail
    exact ⟨_, rfl, kk⟩
  obtain ⟨hls, hgs, hds, hbs⟩ := dg_items gs es
  have gsc := hgs sc (by simp)
  have grw := hgs rw_ (by simp)
  have gsc1 := dg_gd gsc
  have grw1 := dg_gd grw
  have i0 := gIx0 es gsc1
  have i1 := gIx1 es grw1
  have nsc := gd_nsl gsc1
  have nrw := gd_nsl grw1
  have mk : mk4 (.int (xs.length : Nat)) = true := by simp [mk4, whB]; omega
  have sF : sightF (xs.map D.int) s = (match scrF xs.length sc with
    | some _ => some (Str.ofString "script")
    | none => (match itemsOf sc with
      | some ps => if rowsB xs.length (ps.length + 1) rw_ = true then (if firstRow rw_ = xs then (none : Option Str) else some (Str.ofString "firsts")) else some (Str.ofString "rows")
      | none => some (Str.ofString "script"))) := by
    unfold sightF
    rw [es]
    simp only [List.length_map, intsOf_ints]
    try rfl
  cases hsc : scrF xs.length sc with
  | some zz =>
    obtain ⟨j, w⟩ := zz
    have kk := k1 "script" (by rw [sF, hsc])
    solve | (first | exact isi_seq es | exact len_seq es | exact i0 | exact lF) | (first | (simp; done) | (simp; omega)) | (first | (simp; done) | (simp; omega)) | (first | refine script_s mk gsc hsc ?_ | with_reducible refine b_tryX ?_ | with_reducible refine b_tynx ?_) | fail
    refine ⟨true, by decide +kernel, ?_⟩
    rw [if_pos rfl]
    have nx : noX [some (.tup (xs.map D.int)), some (.int (i : Nat)), some s, none, none, none] = true := by simp [noX, show (D.tup (xs.map D.int)).isX = false from rfl, show (D.int (i : Nat)).isX = false from rfl, oxs]
    refine b_suiteR nx ?_
    solve | fail | (first | (simp; done) | (simp; omega)) | (first | (simp; done) | (simp; omega)) | fail | fail
    exact ⟨nx, _, rfl, kk⟩
  | none =>
    rw [hsc] at sF
    obtain ⟨ps, eps, hps, hscb⟩ := scr_items hsc
    simp only [eps] at sF
    have hpn := scrB_all hscb
    obtain ⟨hlp, hgp, _, hbp⟩ := dg_items gsc eps
    have ebp : ps.map tupO = ps.map bareD := List.map_congr_left fun p hp => by
      obtain ⟨a, b, e, _⟩ := pour_none (hpn p hp)
      exact (bare_ints (ys := [a, b]) (hgp p hp) e).symm
    have gtp : ∀ x ∈ ps.map bareD, gd x = true := fun x hx => by
      obtain ⟨y, hy, rfl⟩ := List.mem_map.mp hx
      exact dg_gd (dg_bare (dp y + 1) y (by omega) (hgp y hy)).1
    have lP : gLen (.tup (ps.map tupO)) = some (.int (ps.length : Nat)) := by simp [gLen, D.seq]
    have rk : ∀ {Q : Res D → List D → Prop}, Q (.ok (.bl (rowsB xs.length (ps.length + 1) rw_))) [] → Ef f_are_rows [.int (xs.length : Nat), .int ((ps.length : Nat) + 1), rw_] Q := fun {Q} k => are_rows_k grw k
    cases hrb : rowsB xs.length (ps.length + 1) rw_ with
    | false =>
      have kk := k1 "rows" (by rw [sF, hrb]; rfl)
      solve | (first | exact isi_seq es | exact len_seq es | exact i0 | exact i1 | exact lF | exact lP) | (simp [hrb]; done) | (first | (simp; done) | (simp; omega)) | (first | refine script_n mk gsc eps hsc ?_ | with_reducible refine b_tryX ?_ | with_reducible refine b_tynx ?_ | refine rk ?_) | fail
      exact ⟨_, rfl, kk⟩
    | true =>
      rw [hrb, if_pos rfl] at sF
      have hrb2 := hrb
      unfold rowsB at hrb2
      rcases items_cases rw_ with ⟨rs, ers⟩ | ers
      case inr => rw [ers] at hrb2; cases hrb2
      rw [ers] at hrb2
      simp only [Bool.and_eq_true, decide_eq_true_eq] at hrb2
      obtain ⟨hlen, hall⟩ := hrb2
      obtain ⟨hlr, hgr, _, hbr⟩ := dg_items grw ers
      have hri := fun r hr => hue_ints (all_mem hall r hr)
      have ebr : rs.map tupO = rs.map bareD := List.map_congr_left fun r hr => by
        obtain ⟨ys, e, _⟩ := hri r hr
        exact (bare_ints (hgr r hr) e).symm
      have grr : ∀ x ∈ rs.map bareD, gd x = true := fun x hx => by
        obtain ⟨y, hy, rfl⟩ := List.mem_map.mp hx
        exact dg_gd (dg_bare (dp y + 1) y (by omega) (hgr y hy)).1
      obtain ⟨r0, rr, rfl⟩ : ∃ r0 rr, rs = r0 :: rr := by
        rcases rs with _ | ⟨r0, rr⟩
        · simp at hlen; omega
        · exact ⟨r0, rr, rfl⟩
      obtain ⟨ys, ey, ly, _⟩ := hri r0 (by simp)
      have fr : firstRow rw_ = ys := by unfold firstRow; rw [ers]; simp only [ey]; exact intsOf_ints ys
      rw [fr] at sF
      have er0 : tupO r0 = .tup (ys.map D.int) := by unfold tupO; rw [ey]
      have ir0 : gIx (.tup ((r0 :: rr).map tupO)) (.int 0) = some (.tup (ys.map D.int)) := by
        rw [← er0]
        exact gIx_t0 (by rw [er0]; rfl)
      have teq : gEq true (.tup (ys.map D.int)) (.tup (xs.map D.int)) = some (.bl (!decide (ys = xs))) := gEq_tt
      have orw := gd_own grw1
      have oxrw := gd_isX grw1
      have hbs2 : bareD s = .tup [.tup (ps.map tupO), .tup ((r0 :: rr).map tupO)] := by rw [hbs, ebp, ebr, ← hbp, ← hbr]; rfl
      have nsb : ∀ x ∈ (r0 :: rr), ∀ i, tupO x ≠ .sl i := fun x hx i z => by
        obtain ⟨zs, e, _⟩ := hri x hx
        unfold tupO at z
        rw [e] at z
        cases z
      have hlim : (r0 :: rr).length ≤ lim := by show _ ≤ 16777216; omega
      solve | (first | exact isi_seq es | exact len_seq es | exact i0 | exact i1 | exact lF | exact lP) | (simp [hrb]; done) | (first | (simp; done) | (simp; omega)) | (first | refine script_n mk gsc eps hsc ?_ | with_reducible refine b_tryX ?_ | with_reducible refine b_tynx ?_ | refine rk ?_) | fail
      refine ev_lc (fun dsl acc ρ => ∃ (done rest : List D), dsl = rest ∧ acc = done.map tupO ∧ done ++ rest = (r0 :: rr) ∧ ρ = [some (.tup (xs.map D.int)), some (.int (i : Nat)), some s, some (.tup (ps.map tupO)), none, none]) ?_ ?_ ?_
      · obtain ⟨bb, hq⟩ := iter_th ers
        solve | exact i1 | (first | (simp; done) | (simp; omega)) | (first | (simp; done) | (simp; omega)) | fail | fail
        refine b_seqF hq ?_
        solve | fail | (first | (simp; done) | (simp; omega)) | (first | (simp; done) | (simp; omega)) | fail | fail
        exact ⟨⟨[], _, rfl, rfl, rfl, rfl⟩, hlim⟩
      · rintro acc ρ ⟨done, rest, e1, rfl, hdn, rfl⟩
        subst e1
        rw [List.append_nil] at hdn
        subst hdn
        have gt : ∀ x ∈ (r0 :: rr).map tupO, gd x = true := by rw [ebr]; exact grr
        by_cases hyx : ys = xs
        · rw [if_pos hyx] at sF
          have kk := k2 sF
          rw [hbs2] at kk
          solve | (first | exact ir0 | exact teq) | (simp [hyx]; done) | (first | (simp; done) | (simp; omega)) | refine tupOf_g gt ?_ | fail
          exact ⟨_, rfl, kk⟩
        · rw [if_neg hyx] at sF
          have kk := k1 _ sF
          solve | (first | exact ir0 | exact teq) | (simp [hyx]; done) | (first | (simp; done) | (simp; omega)) | refine tupOf_g gt ?_ | fail
          exact ⟨_, rfl, kk⟩
      · rintro x dsl acc ρ ⟨done, rest, e1, rfl, hdn, rfl⟩
        cases rest with
        | nil => cases e1
        | cons r rest =>
          cases e1
          have hm : x ∈ (r0 :: rr) := by rw [← hdn]; simp
          obtain ⟨zs, e, _⟩ := hri x hm
          have et : tupO x = .tup (zs.map D.int) := by unfold tupO; rw [e]
          have g1 := dg_gd (hgr x hm)
          have go := gd_own g1
          have gx := gd_isX g1
          refine ⟨_, rfl, b_ret ⟨true, rfl, ?_⟩⟩
          simp only [if_true]
          solve | fail | (first | (simp; done) | (simp; omega)) | (first | (simp; done) | (simp; omega)) | refine tupOf_th e (gd_ints _) ?_ | fail
          refine ⟨_, rfl, ?_⟩
          solve | fail | (first | (simp; done) | (simp; omega)) | (first | (simp; done) | (simp; omega)) | fail | fail
          exact ⟨_, rfl, done ++ [x], dsl, rfl, by simp [et], by simpa using hdn, rfl⟩
end LAWP
end
section
set_option Elab.async false
set_option linter.all false
set_option autoImplicit false
set_option maxRecDepth 100000
set_option maxHeartbeats 0
set_option pp.maxSteps 400
namespace LAWP
open PySem PySem.Spec L2 SV LAWM
local macro_rules
  | `(tactic| solve | $a | $b | $c | $d | $e) => `(tactic| (repeat' (first
      | (apply_rules (transparency := .reducible) (symm := false) (exfalso := false) (maxDepth := 1000) only [@b_ok, @b_okS, @b_nx, @b_seq, @b_op, @b_ret, @b_cons, @b_nil, @b_CB, @b_C1, @b_set, @b_tb, @b_bl, @b_if, @b_end, @b_preps, @b_prepF, @b_preps0, @b_call, @b_owns, @b_owns0])
      | (apply_rules (transparency := .reducible) (symm := false) (exfalso := false) (maxDepth := 1000) only [@b_nret, @b_nexc, @b_exc, @b_excS, @b_nbrk, @b_nct, @b_mret, @b_expr, @b_setI, @b_un, @b_C2, @b_tru, @b_and, @b_or, @b_not, @b_notT, @b_andV, @b_orV, @b_blE, @b_ifE, @b_add, @b_neg, @b_aug, @b_prepT, @b_frzs, @b_frzs0, @b_tup, @b_lst, @b_isN, @b_notN, @b_isi, @b_raise, @b_ownS, @b_bnd, @b_iter, @b_fseq, @b_mfor, @b_enum, @b_callK, @b_sl, @b_part, @b_pi])
      | ((with_reducible apply b_var); rfl; (focus (first | rfl | assumption)); (focus (first | rfl | assumption)))
      | ((with_reducible apply b_varO); rfl; (focus (first | rfl | assumption)))
      | ((with_reducible apply b_st); exact Nat.le_of_ble_eq_true rfl)
      | ((with_reducible apply b_mvS); rfl; (focus (first | rfl | assumption)))
      | ((with_reducible apply b_mv); (focus (first | assumption | (intro _ z; cases z; done))))
      | ((with_reducible apply b_frzS); rfl; (focus (first | rfl | assumption)))
      | ((with_reducible apply b_frzG); focus (first | assumption | rfl))
      | ((with_reducible apply b_frz); (focus (first | assumption | (intro _ z; cases z; done))))
      | ((with_reducible apply b_own); (focus (first | assumption | (intro _ z; cases z; done))))
      | ((with_reducible apply b_II); focus (first | rfl | $c))
      | ((with_reducible apply b_look2); (focus (first | rfl | exact dr_gd (by assumption))); (focus (first | rfl | exact dr_gd (by assumption))); focus (first | exact gEqF | exact gNeF | $a | rfl))
      | ((with_reducible apply b_look); (focus (first | rfl | exact dr_gd (by assumption))); focus (first | $a | rfl))
      | ((with_reducible apply b_trv); (focus (first | rfl | exact dr_gd (by assumption))); rfl)
      | ((with_reducible apply b_io); rfl)
      | ((with_reducible apply b_lim); exact Nat.le_of_ble_eq_true rfl)
      | ((with_reducible apply b_setD); rfl)
      | ((with_reducible apply b_setK); rfl; rfl)
      | ((with_reducible apply b_LM); rfl)
      | ((with_reducible apply b_ifT); focus (first | rfl | $b))
      | ((with_reducible apply b_ifF); focus (first | rfl | $b))
      | ((with_reducible apply b_eT); focus (first | rfl | $b))
      | ((with_reducible apply b_eF); focus (first | rfl | $b))
      | ((with_reducible apply b_rng1); focus (first | (simp [okR]; done) | (simp [okR]; omega)))
      | ((with_reducible apply b_rng2); focus (first | (simp [okR]; done) | (simp [okR]; omega)))
      | ((with_reducible apply b_back); focus (first | rfl | exact cb_f rfl rfl))
      | ((with_reducible apply b_seqF); rfl)
      | ((with_reducible apply b_LMr); rfl; focus (refine lApp ?_; first | (simp; done) | (simp; omega) | $e))
      | ((with_reducible apply b_rz); exact ⟨rfl, Nat.le_of_ble_eq_true rfl, Nat.le_of_ble_eq_true rfl⟩)
      | $d
      | fail)))
theorem sights_k {F S : D} {u : Int} {Q : Res D → List D → Prop} (gF : dg F = true) (gS : dg S = true) (k1 : ∀ j, fstF none F = some j → Q (.exc "BadFirsts" [("index", .int (j : Nat))]) [])
    (k2 : ∀ j w, fstF none F = none → sgtsF F S u = some (j, w) → Q (.exc "BadSight" [("index", .int (j : Nat)), ("what", .str w)]) []) (k3 : fstF none F = none → sgtsF F S u = none → Q (.ok (bareD S)) []) : Ef f_check_sights [F, S, .int u] Q := by
  refine ef_fun ?_
  show Es m_check_sights [some F, some S, some (.int u), none, none, none] _
  unfold m_check_sights
  have g1 := dg_gd gF
  have o1 := gd_own g1
  have ox1 := gd_isX g1
  have n1 := gd_nsl g1
  have g2 := dg_gd gS
  have o2 := gd_own g2
  have ox2 := gd_isX g2
  have n2 := gd_nsl g2
  cases hf : fstF none F with
  | some j =>
    have kk := k1 j hf
    solve | fail | (first | (simp; done) | (simp; omega)) | (first | (simp; done) | (simp; omega)) | refine firstsN_k (dg_th gF) (fun ds _ e => by rw [hf] at e; cases e) (fun j2 e => ?_) | fail
    rw [hf] at e
    cases e
    exact ⟨_, rfl, kk⟩
  | none =>
    have k2 := fun j w => k2 j w hf
    have k3 := k3 hf
    obtain ⟨fs, eF, hlf, bf⟩ : ∃ fs, itemsOf F = some fs ∧ (1 ≤ fs.length ∧ fs.length ≤ 4) ∧ bad fs 0 = none := by
      unfold fstF at hf
      split at hf
      · cases hf
      · rename_i ds e
        simp only at hf
        split at hf
        · rename_i hl
          exact ⟨ds, e, hl, hf⟩
        · cases hf
    obtain ⟨xs, rfl, rwx⟩ := bad_none bf
    have hl : 1 ≤ xs.length ∧ xs.length ≤ 4 := by simpa using hlf
    have fk : ∀ {Q : Res D → List D → Prop}, Q (.ok (.tup (xs.map D.int))) [] → Ef f_check_firsts [.non, F] Q := fun {Q} k => firstsN_k (dg_th gF) (fun ds e _ => by rw [eF] at e; cases e; exact k) (fun j e => by rw [hf] at e; cases e)
    rcases items_cases S with ⟨ss, eS⟩ | eS
    case inr =>
      have kk := k2 0 "many" (by simp [sgtsF, eS])
      solve | exact isi_no g2 eS | (first | (simp; done) | (simp; omega)) | (first | (simp; done) | (simp; omega)) | refine fk ?_ | fail
      exact ⟨_, rfl, kk⟩
    obtain ⟨hlS, hgS, hdS, hbS⟩ := dg_items gS eS
    by_cases hu : u < (ss.length : Int)
    case pos =>
      have kk := k2 0 "many" (by simp [sgtsF, eS, hu])
      solve | (first | exact isi_seq eS | exact len_seq eS) | (simp [hu]; done) | (first | (simp; done) | (simp; omega)) | refine fk ?_ | fail
      exact ⟨_, rfl, kk⟩
    have sg : sgtsF F S u = sightsF (xs.map D.int) ss 0 := by simp [sgtsF, eS, hu, eF]
    rw [sg] at k2 k3
    solve | (first | exact isi_seq eS | exact len_seq eS) | (first | (simp [hu]; done) | (simp; omega)) | (first | (simp; done) | (simp; omega)) | refine fk ?_ | fail
    refine ev_lcX (fun dsl acc ρ => ∃ (done rest : List D), dsl = enumF done.length rest ∧ acc = done.map bareD ∧ done ++ rest = ss ∧ ρ = [some F, some S, some (.int u), some (.tup (xs.map D.int)), none, none] ∧ sightsF (xs.map D.int) rest done.length = sightsF (xs.map D.int) ss 0) ?_ ?_ ?_
    · obtain ⟨bb, hq⟩ := iter_th eS
      solve | fail | (first | (simp; done) | (simp; omega)) | (first | (simp; done) | (simp; omega)) | fail | fail
      refine b_seqF hq ?_
      solve | fail | (first | (simp; done) | (simp; omega)) | (first | (simp; done) | (simp; omega)) | fail | fail
      exact ⟨⟨[], ss, rfl, rfl, rfl, rfl, rfl⟩, by
        have : (enumF 0 ss).length = ss.length := by
          have : ∀ (i : Nat) (xs : List D), (enumF i xs).length = xs.length := by
            intro i xs
            induction xs generalizing i with
            | nil => rfl
            | cons x xs ih => simp [enumF, ih]
          exact this 0 ss
        rw [this]
        show _ ≤ 16777216
        omega⟩
    · rintro acc ρ ⟨done, rest, e1, rfl, hdn, rfl, eb⟩
      cases rest with
      | cons r rest => cases e1
      | nil =>
        rw [List.append_nil] at hdn
        subst hdn
        have kk := k3 eb.symm
        rw [hbS] at kk
        have gt : ∀ x ∈ done.map bareD, gd x = true := fun x hx => by
          obtain ⟨y, hy, rfl⟩ := List.mem_map.mp hx
          exact dg_gd (dg_bare (dp y + 1) y (by omega) (hgS y hy)).1
        solve | fail | (first | (simp; done) | (simp; omega)) | (first | (simp; done) | (simp; omega)) | refine tupOf_g gt ?_ | fail
        exact ⟨_, rfl, kk⟩
    · rintro x dsl acc ρ ⟨done, rest, e1, rfl, hdn, rfl, eb⟩
      cases rest with
      | nil => cases e1
      | cons r rest =>
        cases e1
        have hm : r ∈ ss := by rw [← hdn]; simp
        have gr := hgS r hm
        have g3 := dg_gd gr
        have go := gd_own g3
        have gx := gd_isX g3
        have nb := gd_nsl (dg_gd (dg_bare (dp r + 1) r (by omega) gr).1)
        refine ⟨_, rfl, b_ret ⟨true, rfl, ?_⟩⟩
        rw [if_pos rfl]
        cases hs : sightF (xs.map D.int) r with
        | some w =>
          have kk := k2 done.length w (by rw [← eb]; simp [sightsF, hs])
          solve | fail | (first | (simp; done) | (simp; omega)) | (first | (simp; done) | (simp; omega)) | refine one_k gr hl (fun w2 e => ?_) (fun e => by rw [hs] at e; cases e) | fail
          rw [hs] at e
          cases e
          exact ⟨_, rfl, kk⟩
        | none =>
          solve | fail | (first | (simp; done) | (simp; omega)) | (first | (simp; done) | (simp; omega)) | refine one_k gr hl (fun w2 e => by rw [hs] at e; cases e) (fun e => ?_) | fail
          refine b_lxok ?_
          refine b_own nb ?_
          exact ⟨_, rfl, done ++ [r], rest, by simp, by simp, by simpa using hdn, rfl, by rw [← eb]; simp [sightsF, hs]⟩
end LAWP
end
section
set_option Elab.async false
set_option linter.all false
set_option autoImplicit false
set_option maxRecDepth 100000
set_option maxHeartbeats 0
set_option pp.maxSteps 400
namespace LAWP
open PySem PySem.Spec L2 SV LAWM
abbrev HS : List (Str × Option Nat × SM) := [("BadFirsts", some 4, (mRet (mLst (mCons (SV.ret (.str "firsts")) (mCons (mXf ["BadFirsts"] 4 "index") mNil))))), ("BadSight", some 4, (mRet (mLst (mCons (SV.ret (.str "sight")) (mCons (mXf ["BadSight"] 4 "index") (mCons (mXf ["BadSight"] 4 "what") mNil)))))), ("HueError", none, (mRet (mLst (mCons (SV.ret (.str "other")) mNil))))]
local macro_rules
  | `(tactic| solve | $a | $b | $c | $d | $e) => `(tactic| (repeat' (first
      | (apply_rules (transparency := .reducible) (symm := false) (exfalso := false) (maxDepth := 1000) only [@b_ok, @b_okS, @b_nx, @b_seq, @b_op, @b_ret, @b_cons, @b_nil, @b_CB, @b_C1, @b_set, @b_tb, @b_bl, @b_if, @b_end, @b_preps, @b_prepF, @b_preps0, @b_call, @b_owns, @b_owns0])
      | (apply_rules (transparency := .reducible) (symm := false) (exfalso := false) (maxDepth := 1000) only [@b_nret, @b_nexc, @b_exc, @b_excS, @b_nbrk, @b_nct, @b_mret, @b_expr, @b_setI, @b_un, @b_C2, @b_tru, @b_and, @b_or, @b_not, @b_notT, @b_andV, @b_orV, @b_blE, @b_ifE, @b_add, @b_neg, @b_aug, @b_prepT, @b_frzs, @b_frzs0, @b_tup, @b_lst, @b_isN, @b_notN, @b_isi, @b_raise, @b_ownS, @b_bnd, @b_iter, @b_fseq, @b_mfor, @b_enum, @b_callK, @b_sl, @b_part, @b_pi])
      | ((with_reducible apply b_var); rfl; (focus (first | rfl | assumption)); (focus (first | rfl | assumption)))
      | ((with_reducible apply b_varO); rfl; (focus (first | rfl | assumption)))
      | ((with_reducible apply b_st); exact Nat.le_of_ble_eq_true rfl)
      | ((with_reducible apply b_mvS); rfl; (focus (first | rfl | assumption)))
      | ((with_reducible apply b_mv); (focus (first | assumption | (intro _ z; cases z; done))))
      | ((with_reducible apply b_frzS); rfl; (focus (first | rfl | assumption)))
      | ((with_reducible apply b_frzG); focus (first | assumption | rfl))
      | ((with_reducible apply b_frz); (focus (first | assumption | (intro _ z; cases z; done))))
      | ((with_reducible apply b_own); (focus (first | assumption | (intro _ z; cases z; done))))
      | ((with_reducible apply b_II); focus (first | rfl | $c))
      | ((with_reducible apply b_look2); (focus (first | rfl | exact dr_gd (by assumption))); (focus (first | rfl | exact dr_gd (by assumption))); focus (first | exact gEqF | exact gNeF | $a | rfl))
      | ((with_reducible apply b_look); (focus (first | rfl | exact dr_gd (by assumption))); focus (first | $a | rfl))
      | ((with_reducible apply b_trv); (focus (first | rfl | exact dr_gd (by assumption))); rfl)
      | ((with_reducible apply b_io); rfl)
      | ((with_reducible apply b_lim); exact Nat.le_of_ble_eq_true rfl)
      | ((with_reducible apply b_setD); rfl)
      | ((with_reducible apply b_setK); rfl; rfl)
      | ((with_reducible apply b_LM); rfl)
      | ((with_reducible apply b_ifT); focus (first | rfl | $b))
      | ((with_reducible apply b_ifF); focus (first | rfl | $b))
      | ((with_reducible apply b_eT); focus (first | rfl | $b))
      | ((with_reducible apply b_eF); focus (first | rfl | $b))
      | ((with_reducible apply b_rng1); focus (first | (simp [okR]; done) | (simp [okR]; omega)))
      | ((with_reducible apply b_rng2); focus (first | (simp [okR]; done) | (simp [okR]; omega)))
      | ((with_reducible apply b_back); focus (first | rfl | exact cb_f rfl rfl))
      | ((with_reducible apply b_seqF); rfl)
      | ((with_reducible apply b_LMr); rfl; focus (refine lApp ?_; first | (simp; done) | (simp; omega) | $e))
      | ((with_reducible apply b_rz); exact ⟨rfl, Nat.le_of_ble_eq_true rfl, Nat.le_of_ble_eq_true rfl⟩)
      | $d
      | fail)))
theorem hdF_ {a b c : D} {j : Nat} {QS : Fl → SV.Env → Prop} (ga : gd a = true) (gb : gd b = true) (gc : gd c = true) (h : QS (.ret (.ol [.str "firsts", .int (j : Nat)])) [some a, some b, some c, none, none]) : Es (hdGo subT "BadFirsts" [("index", .int (j : Nat))] HS) [some a, some b, some c, none, none] QS := by
  have n : noX [some a, some b, some c, none, none] = true := by simp [noX, gd_isX ga, gd_isX gb, gd_isX gc]
  refine es_hdT (by decide +kernel) (es_suite n (Nat.le_of_ble_eq_true rfl) ?_)
  solve | fail | (first | (simp; done) | (simp; omega)) | (first | (simp; done) | (simp; omega)) | fail | fail
  refine b_xf rfl (by decide +kernel) rfl ?_
  solve | fail | (first | (simp; done) | (simp; omega)) | (first | (simp; done) | (simp; omega)) | fail | fail
  exact ⟨⟨n, rfl⟩, h⟩
theorem hdS_ {a b c : D} {j : Nat} {w : Str} {QS : Fl → SV.Env → Prop} (ga : gd a = true) (gb : gd b = true) (gc : gd c = true) (h : QS (.ret (.ol [.str "sight", .int (j : Nat), .str w])) [some a, some b, some c, none, none]) : Es (hdGo subT "BadSight" [("index", .int (j : Nat)), ("what", .str w)] HS) [some a, some b, some c, none, none] QS := by
  have n : noX [some a, some b, some c, none, none] = true := by simp [noX, gd_isX ga, gd_isX gb, gd_isX gc]
  refine es_hdF (by decide +kernel) (es_hdT (by decide +kernel) (es_suite n (Nat.le_of_ble_eq_true rfl) ?_))
  solve | fail | (first | (simp; done) | (simp; omega)) | (first | (simp; done) | (simp; omega)) | fail | fail
  refine b_xf rfl (by decide +kernel) rfl ?_
  solve | fail | (first | (simp; done) | (simp; omega)) | (first | (simp; done) | (simp; omega)) | fail | fail
  refine b_xf rfl (by decide +kernel) rfl ?_
  solve | fail | (first | (simp; done) | (simp; omega)) | (first | (simp; done) | (simp; omega)) | fail | fail
  exact ⟨⟨n, rfl⟩, h⟩
def upD : Option Int → D
  | none => .non
  | some u => .int u
def upI : Option Int → Int
  | none => 3
  | some u => u
theorem rul_f {F S : D} {u : Int} {j : Nat} (h : fstF none F = some j) : rul F S u = .ol [.str "firsts", .int (j : Nat)] := by unfold rul; rw [h]
theorem rul_s {F S : D} {u : Int} {j : Nat} {w : Str} (h : fstF none F = none) (h2 : sgtsF F S u = some (j, w)) : rul F S u = .ol [.str "sight", .int (j : Nat), .str w] := by unfold rul; rw [h]; simp only; rw [h2]
theorem rul_n {F S : D} {u : Int} (h : fstF none F = none) (h2 : sgtsF F S u = none) : rul F S u = bareD S := by unfold rul; rw [h]; simp only; rw [h2]
theorem asked_k {F S : D} {o : Option Int} {Q : Res D → List D → Prop} (gF : dg F = true) (gS : dg S = true) (k : Q (.ok (rul F S (upI o))) []) : Ef f__law_asked [F, S, upD o] Q := by
  refine ef_fun ?_
  show Es m__law_asked [some F, some S, some (upD o), none, none] _
  unfold m__law_asked
  have g1 := dg_gd gF
  have o1 := gd_own g1
  have ox1 := gd_isX g1
  have n1 := gd_nsl g1
  have g2 := dg_gd gS
  have o2 := gd_own g2
  have ox2 := gd_isX g2
  have n2 := gd_nsl g2
  have gb := dg_gd (dg_bare (dp S + 1) S (by omega) gS).1
  have nb := gd_nsl gb
  have ob := gd_own gb
  have oxb := gd_isX gb
  refine b_seq ?_
  refine b_try ?_
  cases o with
  | none =>
    have k : Q (.ok (rul F S 3)) [] := k
    show Es _ [some F, some S, some D.non, none, none] _
    solve | fail | (simp; done) | (first | (simp; done) | (simp; omega)) | refine sights_k (u := 3) gF gS (fun j e => ?_) (fun j w e e2 => ?_) (fun e e2 => ?_) | fail
    · exact hdF_ (c := .non) g1 g2 rfl ⟨_, rfl, by rw [rul_f e] at k; exact k⟩
    · exact hdS_ (c := .non) g1 g2 rfl ⟨_, rfl, by rw [rul_s e e2] at k; exact k⟩
    · rw [rul_n e e2] at k
      solve | fail | (first | (simp; done) | (simp; omega)) | (first | (simp; done) | (simp; omega)) | fail | fail
      exact ⟨_, rfl, k⟩
  | some u =>
    have k : Q (.ok (rul F S u)) [] := k
    show Es _ [some F, some S, some (D.int u), none, none] _
    by_cases hu : 1 < u
    · solve | fail | (first | (simp; done) | (simp [hu]; done)) | (first | (simp; done) | (simp; omega)) | refine sights_k (u := u) gF gS (fun j e => ?_) (fun j w e e2 => ?_) (fun e e2 => ?_) | fail
      · exact hdF_ (c := .int u) g1 g2 rfl ⟨_, rfl, by rw [rul_f e] at k; exact k⟩
      · exact hdS_ (c := .int u) g1 g2 rfl ⟨_, rfl, by rw [rul_s e e2] at k; exact k⟩
      · rw [rul_n e e2] at k
        solve | fail | (first | (simp; done) | (simp; omega)) | (first | (simp; done) | (simp; omega)) | fail | fail
        exact ⟨_, rfl, k⟩
    · solve | fail | (first | (simp; done) | (simp [hu]; done) | (simp; omega)) | (first | (simp; done) | (simp; omega)) | fail | fail
      refine ⟨⟨⟨rfl, rfl, rfl⟩, rfl, rfl⟩, ?_⟩
      show Ef f_check_sights [F, S, .int u] _
      refine sights_k (u := u) gF gS (fun j e => ?_) (fun j w e e2 => ?_) (fun e e2 => ?_)
      · exact hdF_ (c := .int u) g1 g2 rfl ⟨_, rfl, by rw [rul_f e] at k; exact k⟩
      · exact hdS_ (c := .int u) g1 g2 rfl ⟨_, rfl, by rw [rul_s e e2] at k; exact k⟩
      · rw [rul_n e e2] at k
        solve | fail | (first | (simp; done) | (simp; omega)) | (first | (simp; done) | (simp; omega)) | fail | fail
        exact ⟨_, rfl, k⟩
/-! ### only tuples, None and numbers -/
mutual
def tk : D → Bool
  | .non => true
  | .int _ => true
  | .tup xs => tks xs
  | _ => false
def tks : List D → Bool
  | [] => true
  | x :: xs => tk x && tks xs
end
theorem tks_mem : ∀ {xs : List D}, tks xs = true → ∀ d ∈ xs, tk d = true
  | x :: xs, h, d, hd => by
    obtain ⟨h1, h2⟩ := Bool.and_eq_true_iff.mp (show (tk x && tks xs) = true from h)
    rcases List.mem_cons.mp hd with rfl | hd
    · exact h1
    · exact tks_mem h2 d hd
theorem tks_of : ∀ {xs : List D}, (∀ d ∈ xs, tk d = true) → tks xs = true
  | [], _ => rfl
  | x :: xs, h => by
    show (tk x && tks xs) = true
    rw [h x (by simp), tks_of fun d hd => h d (by simp [hd])]
    rfl
theorem tuples_k : ∀ (n : Nat) {d : D} {Q : Res D → List D → Prop}, dg d = true → tk d = true → dp d < n → Q (.ok (.bl true)) [] → Ef (f__law_tuples n) [d] Q := by
  intro n
  induction n with
  | zero => intro d Q _ _ h; exact absurd h (Nat.not_lt_zero _)
  | succ n ih =>
    intro d Q g t hn k
    refine ef_fun ?_
    show Es (m__law_tuples (fun _ => f__law_tuples n) n) [some d, none] _
    unfold m__law_tuples
    have gg := dg_gd g
    have o := gd_own gg
    have ox := gd_isX gg
    cases d with
    | tup ds =>
      obtain ⟨hl, hg, hd, hb⟩ := dg_items g rfl
      have ht := tks_mem (show tks ds = true from t)
      solve | fail | (first | (simp; done) | (simp; omega)) | (first | (simp; done) | (simp; omega)) | fail | fail
      refine ev_lc (fun dsl acc ρ => ∃ (done rest : List D), dsl = rest ∧ acc = [] ∧ done ++ rest = ds ∧ ρ = [some (.tup ds), none]) ?_ ?_ ?_
      · solve | fail | (first | (simp; done) | (simp; omega)) | (first | (simp; done) | (simp; omega)) | fail | fail
        exact ⟨⟨[], ds, rfl, rfl, rfl, rfl⟩, by show ds.length ≤ lim; simp [lim]; omega⟩
      · rintro acc ρ ⟨done, rest, e1, rfl, hdn, rfl⟩
        solve | fail | (first | (simp; done) | (simp; omega)) | (first | (simp; done) | (simp; omega)) | fail | fail
        exact ⟨_, rfl, k⟩
      · rintro x dsl acc ρ ⟨done, rest, e1, rfl, hdn, rfl⟩
        cases rest with
        | nil => cases e1
        | cons r rest =>
          cases e1
          have hm : x ∈ ds := by rw [← hdn]; simp
          have g0 := hg x hm
          have g1 := dg_gd g0
          have go := gd_own g1
          have gx := gd_isX g1
          have dm := dps_mem hm
          refine ⟨_, rfl, ?_⟩
          solve | fail | (first | (simp; done) | (simp; omega)) | (first | (simp; done) | (simp; omega)) | refine ih g0 (ht x hm) (by omega) ?_ | fail
          refine ⟨false, rfl, ?_⟩
          rw [if_neg Bool.false_ne_true]
          exact ⟨done ++ [x], dsl, rfl, rfl, by simpa using hdn, rfl⟩
    | non =>
      solve | fail | (first | (simp; done) | (simp; omega)) | (first | (simp; done) | (simp; omega)) | fail | fail
      exact ⟨_, rfl, k⟩
    | int i =>
      solve | fail | (first | (simp; done) | (simp; omega)) | (first | (simp; done) | (simp; omega)) | fail | fail
      exact ⟨_, rfl, k⟩
    | _ => cases t
theorem tk_ints (ys : List Int) : ∀ d ∈ ys.map D.int, tk d = true := fun d hd => by
  obtain ⟨x, _, rfl⟩ := List.mem_map.mp hd
  rfl
theorem tk_bare {d : D} {ys : List Int} (g : dg d = true) (e : itemsOf d = some (ys.map D.int)) : tk (bareD d) = true := by
  rw [(dg_items g e).2.2.2, ints_map]
  exact tks_of (tk_ints ys)
theorem sight_tk {fs : List D} {s : D} (g : dg s = true) (h : sightF fs s = none) : tk (bareD s) = true := by
  unfold sightF at h
  split at h
  · rename_i sc rw_ e
    split at h
    · cases h
    · rename_i hs
      split at h
      · rename_i ps eps
        split at h
        · rename_i hr
          obtain ⟨_, hg, _, hb⟩ := dg_items g e
          have gsc := hg sc (by simp)
          have grw := hg rw_ (by simp)
          rw [hb]
          refine tks_of fun d hd => ?_
          obtain ⟨x, hx, rfl⟩ := List.mem_map.mp hd
          rcases List.mem_cons.mp hx with rfl | hx
          · obtain ⟨_, hgp, _, hbp⟩ := dg_items gsc eps
            obtain ⟨ps', e', _, hb'⟩ := scr_items hs
            rw [eps] at e'
            cases e'
            rw [hbp]
            refine tks_of fun d hd => ?_
            obtain ⟨p, hp, rfl⟩ := List.mem_map.mp hd
            obtain ⟨a, b, e2, _⟩ := pour_none (scrB_all hb' p hp)
            exact tk_bare (ys := [a, b]) (hgp p hp) e2
          · rw [List.mem_singleton.mp hx]
            unfold rowsB at hr
            split at hr
            · rename_i rs ers
              obtain ⟨_, hgr, _, hbr⟩ := dg_items grw ers
              simp only [Bool.and_eq_true, decide_eq_true_eq] at hr
              rw [hbr]
              refine tks_of fun d hd => ?_
              obtain ⟨r, hr1, rfl⟩ := List.mem_map.mp hd
              obtain ⟨ys, ey, _⟩ := hue_ints (all_mem hr.2 r hr1)
              exact tk_bare (hgr r hr1) ey
            · cases hr
        · cases h
      · cases h
  · cases h
theorem sights_tk {fs : List D} : ∀ {ss : List D} {i : Nat}, (∀ s ∈ ss, dg s = true) → sightsF fs ss i = none → ∀ s ∈ ss, tk (bareD s) = true
  | s :: ss, i, g, h, x, hx => by
    unfold sightsF at h
    split at h
    · cases h
    · rename_i hs
      rcases List.mem_cons.mp hx with rfl | hx
      · exact sight_tk (g x (by simp)) hs
      · exact sights_tk (fun s hs => g s (by simp [hs])) h x hx
theorem rul_tk {F S : D} {u : Int} (gS : dg S = true) (hf : fstF none F = none) (h : sgtsF F S u = none) : tk (bareD S) = true := by
  unfold sgtsF at h
  split at h
  · cases h
  · rename_i ss e
    split at h
    · cases h
    · split at h
      · rename_i fs ef
        obtain ⟨_, hg, _, hb⟩ := dg_items gS e
        rw [hb]
        refine tks_of fun d hd => ?_
        obtain ⟨x, hx, rfl⟩ := List.mem_map.mp hd
        exact sights_tk hg h x hx
      · rename_i ef
        simp [fstF, ef] at hf
end LAWP
end
section
set_option Elab.async false
set_option linter.all false
set_option autoImplicit false
set_option maxRecDepth 100000
set_option maxHeartbeats 0
set_option pp.maxSteps 400
namespace LAWP
open PySem PySem.Spec L2 SV LAWM
/-! ### things put wrong -/
def Go (n : Nat) (e : D) : Prop := (∀ i, e ≠ .sl i) ∧ dg e.frz = true ∧ dp e.frz ≤ n
theorem go_dg {d : D} {n : Nat} (g : dg d = true) (h : dp d ≤ n) : Go n d := ⟨gd_nsl (dg_gd g), by rw [gd_frz (dg_gd g)]; exact g, by rw [gd_frz (dg_gd g)]; exact h⟩
theorem go_frzs : ∀ {es : List D} {n : Nat}, (∀ e ∈ es, Go n e) → (D.frzs es).length = es.length ∧ (∀ x ∈ D.frzs es, dg x = true ∧ dp x ≤ n)
  | [], _, _ => ⟨rfl, fun x hx => by cases hx⟩
  | e :: es, n, h => by
    obtain ⟨h1, h2⟩ := go_frzs (es := es) (n := n) fun x hx => h x (by simp [hx])
    refine ⟨by simp [D.frzs, h1], fun x hx => ?_⟩
    rcases List.mem_cons.mp (show x ∈ e.frz :: D.frzs es from hx) with rfl | hx
    · exact (h e (by simp)).2
    · exact h2 x hx
theorem go_ol {es : List D} {n : Nat} (hl : es.length < 40) (h : ∀ e ∈ es, Go n e) : Go (n + 1) (.ol es) := by
  obtain ⟨h1, h2⟩ := go_frzs h
  refine ⟨(fun i z => by cases z), dg_lst (by omega) fun x hx => (h2 x hx).1, ?_⟩
  show dps _ + 1 ≤ n + 1
  have := dps_le fun x hx => (h2 x hx).2
  omega
theorem go_le {e : D} {n m : Nat} (h : Go n e) (l : n ≤ m) : Go m e := ⟨h.1, h.2.1, Nat.le_trans h.2.2 l⟩
theorem go_int (i : Int) (n : Nat) : Go n (.int i) := go_dg rfl (Nat.zero_le _)
theorem go_ints {xs : List Int} {n : Nat} : ∀ e ∈ xs.map D.int, Go n e := fun e he => by
  obtain ⟨x, _, rfl⟩ := List.mem_map.mp he
  exact go_int x n
theorem go_set {es : List D} {n j : Nat} {d : D} (h : ∀ e ∈ es, Go n e) (hd : Go n d) : ∀ e ∈ es.set j d, Go n e := fun e he => by
  rcases List.mem_or_eq_of_mem_set he with z | z
  · exact h e z
  · rw [z]; exact hd
theorem dg_ints {xs : List Int} (hl : xs.length < 40) : dg (.lst (xs.map D.int)) = true ∧ dg (.tup (xs.map D.int)) = true := by
  have h : ∀ d ∈ xs.map D.int, dg d = true := fun d hd => by
    obtain ⟨x, _, rfl⟩ := List.mem_map.mp hd
    rfl
  exact ⟨dg_lst (by simpa using hl) h, dg_tup (by simpa using hl) h⟩
theorem dps_ints (xs : List Int) : dps (xs.map D.int) = 0 := Nat.le_zero.mp (dps_le fun d hd => by
  obtain ⟨x, _, rfl⟩ := List.mem_map.mp hd
  exact Nat.zero_le _)
theorem cut_l' {ds : List D} {lo hi : Option Int} {ρ : SV.Env} {QD : Res D → SV.Env → Prop} (g : ∀ d ∈ ds, gd d = true) (q : QD (.ok (.ol (SV.cut ds lo hi))) ρ) : Ev (fCut (.lst ds) lo hi) ρ QD := cut_l g q
theorem cut_mem {ds : List D} {lo hi : Option Int} : ∀ d ∈ SV.cut ds lo hi, d ∈ ds := fun d hd => List.mem_of_mem_drop (List.mem_of_mem_take hd)
theorem cut_len {ds : List D} {lo hi : Option Int} : (SV.cut ds lo hi).length ≤ ds.length := by
  unfold SV.cut
  rw [List.length_take, List.length_drop]
  omega
local macro_rules
  | `(tactic| solve | $a | $b | $c | $d | $e) => `(tactic| (repeat' (first
      | (apply_rules (transparency := .reducible) (symm := false) (exfalso := false) (maxDepth := 1000) only [@b_ok, @b_okS, @b_nx, @b_seq, @b_op, @b_ret, @b_cons, @b_nil, @b_CB, @b_C1, @b_set, @b_tb, @b_bl, @b_if, @b_end, @b_preps, @b_prepF, @b_preps0, @b_call, @b_owns, @b_owns0])
      | (apply_rules (transparency := .reducible) (symm := false) (exfalso := false) (maxDepth := 1000) only [@b_nret, @b_nexc, @b_exc, @b_excS, @b_nbrk, @b_nct, @b_mret, @b_expr, @b_setI, @b_un, @b_C2, @b_tru, @b_and, @b_or, @b_not, @b_notT, @b_andV, @b_orV, @b_blE, @b_ifE, @b_add, @b_neg, @b_aug, @b_prepT, @b_frzs, @b_frzs0, @b_tup, @b_lst, @b_isN, @b_notN, @b_isi, @b_raise, @b_ownS, @b_bnd, @b_iter, @b_fseq, @b_mfor, @b_enum, @b_callK, @b_sl, @b_part, @b_pi])
      | ((with_reducible apply b_var); rfl; (focus (first | rfl | assumption)); (focus (first | rfl | assumption)))
      | ((with_reducible apply b_varO); rfl; (focus (first | rfl | assumption)))
      | ((with_reducible apply b_st); exact Nat.le_of_ble_eq_true rfl)
      | ((with_reducible apply b_mvS); rfl; (focus (first | rfl | assumption)))
      | ((with_reducible apply b_mv); (focus (first | assumption | (intro _ z; cases z; done))))
      | ((with_reducible apply b_frzS); rfl; (focus (first | rfl | assumption)))
      | ((with_reducible apply b_frzG); focus (first | assumption | rfl))
      | ((with_reducible apply b_frz); (focus (first | assumption | (intro _ z; cases z; done))))
      | ((with_reducible apply b_own); (focus (first | assumption | (intro _ z; cases z; done))))
      | ((with_reducible apply b_II); focus (first | rfl | $c))
      | ((with_reducible apply b_look2); (focus (first | rfl | exact dr_gd (by assumption))); (focus (first | rfl | exact dr_gd (by assumption))); focus (first | exact gEqF | exact gNeF | $a | rfl))
      | ((with_reducible apply b_look); (focus (first | rfl | exact dr_gd (by assumption))); focus (first | $a | rfl))
      | ((with_reducible apply b_trv); (focus (first | rfl | exact dr_gd (by assumption))); rfl)
      | ((with_reducible apply b_io); rfl)
      | ((with_reducible apply b_lim); exact Nat.le_of_ble_eq_true rfl)
      | ((with_reducible apply b_setD); rfl)
      | ((with_reducible apply b_setK); rfl; rfl)
      | ((with_reducible apply b_LM); rfl)
      | ((with_reducible apply b_ifT); focus (first | rfl | $b))
      | ((with_reducible apply b_ifF); focus (first | rfl | $b))
      | ((with_reducible apply b_eT); focus (first | rfl | $b))
      | ((with_reducible apply b_eF); focus (first | rfl | $b))
      | ((with_reducible apply b_rng1); focus (first | (simp [okR]; done) | (simp [okR]; omega)))
      | ((with_reducible apply b_rng2); focus (first | (simp [okR]; done) | (simp [okR]; omega)))
      | ((with_reducible apply b_back); focus (first | rfl | exact cb_f rfl rfl))
      | ((with_reducible apply b_seqF); rfl)
      | ((with_reducible apply b_LMr); rfl; focus (refine lApp ?_; first | (simp; done) | (simp; omega) | $e))
      | ((with_reducible apply b_rz); exact ⟨rfl, Nat.le_of_ble_eq_true rfl, Nat.le_of_ble_eq_true rfl⟩)
      | $d
      | fail)))
theorem begun_k {h : D} {xs : List Int} {Q : Res D → List D → Prop} (hh : HOk h) (hl : 1 ≤ xs.length ∧ xs.length ≤ 4) (k : ∀ e h', Go 2 e → HOk h' → Q (.ok e) [h']) : Ef f__law_begun [h, .lst (xs.map D.int)] Q := by
  refine ef_fun ?_
  show Es m__law_begun [some h, some (.lst (xs.map D.int)), none, none] _
  unfold m__law_begun
  have o := hh.own
  have ox := hh.isX
  have gi := gd_ints xs
  have lF : gLen (.lst (xs.map D.int)) = some (.int (xs.length : Nat)) := gLen_lst
  solve | fail | (first | (simp; done) | (simp; omega)) | (first | (simp; done) | (simp; omega)) | refine take_k hh (by omega) (by omega) fun v h1 v0 v1 hh1 => ?_ | fail
  have o1 := hh1.own
  have ox1 := hh1.isX
  by_cases e0 : v = 0
  case neg =>
    solve | fail | (simp [e0]; done) | (first | (simp; done) | (simp; omega)) | fail | fail
    exact ⟨[h1], by simp [ioGet, ox1], k _ h1 (go_dg (dg_ints (by omega)).1 (by show dps _ + 1 ≤ 2; rw [dps_ints]; omega)) hh1⟩
  subst e0
  solve | fail | (first | (simp; done) | (simp; omega)) | (first | (simp; done) | (simp; omega)) | refine take_k hh1 (by omega) (by omega) fun w h2 w0 w1 hh2 => ?_ | fail
  have o2 := hh2.own
  have ox2 := hh2.isX
  obtain rfl | rfl | rfl | rfl : w = 0 ∨ w = 1 ∨ w = 2 ∨ w = 3 := by omega
  · solve | fail | (first | (simp; done) | (simp; omega)) | (first | (simp; done) | (simp; omega)) | refine rid_k hh2 fun d h3 gd3 it3 hh3 => ?_ | fail
    have nd := gd_nsl (dg_gd gd3)
    solve | fail | (first | (simp; done) | (simp; omega)) | (first | (simp; done) | (simp; omega)) | fail | fail
    exact ⟨[h3], by simp [ioGet, hh3.isX], k _ h3 (go_dg gd3 (by rw [(dg_none it3).2]; omega)) hh3⟩
  · solve | fail | (first | (simp; done) | (simp; omega)) | (first | (simp; done) | (simp; omega)) | fail | fail
    exact ⟨[h2], by simp [ioGet, ox2], k _ h2 (go_le (go_ol (n := 0) (by simp) (fun e he => by cases he)) (by omega)) hh2⟩
  · have g5 : ∀ d ∈ (List.replicate 5 (xs.map D.int)).flatten, gd d = true := fun d hd => by
      obtain ⟨l, hl2, hd⟩ := List.mem_flatten.mp hd
      rw [List.eq_of_mem_replicate hl2] at hd
      exact gi d hd
    solve | fail | (first | (simp; done) | (simp; omega)) | (first | (simp; done) | (simp; omega)) | fail | fail
    refine b_rep (xs := []) ?_
    refine ⟨_, _, rfl, ?_⟩
    rw [onOk_ok]
    refine ⟨⟨⟨by omega, by omega⟩, by simp [lim]; omega⟩, ?_⟩
    solve | fail | (first | (simp; done) | (simp; omega)) | (first | (simp; done) | (simp; omega)) | fail | fail
    refine cut_f g5 ?_
    solve | fail | (first | (simp; done) | (simp; omega)) | (first | (simp; done) | (simp; omega)) | fail | fail
    refine ⟨[h2], by simp [ioGet, ox2], k _ h2 (go_le (go_ol (n := 0) ?_ fun e he => ?_) (by omega)) hh2⟩
    · have := cut_len (ds := (List.replicate 5 (xs.map D.int)).flatten) (lo := none) (hi := some 5)
      have l5 : (List.replicate 5 (xs.map D.int)).flatten.length = 5 * xs.length := by simp; omega
      show (SV.cut (List.replicate (Int.toNat 5) _).flatten none (some 5)).length < 40
      rw [show Int.toNat 5 = 5 from rfl]
      omega
    · have hm := cut_mem e he
      obtain ⟨l, hl2, hd⟩ := List.mem_flatten.mp hm
      rw [List.eq_of_mem_replicate hl2] at hd
      exact go_ints e hd
  · solve | exact lF | (first | (simp; done) | (simp; omega)) | (first | (simp; done) | (simp; omega)) | refine take_k hh2 (by omega) (by omega) fun u h3 u0 u1 hh3 => ?_ | fail
    have o3 := hh3.own
    have ox3 := hh3.isX
    solve | fail | (first | (simp; done) | (simp; omega)) | (first | (simp; done) | (simp; omega)) | fail | fail
    refine cut_l gi ?_
    solve | fail | (first | (simp; done) | (simp; omega)) | (first | (simp; done) | (simp; omega)) | refine odd_k hh3 fun d h4 gd4 dp4 hh4 => ?_ | fail
    have nd := gd_nsl (dg_gd gd4)
    have ga : ∀ d ∈ SV.cut (xs.map D.int) none (some u), gd d = true := fun d hd => gi d (cut_mem d hd)
    have gb : ∀ z ∈ [d], gd z = true := fun z hz => by rw [List.mem_singleton.mp hz]; exact dg_gd gd4
    have la := cut_len (ds := xs.map D.int) (lo := none) (hi := some u)
    have lb := cut_len (ds := xs.map D.int) (lo := some (u + 1)) (hi := none)
    simp only [List.length_map] at la lb
    solve | fail | (first | (simp; done) | (simp; omega)) | (first | (simp; done) | (simp; omega)) | fail | fail
    refine add_ff ga gb (by simp; omega) ?_
    solve | fail | (first | (simp; done) | (simp; omega)) | (first | (simp; done) | (simp; omega)) | fail | fail
    refine cut_l gi ?_
    solve | fail | (first | (simp; done) | (simp; omega)) | (first | (simp; done) | (simp; omega)) | fail | fail
    refine add_ff (fun z hz => ?_) (fun d hd => gi d (cut_mem d hd)) (by simp; omega) ?_
    · rcases List.mem_append.mp hz with hz | hz
      · exact ga z hz
      · exact gb z hz
    solve | fail | (first | (simp; done) | (simp; omega)) | (first | (simp; done) | (simp; omega)) | fail | fail
    refine ⟨[h4], by simp [ioGet, hh4.isX], k _ h4 (go_ol (n := 1) (by simp; omega) fun e he => ?_) hh4⟩
    rcases List.mem_append.mp he with he | he
    · rcases List.mem_append.mp he with he | he
      · exact go_ints e (cut_mem e he)
      · rw [List.mem_singleton.mp he]; exact go_dg gd4 dp4
    · exact go_ints e (cut_mem e he)
end LAWP
end
section
set_option Elab.async false
set_option linter.all false
set_option autoImplicit false
set_option maxRecDepth 100000
set_option maxHeartbeats 0
set_option pp.maxSteps 400
namespace LAWP
open PySem PySem.Spec L2 SV LAWM
theorem b_ixF {xs : List D} {y : D} {ρ : SV.Env} {QD : Res D → SV.Env → Prop} (h : Ev (fIx (.lst (D.frzs xs)) y) ρ QD) : Ev (fIxF (.ol xs) y) ρ QD := h
def pO (p : Int × Int) : D := .ol [.int p.1, .int p.2]
def pL (p : Int × Int) : D := .lst [.int p.1, .int p.2]
def pT (p : Int × Int) : D := .tup [.int p.1, .int p.2]
theorem go_p (p : Int × Int) : Go 1 (pO p) := go_ol (es := [.int p.1, .int p.2]) (by show 2 < 40; omega) fun e he => by
  rcases List.mem_cons.mp he with rfl | he
  · exact go_int _ _
  · rw [List.mem_singleton.mp he]; exact go_int _ _
theorem frzs_pO : ∀ ps : List (Int × Int), D.frzs (ps.map pO) = ps.map pL
  | [] => rfl
  | p :: ps => by simp [D.frzs, frzs_pO ps, pO, pL, D.frz]
theorem gd_pL (ps : List (Int × Int)) : ∀ d ∈ ps.map pL, gd d = true := fun d hd => by
  obtain ⟨p, _, rfl⟩ := List.mem_map.mp hd
  rfl
theorem go_pO {ps : List (Int × Int)} : ∀ e ∈ ps.map pO, Go 2 e := fun e he => by
  obtain ⟨p, _, rfl⟩ := List.mem_map.mp he
  exact go_le (go_p p) (by omega)
theorem go_pL {ps : List (Int × Int)} : ∀ e ∈ ps.map pL, Go 2 e := fun e he => by
  obtain ⟨p, _, rfl⟩ := List.mem_map.mp he
  exact go_le (go_dg (n := 1) rfl (Nat.le_refl _)) (by omega)
/-- indices of a list in a slot, its items frozen -/
theorem gIx_fo {ds : List D} {i : Nat} {d : D} (h : ds[i]? = some d) (g : gd d = true) : gIx (.ol ds) (.int (i : Nat)) = some d := by
  have hl : i < ds.length := (List.getElem?_eq_some_iff.mp h).1
  have e : ds[i] = d := by rw [List.getElem?_eq_getElem hl] at h; exact Option.some.inj h
  simp [gIx, D.seq, atI, ixN, hl, e, gd_own g]
theorem three {v : Int} {a b c : D} (h0 : 0 ≤ v) (h1 : v < 3) (ga : gd a = true) (gb : gd b = true) (gc : gd c = true) : ∃ d, (d = a ∨ d = b ∨ d = c) ∧ gIx (.lst [a, b, c]) (.int v) = some d := by
  obtain rfl | rfl | rfl : v = 0 ∨ v = 1 ∨ v = 2 := by omega
  · exact ⟨a, .inl rfl, gIx_lat (i := 0) rfl ga⟩
  · exact ⟨b, .inr (.inl rfl), gIx_lat (i := 1) rfl gb⟩
  · exact ⟨c, .inr (.inr rfl), gIx_lat (i := 2) rfl gc⟩
theorem add_sF {A B : List D} {i : Nat} {ρ : SV.Env} {QD : Res D → SV.Env → Prop} (h : ρ[i]? = some (some (.ol A))) (ga : ∀ d ∈ A, gd d = true) (hl : A.length + (D.frzs B).length ≤ 16777216) (q : QD (.ok (.ol (A ++ D.frzs B))) ρ) : Ev (fAddA (.sl i) (.ol B)) ρ QD := by
  refine ⟨_, _, ?_, q⟩
  simp [fAddA, fLs, bnd, SV.ret, dr, h, D.isX, plain_gd ga, hl]
theorem frzs_rep : ∀ i : Nat, D.frzs (List.replicate i (D.ol [.int 0, .int 0])) = List.replicate i (D.lst [.int 0, .int 0])
  | 0 => rfl
  | i + 1 => by rw [List.replicate_succ, List.replicate_succ]; show _ :: D.frzs _ = _; rw [frzs_rep i]; rfl
local macro_rules
  | `(tactic| solve | $a | $b | $c | $d | $e) => `(tactic| (repeat' (first
      | (apply_rules (transparency := .reducible) (symm := false) (exfalso := false) (maxDepth := 1000) only [@b_ok, @b_okS, @b_nx, @b_seq, @b_op, @b_ret, @b_cons, @b_nil, @b_CB, @b_C1, @b_set, @b_tb, @b_bl, @b_if, @b_end, @b_preps, @b_prepF, @b_preps0, @b_call, @b_owns, @b_owns0])
      | (apply_rules (transparency := .reducible) (symm := false) (exfalso := false) (maxDepth := 1000) only [@b_nret, @b_nexc, @b_exc, @b_excS, @b_nbrk, @b_nct, @b_mret, @b_expr, @b_setI, @b_un, @b_C2, @b_tru, @b_and, @b_or, @b_not, @b_notT, @b_andV, @b_orV, @b_blE, @b_ifE, @b_add, @b_neg, @b_aug, @b_prepT, @b_frzs, @b_frzs0, @b_tup, @b_lst, @b_isN, @b_notN, @b_isi, @b_raise, @b_ownS, @b_bnd, @b_iter, @b_fseq, @b_mfor, @b_enum, @b_callK, @b_sl, @b_part, @b_pi])
      | ((with_reducible apply b_var); rfl; (focus (first | rfl | assumption)); (focus (first | rfl | assumption)))
      | ((with_reducible apply b_varO); rfl; (focus (first | rfl | assumption)))
      | ((with_reducible apply b_st); exact Nat.le_of_ble_eq_true rfl)
      | ((with_reducible apply b_mvS); rfl; (focus (first | rfl | assumption)))
      | ((with_reducible apply b_mv); (focus (first | assumption | (intro _ z; cases z; done))))
      | ((with_reducible apply b_frzS); rfl; (focus (first | rfl | assumption)))
      | ((with_reducible apply b_frzG); focus (first | assumption | rfl))
      | ((with_reducible apply b_frz); (focus (first | assumption | (intro _ z; cases z; done))))
      | ((with_reducible apply b_own); (focus (first | assumption | (intro _ z; cases z; done))))
      | ((with_reducible apply b_II); focus (first | rfl | $c))
      | ((with_reducible apply b_look2); (focus (first | rfl | exact dr_gd (by assumption))); (focus (first | rfl | exact dr_gd (by assumption))); focus (first | exact gEqF | exact gNeF | $a | rfl))
      | ((with_reducible apply b_look); (focus (first | rfl | exact dr_gd (by assumption))); focus (first | $a | rfl))
      | ((with_reducible apply b_trv); (focus (first | rfl | exact dr_gd (by assumption))); rfl)
      | ((with_reducible apply b_io); rfl)
      | ((with_reducible apply b_lim); exact Nat.le_of_ble_eq_true rfl)
      | ((with_reducible apply b_setD); rfl)
      | ((with_reducible apply b_setK); rfl; rfl)
      | ((with_reducible apply b_LM); rfl)
      | ((with_reducible apply b_ifT); focus (first | rfl | $b))
      | ((with_reducible apply b_ifF); focus (first | rfl | $b))
      | ((with_reducible apply b_eT); focus (first | rfl | $b))
      | ((with_reducible apply b_eF); focus (first | rfl | $b))
      | ((with_reducible apply b_rng1); focus (first | (simp [okR]; done) | (simp [okR]; omega)))
      | ((with_reducible apply b_rng2); focus (first | (simp [okR]; done) | (simp [okR]; omega)))
      | ((with_reducible apply b_back); focus (first | rfl | exact cb_f rfl rfl))
      | ((with_reducible apply b_seqF); rfl)
      | ((with_reducible apply b_LMr); rfl; focus (refine lApp ?_; first | (simp; done) | (simp; omega) | $e))
      | ((with_reducible apply b_rz); exact ⟨rfl, Nat.le_of_ble_eq_true rfl, Nat.le_of_ble_eq_true rfl⟩)
      | $d
      | fail)))
theorem pad_k {a b c d : Option D} {done : List (Int × Int)} (hl : done.length ≤ 12) {QD : Res D → SV.Env → Prop} (hq : ∀ e, Go 3 e → QD (.ok e) [a, b, c, d, some (.ol (done.map pL)), none, none, none]) :
    Ev (mVarZ 4) [a, b, c, d, some (.ol (done.map pO)), none, none, none] (onOk QD fun x ρ1 => Ev (mLc (bnd (mCons (mOp fSub (SV.ret (.int 13)) (mCB fLen (mCons (mVar 4) mNil))) mNil) fRng1) (tgN 7) (SV.ret true) (mLst (mCons (SV.ret (.int 0)) (mCons (SV.ret (.int 0)) mNil))) [7]) ρ1 (onOk QD fun y ρ2 => Ev (fAddA x y) ρ2 QD)) := by
  solve | fail | (first | (simp; done) | (simp; omega)) | (first | (simp; done) | (simp; omega)) | with_reducible refine b_varZ rfl ?_ | fail
  rw [frzs_pO]
  refine ev_lc (fun dsl acc ρ => ∃ (i n : Nat), dsl = SV.upTo (i : Int) n ∧ acc = List.replicate i (D.ol [.int 0, .int 0]) ∧ i + n = 13 - done.length ∧ ρ = [a, b, c, d, some (.ol (done.map pL)), none, none, none]) ?_ ?_ ?_
  · have lL : gLen (.ol (done.map pL)) = some (.int (done.length : Nat)) := by simp [gLen, D.seq]
    solve | exact lL | (first | (simp; done) | (simp; omega)) | (first | (simp; done) | (simp; omega)) | fail | fail
    refine ⟨⟨0, 13 - done.length, ?_, rfl, by omega, rfl⟩, ?_⟩
    · have : ((13 : Int) - (done.length : Nat)).toNat = 13 - done.length := by omega
      rw [this]
      rfl
    · show (SV.upTo _ _).length ≤ 16777216
      rw [upTo_length]
      omega
  · rintro acc ρ ⟨i, n, e, rfl, hin, rfl⟩
    cases n with
    | succ n => rw [upTo_succ] at e; cases e
    | zero =>
      refine add_sF rfl (gd_pL done) (by rw [frzs_rep]; simp; omega) ?_
      refine hq _ (go_ol (by rw [frzs_rep]; simp; omega) fun e he => ?_)
      rw [frzs_rep] at he
      rcases List.mem_append.mp he with he | he
      · exact go_pL e he
      · rw [List.eq_of_mem_replicate he]
        exact go_le (go_dg (n := 1) rfl (Nat.le_refl _)) (by omega)
  · rintro x dsl acc ρ ⟨i, n, e, rfl, hin, rfl⟩
    cases n with
    | zero => cases e
    | succ n =>
      rw [upTo_succ] at e
      cases e
      refine ⟨_, rfl, b_ret ⟨true, rfl, ?_⟩⟩
      simp only [if_true]
      solve | fail | (first | (simp; done) | (simp; omega)) | (first | (simp; done) | (simp; omega)) | fail | fail
      refine ⟨_, rfl, ?_⟩
      solve | fail | (first | (simp; done) | (simp; omega)) | (first | (simp; done) | (simp; omega)) | fail | fail
      exact ⟨_, rfl, i + 1, n, rfl, by rw [List.replicate_succ'], by omega, rfl⟩
theorem frzs_pL (ps : List (Int × Int)) : D.frzs (ps.map pL) = ps.map pL := frzs_gd (gd_pL ps)
theorem b_varZe {i : Nat} {xs ys : List D} {ρ : SV.Env} {QD : Res D → SV.Env → Prop} (h : ρ[i]? = some (some (.ol xs))) (e : D.frzs xs = ys) (q : QD (.ok (.sl i)) (ρ.set i (some (.ol ys)))) : Ev (mVarZ i) ρ QD := by
  subst e
  exact b_varZ h q
theorem add_lo {A : List D} {x : D} {ρ : SV.Env} {QD : Res D → SV.Env → Prop} (gx : gd x = true) (hl : A.length + 1 ≤ 16777216) (q : QD (.ok (.ol (A ++ [x]))) ρ) : Ev (fAddA (.lst A) (.ol [x])) ρ QD := by
  refine ⟨_, _, ?_, q⟩
  simp [fAddA, fLs, bnd, SV.ret, dr, D.frzs, gd_frz gx, hl]
theorem cracked_k {h : D} {ps : List (Int × Int)} {m : Int} {Q : Res D → List D → Prop} (hh : HOk h) (hl : ps.length ≤ 12) (k : ∀ e h', Go 3 e → HOk h' → Q (.ok e) [h']) : Ef f__law_cracked [h, .lst (ps.map pT), .int m] Q := by
  refine ef_fun ?_
  show Es m__law_cracked [some h, some (.lst (ps.map pT)), some (.int m), none, none, none, none, none] _
  unfold m__law_cracked
  have o := hh.own
  have ox := hh.isX
  solve | fail | (first | (simp; done) | (simp; omega)) | (first | (simp; done) | (simp; omega)) | refine take_k hh (by omega) (by omega) fun v h1 v0 v1 hh1 => ?_ | fail
  refine ev_lc (fun dsl acc ρ => ∃ (done rest : List (Int × Int)), dsl = rest.map pT ∧ acc = done.map pO ∧ done ++ rest = ps ∧ ρ = [some h1, some (.lst (ps.map pT)), some (.int m), some (.int v), none, none, none, none]) ?_ ?_ ?_
  · solve | fail | (first | (simp; done) | (simp; omega)) | (first | (simp; done) | (simp; omega)) | fail | fail
    exact ⟨⟨[], ps, rfl, rfl, rfl, rfl⟩, by show (ps.map pT).length ≤ 16777216; simp; omega⟩
  rotate_left
  · rintro d dsl acc ρ ⟨done, rest, e, rfl, hd, rfl⟩
    cases rest with
    | nil => cases e
    | cons p rest =>
      cases e
      refine ⟨_, rfl, b_ret ⟨true, rfl, ?_⟩⟩
      simp only [if_true]
      have gp : ∀ d ∈ [D.int p.1, D.int p.2], gd d = true := gd_two
      solve | fail | (first | (simp; done) | (simp; omega)) | (first | (simp; done) | (simp; omega)) | fail | fail
      refine lstOf_t gp ?_
      refine ⟨_, rfl, ?_⟩
      solve | fail | (first | (simp; done) | (simp; omega)) | (first | (simp; done) | (simp; omega)) | fail | fail
      exact ⟨_, rfl, done ++ [p], rest, rfl, by simp [pO], by simpa using hd, rfl⟩
  rintro acc ρ ⟨done, rest, e, rfl, hd, rfl⟩
  cases rest with
  | cons p rest => cases e
  | nil =>
  rw [List.append_nil] at hd
  subst hd
  clear e
  have o1 := hh1.own
  have ox1 := hh1.isX
  have lO : gLen (.ol (done.map pO)) = some (.int (done.length : Nat)) := by simp [gLen, D.seq]
  obtain rfl | hv : v = 0 ∨ 1 ≤ v := by omega
  · solve | fail | (first | (simp; done) | (simp; omega)) | (first | (simp; done) | (simp; omega)) | refine rid_k hh1 fun d h3 gd3 it3 hh3 => ?_ | fail
    have nd := gd_nsl (dg_gd gd3)
    solve | fail | (first | (simp; done) | (simp; omega)) | (first | (simp; done) | (simp; omega)) | fail | fail
    exact ⟨[h3], by simp [ioGet, hh3.isX], k _ h3 (go_dg gd3 (by rw [(dg_none it3).2]; omega)) hh3⟩
  have v00 : decide (v = 0) = false := by simp; omega
  obtain rfl | hv1 : v = 1 ∨ 2 ≤ v := by omega
  · solve | fail | (first | exact v00 | (simp; done)) | (first | (simp; done) | (simp; omega)) | fail | fail
    refine pad_k hl fun e ge => ?_
    have ne := ge.1
    solve | fail | (first | (simp; done) | (simp; omega)) | (first | (simp; done) | (simp; omega)) | fail | fail
    exact ⟨[h1], by simp [ioGet, ox1], k _ h1 ge hh1⟩
  have v11 : decide (v = 1) = false := by simp; omega
  rcases Nat.eq_zero_or_pos done.length with hz | hz
  · have e0 : done = [] := List.length_eq_zero_iff.mp hz
    subst e0
    solve | fail | (first | exact v00 | exact v11) | (first | (simp; done) | (simp; omega)) | fail | fail
    refine pad_k (done := []) hl fun e ge => ?_
    have ne := ge.1
    solve | fail | (first | (simp; done) | (simp; omega)) | (first | (simp; done) | (simp; omega)) | fail | fail
    exact ⟨[h1], by simp [ioGet, ox1], k _ h1 ge hh1⟩
  have ne0 : (done.map pO).isEmpty = false := by cases done <;> first | (simp at hz; done) | rfl
  solve | exact lO | (first | exact v00 | exact v11 | (simp [ne0]; done)) | (first | (simp; done) | (simp; omega)) | refine take_k hh1 (by omega) (by omega) fun u h2 u0 u1 hh2 => ?_ | fail
  have o2 := hh2.own
  have ox2 := hh2.isX
  have hut : u.toNat < done.length := by omega
  have hix : ixN (done.map pO).length u = some u.toNat := ixN_ok u0 (by simpa using u1)
  have hixL : ixN (done.map pL).length u = some u.toNat := ixN_ok u0 (by simpa using u1)
  have hget : (done.map pO)[u.toNat]? = some (.ol [.int (done[u.toNat]).1, .int (done[u.toNat]).2]) := by simp [pO, hut]
  have hgetL : (done.map pL)[u.toNat]? = some (.lst [.int (done[u.toNat]).1, .int (done[u.toNat]).2]) := by simp [pL, hut]
  have go := go_pO (ps := done)
  have gol := go_pL (ps := done)
  have lset : ∀ (j : Nat) (x : D), ((done.map pO).set j x).length < 40 := fun j x => by simp; omega
  have lsetL : ∀ (j : Nat) (x : D), ((done.map pL).set j x).length < 40 := fun j x => by simp; omega
  generalize (done[u.toNat]).1 = a at hget hgetL
  generalize (done[u.toNat]).2 = b at hget hgetL
  obtain rfl | rfl | rfl : v = 2 ∨ v = 3 ∨ v = 4 := by omega
  · solve | fail | (simp; done) | (first | (simp; done) | (simp; omega)) | (first | refine odd_k hh2 fun d h3 gd3 dp3 hh3 => ?_ | with_reducible refine b_setII ?_) | fail
    have nd := gd_nsl (dg_gd gd3)
    solve | fail | (first | (simp; done) | (simp; omega)) | (first | (simp; done) | (simp; omega)) | fail | fail
    refine ⟨⟨_, rfl⟩, ?_⟩
    solve | fail | (first | (simp; done) | (simp; omega)) | (first | (simp; done) | (simp; omega)) | fail | fail
    refine ⟨u, _, u.toNat, _, rfl, rfl, hix, hget, ?_⟩
    solve | fail | (first | (simp; done) | (simp; omega)) | (first | (simp; done) | (simp; omega)) | fail | fail
    refine ⟨0, 0, rfl, rfl, ?_⟩
    solve | fail | (first | (simp; done) | (simp; omega)) | (first | (simp; done) | (simp; omega)) | fail | fail
    refine ⟨[h3], by simp [ioGet, hh3.isX], k _ h3 (go_ol (lset _ _) (go_set go ?_)) hh3⟩
    exact go_ol (n := 1) (by simp) fun e he => by
      rcases List.mem_cons.mp he with rfl | he
      · exact go_dg gd3 dp3
      · rw [List.mem_singleton.mp he]; exact go_int _ _
  · solve | fail | (simp; done) | (first | (simp; done) | (simp; omega)) | (first | refine odd_k hh2 fun d h3 gd3 dp3 hh3 => ?_ | with_reducible refine b_setII ?_) | fail
    have nd := gd_nsl (dg_gd gd3)
    solve | fail | (first | (simp; done) | (simp; omega)) | (first | (simp; done) | (simp; omega)) | fail | fail
    refine ⟨⟨_, rfl⟩, ?_⟩
    solve | fail | (first | (simp; done) | (simp; omega)) | (first | (simp; done) | (simp; omega)) | fail | fail
    refine ⟨u, _, u.toNat, _, rfl, rfl, hix, hget, ?_⟩
    solve | fail | (first | (simp; done) | (simp; omega)) | (first | (simp; done) | (simp; omega)) | fail | fail
    refine ⟨1, 1, rfl, rfl, ?_⟩
    solve | fail | (first | (simp; done) | (simp; omega)) | (first | (simp; done) | (simp; omega)) | fail | fail
    refine ⟨[h3], by simp [ioGet, hh3.isX], k _ h3 (go_ol (lset _ _) (go_set go ?_)) hh3⟩
    exact go_ol (n := 1) (by simp) fun e he => by
      rcases List.mem_cons.mp he with rfl | he
      · exact go_int _ _
      · rw [List.mem_singleton.mp he]; exact go_dg gd3 dp3
  · have hgO := gIx_fo hgetL (by rfl)
    rw [show ((u.toNat : Nat) : Int) = u by omega] at hgO
    have ia : gIx (.lst [.int a, .int b]) (.int 0) = some (.int a) := gIx_lat (i := 0) rfl rfl
    solve | (first | exact hgO | exact ia) | (simp; done) | (first | (simp; done) | (simp; omega)) | (first | refine rid_k hh2 fun d h3 gd3 it3 hh3 => ?_ | (with_reducible refine b_varZe rfl (frzs_pO _) ?_) | (with_reducible refine b_varZe rfl (frzs_pL _) ?_)) | fail
    have g3 := dg_gd gd3
    have nd := gd_nsl g3
    solve | (first | exact hgO | exact ia) | (simp; done) | (first | (simp; done) | (simp; omega)) | (first | (with_reducible refine b_varZe rfl (frzs_pO _) ?_) | (with_reducible refine b_varZe rfl (frzs_pL _) ?_)) | fail
    refine add_lo rfl (by simp) ?_
    have o3 := hh3.own
    have ox3 := hh3.isX
    solve | fail | (first | (simp; done) | (simp; omega)) | (first | (simp; done) | (simp; omega)) | refine take_k hh3 (by omega) (by omega) fun w h4 w0 w1 hh4 => ?_ | fail
    refine b_ixF ?_
    obtain ⟨x, hx, ex⟩ := three (a := d) (b := .lst [.int a]) (c := .lst [.int a, .int b, .int 0]) w0 w1 g3 rfl rfl
    have gx : Go 2 x := by
      rcases hx with rfl | rfl | rfl
      · exact go_dg gd3 (by rw [(dg_none it3).2]; omega)
      · exact go_dg rfl (by simp [dp, dps])
      · exact go_dg rfl (by simp [dp, dps])
    have nx := gx.1
    have ef : D.frzs [d, .ol [.int a], .ol ([.int a, .int b] ++ [.int 0])] = [d, .lst [.int a], .lst [.int a, .int b, .int 0]] := by simp [D.frzs, D.frz, gd_frz g3]
    rw [ef]
    solve | exact ex | (first | (simp; done) | (simp; omega)) | (first | (simp; done) | (simp; omega)) | fail | fail
    refine b_setK rfl hixL ?_
    solve | fail | (first | (simp; done) | (simp; omega)) | (first | (simp; done) | (simp; omega)) | fail | fail
    exact ⟨[h4], by simp [ioGet, hh4.isX], k _ h4 (go_ol (lsetL _ _) (go_set gol gx)) hh4⟩
end LAWP
end
section
set_option Elab.async false
set_option linter.all false
set_option autoImplicit false
set_option maxRecDepth 100000
set_option maxHeartbeats 0
set_option pp.maxSteps 400
namespace LAWP
open PySem PySem.Spec L2 SV LAWM
def rO (ys : List Int) : D := .ol (ys.map .int)
def rL (ys : List Int) : D := .lst (ys.map .int)
def rT (ys : List Int) : D := .tup (ys.map .int)
theorem frzs_rO : ∀ rs : List (List Int), D.frzs (rs.map rO) = rs.map rL
  | [] => rfl
  | r :: rs => by simp [D.frzs, frzs_rO rs, rO, rL, D.frz, frzs_ints]
theorem gd_rL (rs : List (List Int)) : ∀ d ∈ rs.map rL, gd d = true := fun d hd => by
  obtain ⟨p, _, rfl⟩ := List.mem_map.mp hd
  rfl
theorem frzs_rL (rs : List (List Int)) : D.frzs (rs.map rL) = rs.map rL := frzs_gd (gd_rL rs)
theorem go_rO {rs : List (List Int)} (hn : ∀ r ∈ rs, r.length ≤ 4) : ∀ e ∈ rs.map rO, Go 2 e := fun e he => by
  obtain ⟨p, hp, rfl⟩ := List.mem_map.mp he
  exact go_le (go_ol (n := 0) (by have := hn p hp; simp; omega) go_ints) (by omega)
theorem go_rL1 {r : List Int} (hn : r.length ≤ 4) : Go 2 (rL r) := go_le (go_dg (n := 1) (dg_ints (by omega)).1 (by show dps _ + 1 ≤ 1; rw [dps_ints]; omega)) (by omega)
theorem go_rL {rs : List (List Int)} (hn : ∀ r ∈ rs, r.length ≤ 4) : ∀ e ∈ rs.map rL, Go 2 e := fun e he => by
  obtain ⟨p, hp, rfl⟩ := List.mem_map.mp he
  exact go_rL1 (hn p hp)
theorem cut_sZ {ds : List D} {i : Nat} {lo hi : Option Int} {ρ : SV.Env} {QD : Res D → SV.Env → Prop} (h : ρ[i]? = some (some (.ol ds))) (g : ∀ d ∈ ds, gd d = true) (q : QD (.ok (.ol (SV.cut ds lo hi))) ρ) : Ev (fCut (.sl i) lo hi) ρ QD := cut_s h g q
theorem gLenIx_o {ds : List D} {u : Int} {j : Nat} {ys : List D} (h : ixN ds.length u = some j) (e : ds[j]? = some (.ol ys)) : gLenIx (.ol ds) (.int u) = some (.int (ys.length : Nat)) := by
  simp [gLenIx, D.seq, atI, h, e, gLen]
local macro_rules
  | `(tactic| solve | $a | $b | $c | $d | $e) => `(tactic| (repeat' (first
      | (apply_rules (transparency := .reducible) (symm := false) (exfalso := false) (maxDepth := 1000) only [@b_ok, @b_okS, @b_nx, @b_seq, @b_op, @b_ret, @b_cons, @b_nil, @b_CB, @b_C1, @b_set, @b_tb, @b_bl, @b_if, @b_end, @b_preps, @b_prepF, @b_preps0, @b_call, @b_owns, @b_owns0])
      | (apply_rules (transparency := .reducible) (symm := false) (exfalso := false) (maxDepth := 1000) only [@b_nret, @b_nexc, @b_exc, @b_excS, @b_nbrk, @b_nct, @b_mret, @b_expr, @b_setI, @b_un, @b_C2, @b_tru, @b_and, @b_or, @b_not, @b_notT, @b_andV, @b_orV, @b_blE, @b_ifE, @b_add, @b_neg, @b_aug, @b_prepT, @b_frzs, @b_frzs0, @b_tup, @b_lst, @b_isN, @b_notN, @b_isi, @b_raise, @b_ownS, @b_bnd, @b_iter, @b_fseq, @b_mfor, @b_enum, @b_callK, @b_sl, @b_part, @b_pi])
      | ((with_reducible apply b_var); rfl; (focus (first | rfl | assumption)); (focus (first | rfl | assumption)))
      | ((with_reducible apply b_varO); rfl; (focus (first | rfl | assumption)))
      | ((with_reducible apply b_st); exact Nat.le_of_ble_eq_true rfl)
      | ((with_reducible apply b_mvS); rfl; (focus (first | rfl | assumption)))
      | ((with_reducible apply b_mv); (focus (first | assumption | (intro _ z; cases z; done))))
      | ((with_reducible apply b_frzS); rfl; (focus (first | rfl | assumption)))
      | ((with_reducible apply b_frzG); focus (first | assumption | rfl))
      | ((with_reducible apply b_frz); (focus (first | assumption | (intro _ z; cases z; done))))
      | ((with_reducible apply b_own); (focus (first | assumption | (intro _ z; cases z; done))))
      | ((with_reducible apply b_II); focus (first | rfl | $c))
      | ((with_reducible apply b_look2); (focus (first | rfl | exact dr_gd (by assumption))); (focus (first | rfl | exact dr_gd (by assumption))); focus (first | exact gEqF | exact gNeF | $a | rfl))
      | ((with_reducible apply b_look); (focus (first | rfl | exact dr_gd (by assumption))); focus (first | $a | rfl))
      | ((with_reducible apply b_trv); (focus (first | rfl | exact dr_gd (by assumption))); rfl)
      | ((with_reducible apply b_io); rfl)
      | ((with_reducible apply b_lim); exact Nat.le_of_ble_eq_true rfl)
      | ((with_reducible apply b_setD); rfl)
      | ((with_reducible apply b_setK); rfl; rfl)
      | ((with_reducible apply b_LM); rfl)
      | ((with_reducible apply b_ifT); focus (first | rfl | $b))
      | ((with_reducible apply b_ifF); focus (first | rfl | $b))
      | ((with_reducible apply b_eT); focus (first | rfl | $b))
      | ((with_reducible apply b_eF); focus (first | rfl | $b))
      | ((with_reducible apply b_rng1); focus (first | (simp [okR]; done) | (simp [okR]; omega)))
      | ((with_reducible apply b_rng2); focus (first | (simp [okR]; done) | (simp [okR]; omega)))
      | ((with_reducible apply b_back); focus (first | rfl | exact cb_f rfl rfl))
      | ((with_reducible apply b_seqF); rfl)
      | ((with_reducible apply b_LMr); rfl; focus (refine lApp ?_; first | (simp; done) | (simp; omega) | $e))
      | ((with_reducible apply b_rz); exact ⟨rfl, Nat.le_of_ble_eq_true rfl, Nat.le_of_ble_eq_true rfl⟩)
      | $d
      | fail)))
theorem torn_k {h : D} {rs : List (List Int)} {n : Nat} {Q : Res D → List D → Prop} (hh : HOk h) (hl : 1 ≤ rs.length ∧ rs.length ≤ 13) (n1 : 1 ≤ n) (n4 : n ≤ 4) (hn : ∀ r ∈ rs, r.length = n) (k : ∀ e h', Go 3 e → HOk h' → Q (.ok e) [h']) : Ef f__law_torn [h, .lst (rs.map rT)] Q := by
  refine ef_fun ?_
  show Es m__law_torn [some h, some (.lst (rs.map rT)), none, none, none, none] _
  unfold m__law_torn
  have o := hh.own
  have ox := hh.isX
  have hn4 : ∀ r ∈ rs, r.length ≤ 4 := fun r hr => by have := hn r hr; omega
  solve | fail | (first | (simp; done) | (simp; omega)) | (first | (simp; done) | (simp; omega)) | refine take_k hh (by omega) (by omega) fun v h1 v0 v1 hh1 => ?_ | fail
  refine ev_lc (fun dsl acc ρ => ∃ (done rest : List (List Int)), dsl = rest.map rT ∧ acc = done.map rO ∧ done ++ rest = rs ∧ ρ = [some h1, some (.lst (rs.map rT)), some (.int v), none, none, none]) ?_ ?_ ?_
  · solve | fail | (first | (simp; done) | (simp; omega)) | (first | (simp; done) | (simp; omega)) | fail | fail
    exact ⟨⟨[], rs, rfl, rfl, rfl, rfl⟩, by show (rs.map rT).length ≤ 16777216; simp; omega⟩
  rotate_left
  · rintro d dsl acc ρ ⟨done, rest, e, rfl, hd, rfl⟩
    cases rest with
    | nil => cases e
    | cons p rest =>
      cases e
      refine ⟨_, rfl, b_ret ⟨true, rfl, ?_⟩⟩
      simp only [if_true]
      solve | fail | (first | (simp; done) | (simp; omega)) | (first | (simp; done) | (simp; omega)) | fail | fail
      refine lstOf_t (gd_ints p) ?_
      refine ⟨_, rfl, ?_⟩
      solve | fail | (first | (simp; done) | (simp; omega)) | (first | (simp; done) | (simp; omega)) | fail | fail
      exact ⟨_, rfl, done ++ [p], rest, rfl, by simp [rO], by simpa using hd, rfl⟩
  rintro acc ρ ⟨done, rest, e, rfl, hd, rfl⟩
  cases rest with
  | cons p rest => cases e
  | nil =>
  rw [List.append_nil] at hd
  subst hd
  clear e
  have o1 := hh1.own
  have ox1 := hh1.isX
  have lO : gLen (.ol (done.map rO)) = some (.int (done.length : Nat)) := by simp [gLen, D.seq]
  have lL : gLen (.ol (done.map rL)) = some (.int (done.length : Nat)) := by simp [gLen, D.seq]
  solve | exact lO | (first | (simp; done) | (simp; omega)) | (first | (simp; done) | (simp; omega)) | refine take_k hh1 (by omega) (by omega) fun u h2 u0 u1 hh2 => ?_ | fail
  have o2 := hh2.own
  have ox2 := hh2.isX
  have hut : u.toNat < done.length := by omega
  have hix : ixN (done.map rO).length u = some u.toNat := ixN_ok u0 (by simpa using u1)
  have hixL : ixN (done.map rL).length u = some u.toNat := ixN_ok u0 (by simpa using u1)
  have hget : (done.map rO)[u.toNat]? = some (.ol ((done[u.toNat]).map .int)) := by simp [rO, hut]
  have hgetL : (done.map rL)[u.toNat]? = some (rL (done[u.toNat])) := by simp [hut]
  have hlen : (done[u.toNat]).length = n := hn _ (List.getElem_mem hut)
  have go := go_rO hn4
  have gol := go_rL hn4
  have lset : ∀ (j : Nat) (x : D), ((done.map rO).set j x).length < 40 := fun j x => by simp; omega
  have lsetL : ∀ (j : Nat) (x : D), ((done.map rL).set j x).length < 40 := fun j x => by simp; omega
  generalize done[u.toNat] = ys at hget hgetL hlen
  have hgO := gIx_fo hgetL (by rfl)
  rw [show ((u.toNat : Nat) : Int) = u by omega] at hgO
  obtain rfl | rfl | rfl | rfl | rfl | rfl : v = 0 ∨ v = 1 ∨ v = 2 ∨ v = 3 ∨ v = 4 ∨ v = 5 := by omega
  · solve | fail | (simp; done) | (first | (simp; done) | (simp; omega)) | refine rid_k hh2 fun d h3 gd3 it3 hh3 => ?_ | fail
    have nd := gd_nsl (dg_gd gd3)
    solve | fail | (first | (simp; done) | (simp; omega)) | (first | (simp; done) | (simp; omega)) | fail | fail
    exact ⟨[h3], by simp [ioGet, hh3.isX], k _ h3 (go_dg gd3 (by rw [(dg_none it3).2]; omega)) hh3⟩
  · solve | (first | exact lL | exact lO) | (simp; done) | (first | (simp; done) | (simp; omega)) | (first | (with_reducible refine b_varZe rfl (frzs_rO _) ?_) | (with_reducible refine b_varZe rfl (frzs_rL _) ?_)) | fail
    refine cut_s rfl (gd_rL done) ?_
    solve | fail | (first | (simp; done) | (simp; omega)) | (first | (simp; done) | (simp; omega)) | fail | fail
    exact ⟨[h2], by simp [ioGet, ox2], k _ h2 (go_ol (by have := cut_len (ds := done.map rL) (lo := none) (hi := some ((done.length : Int) - 1)); simp at this; omega) fun e he => gol e (cut_mem e he)) hh2⟩
  · solve | exact hgO | (simp; done) | (first | (simp; done) | (simp; omega)) | (first | (with_reducible refine b_varZe rfl (frzs_rO _) ?_) | (with_reducible refine b_varZe rfl (frzs_rL _) ?_)) | fail
    refine add_sf rfl (gd_rL done) (fun z hz => by rw [List.mem_singleton.mp hz]; rfl) (by simp; omega) ?_
    solve | fail | (first | (simp; done) | (simp; omega)) | (first | (simp; done) | (simp; omega)) | fail | fail
    refine ⟨[h2], by simp [ioGet, ox2], k _ h2 (go_ol (by simp; omega) fun e he => ?_) hh2⟩
    rcases List.mem_append.mp he with he | he
    · exact gol e he
    · rw [List.mem_singleton.mp he]; exact go_rL1 (by omega)
  · solve | fail | (simp; done) | (first | (simp; done) | (simp; omega)) | refine rid_k hh2 fun d h3 gd3 it3 hh3 => ?_ | fail
    have nd := gd_nsl (dg_gd gd3)
    solve | fail | (first | (simp; done) | (simp; omega)) | (first | (simp; done) | (simp; omega)) | fail | fail
    refine b_setK rfl hix ?_
    solve | fail | (first | (simp; done) | (simp; omega)) | (first | (simp; done) | (simp; omega)) | fail | fail
    exact ⟨[h3], by simp [ioGet, hh3.isX], k _ h3 (go_ol (lset _ _) (go_set go (go_dg gd3 (by rw [(dg_none it3).2]; omega)))) hh3⟩
  · solve | fail | (simp; done) | (first | (simp; done) | (simp; omega)) | refine take_k hh2 (by omega) (by omega) fun w h3 w0 w1 hh3 => ?_ | fail
    have gt2 : ∀ d ∈ ys.map D.int, gd d = true := gd_ints ys
    obtain rfl | rfl : w = 0 ∨ w = 1 := by omega
    · solve | exact hgO | (simp; done) | (first | (simp; done) | (simp; omega)) | (first | (with_reducible refine b_varZe rfl (frzs_rO _) ?_) | (with_reducible refine b_varZe rfl (frzs_rL _) ?_)) | fail
      refine cut_l gt2 ?_
      solve | fail | (first | (simp; done) | (simp; omega)) | (first | (simp; done) | (simp; omega)) | fail | fail
      refine b_setK rfl hixL ?_
      solve | fail | (first | (simp; done) | (simp; omega)) | (first | (simp; done) | (simp; omega)) | fail | fail
      refine ⟨[h3], by simp [ioGet, hh3.isX], k _ h3 (go_ol (lsetL _ _) (go_set gol ?_)) hh3⟩
      exact go_le (go_ol (n := 0) (by have := cut_len (ds := ys.map D.int) (lo := some 1) (hi := none); simp at this; omega) fun e he => go_ints e (cut_mem e he)) (by omega)
    · solve | exact hgO | (simp; done) | (first | (simp; done) | (simp; omega)) | (first | (with_reducible refine b_varZe rfl (frzs_rO _) ?_) | (with_reducible refine b_varZe rfl (frzs_rL _) ?_)) | fail
      refine add_lo rfl (by simp; omega) ?_
      solve | fail | (first | (simp; done) | (simp; omega)) | (first | (simp; done) | (simp; omega)) | fail | fail
      refine b_setK rfl hixL ?_
      solve | fail | (first | (simp; done) | (simp; omega)) | (first | (simp; done) | (simp; omega)) | fail | fail
      refine ⟨[h3], by simp [ioGet, hh3.isX], k _ h3 (go_ol (lsetL _ _) (go_set gol ?_)) hh3⟩
      refine go_le (go_ol (n := 0) (by simp; omega) fun e he => ?_) (by omega)
      rcases List.mem_append.mp he with he | he
      · exact go_ints e he
      · rw [List.mem_singleton.mp he]; exact go_int _ _
  · have hgl := gLenIx_o hix hget
    rw [List.length_map, hlen] at hgl
    solve | fail | (simp; done) | (first | (simp; done) | (simp; omega)) | (first | refine odd_k hh2 fun d h3 gd3 dp3 hh3 => ?_ | with_reducible refine b_setII ?_) | fail
    have nd := gd_nsl (dg_gd gd3)
    have o3 := hh3.own
    have ox3 := hh3.isX
    solve | fail | (first | (simp; done) | (simp; omega)) | (first | (simp; done) | (simp; omega)) | fail | fail
    refine ⟨⟨_, rfl⟩, ?_⟩
    solve | fail | (first | (simp; done) | (simp; omega)) | (first | (simp; done) | (simp; omega)) | fail | fail
    refine ⟨u, _, u.toNat, _, rfl, rfl, hix, hget, ?_⟩
    refine b_callB ?_
    solve | exact hgl | (first | (simp; done) | (simp; omega)) | (first | (simp; done) | (simp; omega)) | fail | fail
    refine ⟨_, rfl, ?_⟩
    solve | fail | (first | (simp; done) | (simp; omega)) | (first | (simp; done) | (simp; omega)) | refine take_k hh3 (by omega) (by omega) fun w h4 w0 w1 hh4 => ?_ | fail
    have hixy : ixN (ys.map D.int).length w = some w.toNat := ixN_ok w0 (by simp; omega)
    refine ⟨w, w.toNat, rfl, hixy, ?_⟩
    solve | fail | (first | (simp; done) | (simp; omega)) | (first | (simp; done) | (simp; omega)) | fail | fail
    refine ⟨[h4], by simp [ioGet, hh4.isX], k _ h4 (go_ol (lset _ _) (go_set go ?_)) hh4⟩
    exact go_ol (n := 1) (by simp; omega) (go_set go_ints (go_dg gd3 dp3))
end LAWP
end
section
set_option Elab.async false
set_option linter.all false
set_option autoImplicit false
set_option maxRecDepth 100000
set_option maxHeartbeats 0
set_option pp.maxSteps 400
namespace LAWP
open PySem PySem.Spec L2 SV LAWM
theorem lstOf_o {ds : List D} {ρ : SV.Env} {QD : Res D → SV.Env → Prop} (g : ∀ d ∈ ds, gd d = true) (q : QD (.ok (.ol ds)) ρ) : Ev (fLstOf (.ol ds)) ρ QD := by
  refine ⟨_, _, ?_, q⟩
  unfold fLstOf bnd fItems
  simp [SV.ret, frzs_gd g]
theorem dg_pT (ps : List (Int × Int)) : ∀ d ∈ ps.map pT, dg d = true ∧ dp d ≤ 1 := fun d hd => by
  obtain ⟨p, _, rfl⟩ := List.mem_map.mp hd
  exact ⟨rfl, Nat.le_refl _⟩
theorem dg_rT {rs : List (List Int)} (hn : ∀ r ∈ rs, r.length ≤ 4) : ∀ d ∈ rs.map rT, dg d = true ∧ dp d ≤ 1 := fun d hd => by
  obtain ⟨r, hr, rfl⟩ := List.mem_map.mp hd
  exact ⟨(dg_ints (by have := hn r hr; omega)).2, by show dps _ + 1 ≤ 1; rw [dps_ints]; omega⟩
theorem sc_go {ps : List (Int × Int)} (hl : ps.length ≤ 12) : dg (.lst (ps.map pT)) = true ∧ dp (.lst (ps.map pT)) ≤ 2 := ⟨dg_lst (by simp; omega) fun d hd => (dg_pT ps d hd).1, by
  show dps _ + 1 ≤ 2
  have := dps_le fun d hd => (dg_pT ps d hd).2
  omega⟩
theorem rw_go {rs : List (List Int)} (hl : rs.length ≤ 13) (hn : ∀ r ∈ rs, r.length ≤ 4) : dg (.lst (rs.map rT)) = true ∧ dp (.lst (rs.map rT)) ≤ 2 := ⟨dg_lst (by simp; omega) fun d hd => (dg_rT hn d hd).1, by
  show dps _ + 1 ≤ 2
  have := dps_le fun d hd => (dg_rT hn d hd).2
  omega⟩
def sT (ps : List (Int × Int)) (rs : List (List Int)) : D := .tup [.lst (ps.map pT), .lst (rs.map rT)]
theorem sT_go {ps : List (Int × Int)} {rs : List (List Int)} (hp : ps.length ≤ 12) (hl : rs.length ≤ 13) (hn : ∀ r ∈ rs, r.length ≤ 4) : dg (sT ps rs) = true ∧ dp (sT ps rs) ≤ 3 := by
  have a := sc_go hp
  have b := rw_go hl hn
  refine ⟨dg_tup (by show 2 < 40; omega) fun d hd => ?_, ?_⟩
  · rcases List.mem_cons.mp hd with rfl | hd
    · exact a.1
    · rw [List.mem_singleton.mp hd]; exact b.1
  · show dps _ + 1 ≤ 3
    have : dps [D.lst (ps.map pT), D.lst (rs.map rT)] ≤ 2 := dps_le fun d hd => by
      rcases List.mem_cons.mp hd with rfl | hd
      · exact a.2
      · rw [List.mem_singleton.mp hd]; exact b.2
    omega
theorem go_two {a b : D} {n : Nat} (ha : Go n a) (hb : Go n b) : Go (n + 1) (.ol [a, b]) := go_ol (by show 2 < 40; omega) fun e he => by
  rcases List.mem_cons.mp he with rfl | he
  · exact ha
  · rw [List.mem_singleton.mp he]; exact hb
local macro_rules
  | `(tactic| solve | $a | $b | $c | $d | $e) => `(tactic| (repeat' (first
      | (apply_rules (transparency := .reducible) (symm := false) (exfalso := false) (maxDepth := 1000) only [@b_ok, @b_okS, @b_nx, @b_seq, @b_op, @b_ret, @b_cons, @b_nil, @b_CB, @b_C1, @b_set, @b_tb, @b_bl, @b_if, @b_end, @b_preps, @b_prepF, @b_preps0, @b_call, @b_owns, @b_owns0])
      | (apply_rules (transparency := .reducible) (symm := false) (exfalso := false) (maxDepth := 1000) only [@b_nret, @b_nexc, @b_exc, @b_excS, @b_nbrk, @b_nct, @b_mret, @b_expr, @b_setI, @b_un, @b_C2, @b_tru, @b_and, @b_or, @b_not, @b_notT, @b_andV, @b_orV, @b_blE, @b_ifE, @b_add, @b_neg, @b_aug, @b_prepT, @b_frzs, @b_frzs0, @b_tup, @b_lst, @b_isN, @b_notN, @b_isi, @b_raise, @b_ownS, @b_bnd, @b_iter, @b_fseq, @b_mfor, @b_enum, @b_callK, @b_sl, @b_part, @b_pi])
      | ((with_reducible apply b_var); rfl; (focus (first | rfl | assumption)); (focus (first | rfl | assumption)))
      | ((with_reducible apply b_varO); rfl; (focus (first | rfl | assumption)))
      | ((with_reducible apply b_st); exact Nat.le_of_ble_eq_true rfl)
      | ((with_reducible apply b_mvS); rfl; (focus (first | rfl | assumption)))
      | ((with_reducible apply b_mv); (focus (first | assumption | (intro _ z; cases z; done))))
      | ((with_reducible apply b_frzS); rfl; (focus (first | rfl | assumption)))
      | ((with_reducible apply b_frzG); focus (first | assumption | rfl))
      | ((with_reducible apply b_frz); (focus (first | assumption | (intro _ z; cases z; done))))
      | ((with_reducible apply b_own); (focus (first | assumption | (intro _ z; cases z; done))))
      | ((with_reducible apply b_II); focus (first | rfl | $c))
      | ((with_reducible apply b_look2); (focus (first | rfl | exact dr_gd (by assumption))); (focus (first | rfl | exact dr_gd (by assumption))); focus (first | exact gEqF | exact gNeF | $a | rfl))
      | ((with_reducible apply b_look); (focus (first | rfl | exact dr_gd (by assumption))); focus (first | $a | rfl))
      | ((with_reducible apply b_trv); (focus (first | rfl | exact dr_gd (by assumption))); rfl)
      | ((with_reducible apply b_io); rfl)
      | ((with_reducible apply b_lim); exact Nat.le_of_ble_eq_true rfl)
      | ((with_reducible apply b_setD); rfl)
      | ((with_reducible apply b_setK); rfl; rfl)
      | ((with_reducible apply b_LM); rfl)
      | ((with_reducible apply b_ifT); focus (first | rfl | $b))
      | ((with_reducible apply b_ifF); focus (first | rfl | $b))
      | ((with_reducible apply b_eT); focus (first | rfl | $b))
      | ((with_reducible apply b_eF); focus (first | rfl | $b))
      | ((with_reducible apply b_rng1); focus (first | (simp [okR]; done) | (simp [okR]; omega)))
      | ((with_reducible apply b_rng2); focus (first | (simp [okR]; done) | (simp [okR]; omega)))
      | ((with_reducible apply b_back); focus (first | rfl | exact cb_f rfl rfl))
      | ((with_reducible apply b_seqF); rfl)
      | ((with_reducible apply b_LMr); rfl; focus (refine lApp ?_; first | (simp; done) | (simp; omega) | $e))
      | ((with_reducible apply b_rz); exact ⟨rfl, Nat.le_of_ble_eq_true rfl, Nat.le_of_ble_eq_true rfl⟩)
      | $d
      | fail)))
theorem wrong_k {h : D} {ps : List (Int × Int)} {rs : List (List Int)} {n : Nat} {Q : Res D → List D → Prop} (hh : HOk h) (hp : ps.length ≤ 12) (hl : 1 ≤ rs.length ∧ rs.length ≤ 13) (n1 : 1 ≤ n) (n4 : n ≤ 4) (hn : ∀ r ∈ rs, r.length = n) (k : ∀ e h', Go 4 e → HOk h' → Q (.ok e) [h']) : Ef f__law_wrong [h, sT ps rs, .int (n : Nat)] Q := by
  refine ef_fun ?_
  show Es m__law_wrong [some h, some (.tup [.lst (ps.map pT), .lst (rs.map rT)]), some (.int (n : Nat)), none, none, none] _
  unfold m__law_wrong
  have o := hh.own
  have ox := hh.isX
  have hn4 : ∀ r ∈ rs, r.length ≤ 4 := fun r hr => by have := hn r hr; omega
  have gS := sT_go hp hl.2 hn4
  have gsc := sc_go hp
  have grw := rw_go hl.2 hn4
  have i0 : gIx (.tup [.lst (ps.map pT), .lst (rs.map rT)]) (.int 0) = some (.lst (ps.map pT)) := gIx_t0 rfl
  have i1 : gIx (.tup [.lst (ps.map pT), .lst (rs.map rT)]) (.int 1) = some (.lst (rs.map rT)) := gIx_tat (i := 1) rfl rfl
  have gtwo : ∀ d ∈ [D.lst (ps.map pT), D.lst (rs.map rT)], gd d = true := fun d hd => by
    rcases List.mem_cons.mp hd with rfl | hd
    · rfl
    · rw [List.mem_singleton.mp hd]; rfl
  solve | fail | (first | (simp; done) | (simp; omega)) | (first | (simp; done) | (simp; omega)) | refine take_k hh (by omega) (by omega) fun v h1 v0 v1 hh1 => ?_ | fail
  have o1 := hh1.own
  have ox1 := hh1.isX
  obtain rfl | rfl | rfl | rfl | hv : v = 0 ∨ v = 1 ∨ v = 2 ∨ v = 3 ∨ 4 ≤ v := by omega
  · solve | (first | exact i0 | exact i1) | (simp; done) | (first | (simp; done) | (simp; omega)) | refine rid_k hh1 fun d h3 gd3 it3 hh3 => ?_ | fail
    have g3 := dg_gd gd3
    have nd := gd_nsl g3
    have o3 := hh3.own
    have ox3 := hh3.isX
    solve | (first | exact i0 | exact i1) | (simp; done) | (first | (simp; done) | (simp; omega)) | refine lstOf_t gtwo ?_ | fail
    refine add_ff gtwo (fun z hz => by rw [List.mem_singleton.mp hz]; rfl) (by simp) ?_
    solve | fail | (first | (simp; done) | (simp; omega)) | (first | (simp; done) | (simp; omega)) | refine take_k hh3 (by omega) (by omega) fun w h4 w0 w1 hh4 => ?_ | fail
    refine b_ixF ?_
    obtain ⟨x, hx, ex⟩ := three (a := d) (b := .lst [.lst (ps.map pT)]) (c := .lst [.lst (ps.map pT), .lst (rs.map rT), .int 0]) w0 w1 g3 rfl rfl
    have gx : Go 4 x := by
      rcases hx with rfl | rfl | rfl
      · exact go_dg gd3 (by rw [(dg_none it3).2]; omega)
      · refine go_dg (dg_lst (by show 1 < 40; omega) fun d hd => by rw [List.mem_singleton.mp hd]; exact gsc.1) ?_
        show dps _ + 1 ≤ 4
        have : dps [D.lst (ps.map pT)] ≤ 2 := dps_le fun d hd => by rw [List.mem_singleton.mp hd]; exact gsc.2
        omega
      · have al : ∀ d ∈ [D.lst (ps.map pT), D.lst (rs.map rT), D.int 0], dg d = true ∧ dp d ≤ 2 := fun d hd => by
          rcases List.mem_cons.mp hd with rfl | hd
          · exact gsc
          · rcases List.mem_cons.mp hd with rfl | hd
            · exact grw
            · rw [List.mem_singleton.mp hd]; exact ⟨rfl, Nat.zero_le _⟩
        refine go_dg (dg_lst (by show 3 < 40; omega) fun d hd => (al d hd).1) ?_
        show dps _ + 1 ≤ 4
        have := dps_le fun d hd => (al d hd).2
        omega
    have nx := gx.1
    have ef : D.frzs [d, .ol [.lst (ps.map pT)], .ol ([.lst (ps.map pT), .lst (rs.map rT)] ++ [.int 0])] = [d, .lst [.lst (ps.map pT)], .lst [.lst (ps.map pT), .lst (rs.map rT), .int 0]] := by simp [D.frzs, D.frz, gd_frz g3]
    rw [ef]
    solve | exact ex | (first | (simp; done) | (simp; omega)) | (first | (simp; done) | (simp; omega)) | fail | fail
    exact ⟨[h4], by simp [ioGet, hh4.isX], k _ h4 gx hh4⟩
  · solve | (first | exact i0 | exact i1) | (simp; done) | (first | (simp; done) | (simp; omega)) | refine cracked_k hh1 hp fun e h3 ge hh3 => ?_ | fail
    have ne := ge.1
    solve | (first | exact i0 | exact i1) | (first | (simp; done) | (simp; omega)) | (first | (simp; done) | (simp; omega)) | fail | fail
    exact ⟨[h3], by simp [ioGet, hh3.isX], k _ h3 (go_two ge (go_dg grw.1 (by have := grw.2; omega))) hh3⟩
  · solve | (first | exact i0 | exact i1) | (simp; done) | (first | (simp; done) | (simp; omega)) | refine torn_k hh1 hl n1 n4 hn fun e h3 ge hh3 => ?_ | fail
    have ne := ge.1
    solve | (first | exact i0 | exact i1) | (first | (simp; done) | (simp; omega)) | (first | (simp; done) | (simp; omega)) | fail | fail
    exact ⟨[h3], by simp [ioGet, hh3.isX], k _ h3 (go_two (go_dg gsc.1 (by have := gsc.2; omega)) ge) hh3⟩
  · obtain ⟨r0, rr, rfl⟩ : ∃ r0 rr, rs = r0 :: rr := by
      rcases rs with _ | ⟨r0, rr⟩
      · simp at hl
      · exact ⟨r0, rr, rfl⟩
    have l0 : r0.length = n := hn r0 (by simp)
    have j0 : gIx (.lst ((r0 :: rr).map rT)) (.int 0) = some (.tup (r0.map .int)) := gIx_lat (i := 0) rfl rfl
    have gR : ∀ d ∈ (r0 :: rr).map rT, gd d = true := fun d hd => dg_gd (dg_rT hn4 d hd).1
    solve | (first | exact i0 | exact i1 | exact j0) | (simp; done) | (first | (simp; done) | (simp; omega)) | fail | fail
    refine lstOf_t (gd_ints r0) ?_
    solve | fail | (first | (simp; done) | (simp; omega)) | (first | (simp; done) | (simp; omega)) | refine take_k hh1 (by omega) (by omega) fun u h2 u0 u1 hh2 => ?_ | fail
    have o2 := hh2.own
    have ox2 := hh2.isX
    have hut : u.toNat < r0.length := by omega
    have hix : ixN (r0.map D.int).length u = some u.toNat := ixN_ok u0 (by simp; omega)
    have hgI : gIx (.ol (r0.map D.int)) (.int u) = some (.int r0[u.toNat]) := by
      have := gIx_fo (ds := r0.map D.int) (i := u.toNat) (d := .int r0[u.toNat]) (by simp [hut]) rfl
      rw [show ((u.toNat : Nat) : Int) = u by omega] at this
      exact this
    solve | exact hgI | (first | (simp; done) | (simp; omega)) | (first | (simp; done) | (simp; omega)) | refine take_k hh2 (by omega) (by omega) fun w h3 w0 w1 hh3 => ?_ | fail
    refine b_setK rfl hix ?_
    have es : ∀ y : Int, (r0.map D.int).set u.toNat (.int y) = (r0.set u.toNat y).map D.int := fun y => by rw [List.map_set]
    rw [es]
    generalize hz : r0.set u.toNat _ = zs
    have lz : zs.length = n := by rw [← hz, List.length_set, l0]
    solve | (first | exact i0 | exact i1) | (first | (simp; done) | (simp; omega)) | (first | (simp; done) | (simp; omega)) | fail | fail
    refine cut_l gR ?_
    solve | fail | (first | (simp; done) | (simp; omega)) | (first | (simp; done) | (simp; omega)) | fail | fail
    refine lstOf_o (fun d hd => gR d (cut_mem d hd)) ?_
    have ff : (D.ol (zs.map D.int)).frz = .lst (zs.map D.int) := by show D.lst (D.frzs _) = _; rw [frzs_ints]
    refine add_ff (fun z hz => by rw [List.mem_singleton.mp hz]; rfl) (fun d hd => gR d (cut_mem d hd)) (by have := cut_len (ds := (r0 :: rr).map rT) (lo := some 1) (hi := none); have hl2 := hl.2; simp at this hl2 ⊢; omega) ?_
    solve | fail | (first | (simp; done) | (simp; omega)) | (first | (simp; done) | (simp; omega)) | fail | fail
    refine ⟨[h3], by simp [ioGet, hh3.isX], k _ h3 (go_two (go_dg gsc.1 (by have := gsc.2; omega)) ?_) hh3⟩
    refine go_le (go_ol (n := 1) (by have := cut_len (ds := (r0 :: rr).map rT) (lo := some 1) (hi := none); simp at this ⊢; simp at hl; omega) fun e he => ?_) (by omega)
    rcases List.mem_append.mp he with he | he
    · rw [List.mem_singleton.mp he, ff]
      exact go_dg (dg_ints (by omega)).1 (by show dps _ + 1 ≤ 1; rw [dps_ints]; omega)
    · have q := dg_rT hn4 e (cut_mem e he)
      exact go_dg q.1 q.2
  · solve | fail | (simp; omega) | (first | (simp; done) | (simp; omega)) | fail | fail
    exact ⟨[h1], by simp [ioGet, ox1], k _ h1 (go_dg gS.1 (Nat.le_trans gS.2 (by omega))) hh1⟩
end LAWP
end
section
set_option Elab.async false
set_option linter.all false
set_option autoImplicit false
set_option maxRecDepth 100000
set_option maxHeartbeats 0
set_option pp.maxSteps 400
namespace LAWP
open PySem PySem.Spec L2 SV LAWM
/-! ### bare things are judged alike -/
theorem items_bare (d : D) : itemsOf (bareD d) = (itemsOf d).map fun ds => ds.map bareD := by
  cases d <;> first | (show some (bareDs _) = some _; rw [bareDs_map]) | rfl
theorem wh_bare (lo hi : Option Int) (d : D) : whB lo hi (bareD d) = whB lo hi d := by cases d <;> rfl
theorem whole_bare (d : D) : whole (bareD d) = whole d := wh_bare _ _ d
theorem toI_bare (d : D) : toI (bareD d) = toI d := by cases d <;> rfl
theorem intsOf_bare (ds : List D) : intsOf (ds.map bareD) = intsOf ds := by
  unfold intsOf
  rw [List.map_map]
  exact List.map_congr_left fun x _ => toI_bare x
theorem bad_bare : ∀ (ds : List D) (i : Nat), bad (ds.map bareD) i = bad ds i
  | [], _ => rfl
  | d :: ds, i => by simp only [List.map_cons, bad, whole_bare, bad_bare ds]
theorem fst_bare (d : D) : fstF none (bareD d) = fstF none d := by
  unfold fstF
  rw [items_bare]
  cases itemsOf d with
  | none => rfl
  | some ds => simp [bad_bare]
theorem pour_bare (m : Int) (d : D) : pourF m (bareD d) = pourF m d := by
  unfold pourF
  rw [items_bare]
  cases itemsOf d with
  | none => rfl
  | some ds =>
    rcases ds with _ | ⟨a, _ | ⟨b, _ | ⟨c, r⟩⟩⟩
    · rfl
    · rfl
    · simp [wh_bare]
    · rfl
theorem scrB_bare (m : Int) : ∀ (ds : List D) (i : Nat), scrB m (ds.map bareD) i = scrB m ds i
  | [], _ => rfl
  | d :: ds, i => by simp only [List.map_cons, scrB, pour_bare, scrB_bare m ds]
theorem scr_bare (m : Int) (d : D) : scrF m (bareD d) = scrF m d := by
  unfold scrF
  rw [items_bare]
  cases itemsOf d with
  | none => rfl
  | some ds => simp [scrB_bare]
theorem all_bare {p : D → Bool} (hp : ∀ d, p (bareD d) = p d) : ∀ ds : List D, (ds.map bareD).all p = ds.all p
  | [] => rfl
  | d :: ds => by simp only [List.map_cons, List.all_cons, hp, all_bare hp ds]
theorem hue_bare (m : Int) (d : D) : hueB m (bareD d) = hueB m d := by
  unfold hueB
  rw [items_bare]
  cases itemsOf d with
  | none => rfl
  | some ds => simp only [Option.map_some, List.length_map, all_bare whole_bare]
theorem rows_bare (m k : Int) (d : D) : rowsB m k (bareD d) = rowsB m k d := by
  unfold rowsB
  rw [items_bare]
  cases itemsOf d with
  | none => rfl
  | some ds => simp only [Option.map_some, List.length_map, all_bare (hue_bare m)]
theorem first_bare (d : D) : firstRow (bareD d) = firstRow d := by
  unfold firstRow
  rw [items_bare]
  cases itemsOf d with
  | none => rfl
  | some ds =>
    cases ds with
    | nil => rfl
    | cons r rs =>
      simp only [Option.map_some, List.map_cons]
      rw [items_bare]
      cases itemsOf r with
      | none => rfl
      | some cs => simp only [Option.map_some, intsOf_bare]
theorem sight_bare (fs : List D) (s : D) : sightF (fs.map bareD) (bareD s) = sightF fs s := by
  unfold sightF
  rw [items_bare]
  cases itemsOf s with
  | none => rfl
  | some ds =>
    rcases ds with _ | ⟨a, _ | ⟨b, _ | ⟨c, r⟩⟩⟩
    · rfl
    · rfl
    · simp only [Option.map_some, List.map_cons, List.map_nil, List.length_map, scr_bare, rows_bare, first_bare, intsOf_bare]
      rw [items_bare]
      cases scrF (↑fs.length) a with
      | some z => rfl
      | none =>
        cases itemsOf a with
        | none => rfl
        | some ps => simp only [Option.map_some, List.length_map]
    · rfl
theorem sightsF_bare (fs : List D) : ∀ (ss : List D) (i : Nat), sightsF (fs.map bareD) (ss.map bareD) i = sightsF fs ss i
  | [], _ => rfl
  | s :: ss, i => by simp only [List.map_cons, sightsF, sight_bare, sightsF_bare fs ss]
theorem sgts_bare (F S : D) (u : Int) : sgtsF (bareD F) (bareD S) u = sgtsF F S u := by
  unfold sgtsF
  rw [items_bare, items_bare]
  cases itemsOf S with
  | none => rfl
  | some ss =>
    cases itemsOf F with
    | none => simp
    | some fs => simp [sightsF_bare]
theorem rul_bare {F S : D} {u : Int} (gS : dg S = true) : rul (bareD F) (bareD S) u = rul F S u := by
  unfold rul
  rw [fst_bare, sgts_bare, (dg_bare (dp S + 1) S (by omega) gS).2.2]
theorem rul_lk {F F' S S' : D} {u : Int} (gS : dg S = true) (hF : bareD F' = bareD F) (hS : Lk S S') : rul F' S' u = rul F S u := by
  rw [← rul_bare (F := F) gS, ← rul_bare (F := F') hS.1, hF, hS.2.1]
/-! ### what is like itself -/
mutual
def pq : D → Bool
  | .non => true
  | .bl _ => true
  | .int _ => true
  | .str x => PyData.strOk x
  | .tup xs => pqs xs
  | .lst xs => pqs xs
  | .ol xs => pqs xs
  | _ => false
def pqs : List D → Bool
  | [] => true
  | x :: xs => pq x && pqs xs
end
mutual
theorem pq_ok : ∀ (d : D), pq d = true → ∃ p, d.py = some p ∧ p.canLay0 = true ∧ p.depth = dpt d ∧ PyData.eqv p p = true
  | .non, _ => ⟨.none, rfl, rfl, rfl, rfl⟩
  | .bl b, _ => ⟨.bool b, rfl, rfl, rfl, by cases b <;> rfl⟩
  | .int i, _ => ⟨.int i, rfl, rfl, rfl, by simp [PyData.eqv]⟩
  | .str x, h => ⟨.str x, rfl, by simpa [PyData.canLay0] using (show PyData.strOk x = true from h), rfl, by simp [PyData.eqv]⟩
  | .tup xs, h => let ⟨ps, a, b, c, d⟩ := pqs_ok xs h; ⟨.tuple ps, by simp [D.py, a], by simpa [PyData.canLay0] using b, by simp [PyData.depth, dpt, c], by simpa [PyData.eqv] using d⟩
  | .lst xs, h => let ⟨ps, a, b, c, d⟩ := pqs_ok xs h; ⟨.list ps, by simp [D.py, a], by simpa [PyData.canLay0] using b, by simp [PyData.depth, dpt, c], by simpa [PyData.eqv] using d⟩
  | .ol xs, h => let ⟨ps, a, b, c, d⟩ := pqs_ok xs h; ⟨.list ps, by simp [D.py, a], by simpa [PyData.canLay0] using b, by simp [PyData.depth, dpt, c], by simpa [PyData.eqv] using d⟩
  | .fz _, h => by simp [pq] at h
  | .dk _ _, h => by simp [pq] at h
  | .ins _ _ _, h => by simp [pq] at h
  | .od _ _, h => by simp [pq] at h
  | .oi _ _ _, h => by simp [pq] at h
  | .sl _, h => by simp [pq] at h
  | .xc _ _ _, h => by simp [pq] at h
  | .rg _ _, h => by simp [pq] at h
  | .xv _ _ _, h => by simp [pq] at h
  | .xw _, h => by simp [pq] at h
theorem pqs_ok : ∀ (ds : List D), pqs ds = true → ∃ ps, D.pys ds = some ps ∧ PyData.canLayAll0 ps = true ∧ PyData.depthAll ps = dpts ds ∧ PyData.eqvAll ps ps = true
  | [], _ => ⟨[], rfl, rfl, rfl, rfl⟩
  | d :: ds, h => by
    obtain ⟨h1, h2⟩ := Bool.and_eq_true_iff.mp (show (pq d && pqs ds) = true from h)
    obtain ⟨p, a1, a2, a3, a4⟩ := pq_ok d h1
    obtain ⟨ps, b1, b2, b3, b4⟩ := pqs_ok ds h2
    exact ⟨p :: ps, by simp [D.pys, a1, b1], by simp [PyData.canLayAll0, a2, b2], by simp [PyData.depthAll, dpts, a3, b3], by simp [PyData.eqvAll, a4, b4]⟩
end
theorem gEq_pq {neg : Bool} {d : D} (h : pq d = true) (hd : dpt d ≤ 64) : gEq neg d d = some (.bl (!neg)) := by
  obtain ⟨p, a1, a2, a3, a4⟩ := pq_ok d h
  have s : SeqAt.shaped p = true := by unfold SeqAt.shaped; rw [a2, a3]; simp [hd]
  unfold gEq
  rw [a1]
  simp only [s, and_self, if_true, a4]
  cases neg <;> rfl
mutual
theorem tk_pq : ∀ (d : D), tk d = true → pq d = true ∧ dpt d = dp d
  | .non, _ => ⟨rfl, rfl⟩
  | .int _, _ => ⟨rfl, rfl⟩
  | .tup xs, h => let ⟨a, b⟩ := tks_pq xs h; ⟨a, by show dpts xs + 1 = dps xs + 1; rw [b]⟩
  | .bl _, h => by simp [tk] at h
  | .str _, h => by simp [tk] at h
  | .lst _, h => by simp [tk] at h
  | .ol _, h => by simp [tk] at h
  | .fz _, h => by simp [tk] at h
  | .dk _ _, h => by simp [tk] at h
  | .ins _ _ _, h => by simp [tk] at h
  | .od _ _, h => by simp [tk] at h
  | .oi _ _ _, h => by simp [tk] at h
  | .sl _, h => by simp [tk] at h
  | .xc _ _ _, h => by simp [tk] at h
  | .rg _ _, h => by simp [tk] at h
  | .xv _ _ _, h => by simp [tk] at h
  | .xw _, h => by simp [tk] at h
theorem tks_pq : ∀ (ds : List D), tks ds = true → pqs ds = true ∧ dpts ds = dps ds
  | [], _ => ⟨rfl, rfl⟩
  | d :: ds, h => by
    obtain ⟨h1, h2⟩ := Bool.and_eq_true_iff.mp (show (tk d && tks ds) = true from h)
    obtain ⟨a1, a2⟩ := tk_pq d h1
    obtain ⟨b1, b2⟩ := tks_pq ds h2
    exact ⟨by show (pq d && pqs ds) = true; rw [a1, b1]; rfl, by show max (dpt d) (dpts ds) = max (dp d) (dps ds); rw [a2, b2]⟩
end
theorem sight_w {fs : List D} {s : D} {w : Str} (h : sightF fs s = some w) : PyData.strOk w = true := by
  unfold sightF at h
  split at h
  · split at h
    · cases h; decide +kernel
    · split at h
      · split at h
        · split at h
          · cases h
          · cases h; decide +kernel
        · cases h; decide +kernel
      · cases h; decide +kernel
  · cases h; decide +kernel
theorem sights_w {fs : List D} : ∀ {ss : List D} {i j : Nat} {w : Str}, sightsF fs ss i = some (j, w) → PyData.strOk w = true
  | s :: ss, i, j, w, h => by
    unfold sightsF at h
    split at h
    · rename_i hs
      cases h
      exact sight_w hs
    · exact sights_w h
theorem sgts_w {F S : D} {u : Int} {j : Nat} {w : Str} (h : sgtsF F S u = some (j, w)) : PyData.strOk w = true := by
  unfold sgtsF at h
  split at h
  · cases h; decide +kernel
  · split at h
    · cases h; decide +kernel
    · split at h
      · exact sights_w h
      · cases h
theorem sk_f : PyData.strOk "firsts" = true := by decide +kernel
theorem sk_s : PyData.strOk "sight" = true := by decide +kernel
theorem rul_cases {F S : D} {u : Int} (gS : dg S = true) : (∃ j : Nat, rul F S u = .ol [.str "firsts", .int (j : Nat)]) ∨ (∃ (j : Nat) (w : Str), PyData.strOk w = true ∧ rul F S u = .ol [.str "sight", .int (j : Nat), .str w]) ∨ (rul F S u = bareD S ∧ tk (bareD S) = true) := by
  cases hf : fstF none F with
  | some j => exact .inl ⟨j, rul_f hf⟩
  | none =>
    cases hs : sgtsF F S u with
    | some z =>
      obtain ⟨j, w⟩ := z
      exact .inr (.inl ⟨j, w, sgts_w hs, rul_s hf hs⟩)
    | none => exact .inr (.inr ⟨rul_n hf hs, rul_tk gS hf hs⟩)
theorem rul_pq {F S : D} {u : Int} (gS : dg S = true) (hd : dp S < 60) : (∀ i, rul F S u ≠ .sl i) ∧ gEq true (rul F S u) (rul F S u) = some (.bl false) ∧ gd (rul F S u).frz = true ∧ (∀ i, (rul F S u).frz ≠ .sl i) ∧ gEq true (rul F S u).frz (rul F S u).frz = some (.bl false) ∧
    (∀ xs, (rul F S u).frz = .tup xs → (rul F S u).frz = bareD S ∧ tk (bareD S) = true) := by
  rcases rul_cases (F := F) (u := u) gS with ⟨j, e⟩ | ⟨j, w, hw, e⟩ | ⟨e, t⟩
  · rw [e]
    have h1 : pq (.ol [.str "firsts", .int (j : Nat)]) = true := by simp [pq, pqs, sk_f]
    have h2 : pq (.lst [.str "firsts", .int (j : Nat)]) = true := by simp [pq, pqs, sk_f]
    have q1 := gEq_pq (neg := true) h1 (by simp [dpt, dpts])
    have q2 := gEq_pq (neg := true) h2 (by simp [dpt, dpts])
    exact ⟨(fun i z => by cases z), q1, rfl, (fun i z => by cases z), q2, fun xs z => by cases z⟩
  · rw [e]
    have h1 : pq (.ol [.str "sight", .int (j : Nat), .str w]) = true := by simp [pq, pqs, sk_s, hw]
    have h2 : pq (.lst [.str "sight", .int (j : Nat), .str w]) = true := by simp [pq, pqs, sk_s, hw]
    have q1 := gEq_pq (neg := true) h1 (by simp [dpt, dpts])
    have q2 := gEq_pq (neg := true) h2 (by simp [dpt, dpts])
    exact ⟨(fun i z => by cases z), q1, rfl, (fun i z => by cases z), q2, fun xs z => by cases z⟩
  · rw [e]
    obtain ⟨g1, g2, _⟩ := dg_bare (dp S + 1) S (by omega) gS
    have gg := dg_gd g1
    obtain ⟨p1, p2⟩ := tk_pq _ t
    rw [gd_frz gg]
    have q := gEq_pq (neg := true) p1 (by omega)
    exact ⟨gd_nsl gg, q, gg, gd_nsl gg, q, fun xs _ => ⟨rfl, t⟩⟩
theorem sm_self : ∀ (n : Nat) (d : D), dg d = true → dp d < n → D.sm n d d = true
  | 0, d, _, h => absurd h (Nat.not_lt_zero _)
  | n + 1, d, g, h => by
    have all : ∀ {xs : List D}, (∀ x ∈ xs, dg x = true ∧ dp x < n) → ((xs.zip xs).all fun p => D.sm n p.1 p.2) = true := fun {xs} hx => by
      induction xs with
      | nil => rfl
      | cons x xs ih =>
        simp only [List.zip_cons_cons, List.all_cons, Bool.and_eq_true]
        exact ⟨sm_self n x (hx x (by simp)).1 (hx x (by simp)).2, ih fun y hy => hx y (by simp [hy])⟩
    cases d with
    | non => rfl
    | bl b => simp [D.sm]
    | int i => simp [D.sm]
    | str x => simp [D.sm]
    | tup xs =>
      obtain ⟨_, hg, hd, _⟩ := dg_items g rfl
      simp only [D.sm, beq_self_eq_true, Bool.true_and]
      exact all fun x hx => ⟨hg x hx, by have := dps_mem hx; omega⟩
    | lst xs =>
      obtain ⟨_, hg, hd, _⟩ := dg_items g rfl
      simp only [D.sm, beq_self_eq_true, Bool.true_and]
      exact all fun x hx => ⟨hg x hx, by have := dps_mem hx; omega⟩
    | dk ks xs =>
      simp only [dg, Bool.and_eq_true, decide_eq_true_eq] at g
      obtain ⟨rfl, g2⟩ := g
      split at g2
      · simp at g2
        subst g2
        cases n <;> simp [D.sm, isInl, D.sv]
      · cases g2
    | _ => simp [dg] at g
theorem neX_self {d : D} (g : dg d = true) (h : dp d < 60) : gEqX true d d = some (.bl false) := by
  unfold gEqX
  by_cases hb : d.big = true
  · rw [if_pos (by rw [hb, sm_self 64 d g (by omega)]; rfl)]
    rfl
  · rw [if_neg (by simp [hb])]
    have hp : pq d = true ∧ dpt d ≤ 64 := by
      cases d <;> first | exact absurd rfl hb | exact ⟨g, Nat.zero_le _⟩ | (simp [dg] at g; done)
    exact gEq_pq hp.1 hp.2
theorem dr_nsl {d : D} {ρ : SV.Env} (h : ∀ i, d ≠ .sl i) : dr ρ d = some d := by cases d <;> first | rfl | exact absurd rfl (h _)
theorem ne_rul {F S : D} {u : Int} {ρ : SV.Env} {QD : Res D → SV.Env → Prop} (gS : dg S = true) (hd : dp S < 60) (q : QD (.ok (.bl false)) ρ) : Ev (fNe (rul F S u) (rul F S u)) ρ QD := by
  obtain ⟨h1, h2, _⟩ := rul_pq (F := F) (u := u) gS hd
  exact b_look2 (dr_nsl h1) (dr_nsl h1) h2 q
end LAWP
end
section
set_option Elab.async false
set_option linter.all false
set_option autoImplicit false
set_option maxRecDepth 100000
set_option maxHeartbeats 0
set_option pp.maxSteps 400
namespace LAWP
open PySem PySem.Spec L2 SV LAWM
def A0 : SM := (mSet 6 (mOp fIx (mLst (mCons (mCall [true, false] f__law_take [] (mCons (mVar 1) (mCons (SV.ret (.int 4)) mNil))) (mCons (mCall [true, false] f__law_take [] (mCons (mVar 1) (mCons (SV.ret (.int 13)) mNil))) (mCons (SV.ret (.int 12)) mNil)))) (mCall [true, false] f__law_take [] (mCons (mVar 1) (mCons (SV.ret (.int 3)) mNil)))))
def A1 : SM := (mSet 7 (mLc (bnd (mCons (mVar 6) mNil) fRng1) (tgN 9) (SV.ret true) (mTup (mCons (mCall [true, false] f__law_take [] (mCons (mVar 1) (mCons (mVar 2) mNil))) (mCons (mCall [true] f__law_colour [] (mCons (mVar 1) mNil)) mNil))) [9]))
def A2 : SM := (mSet 8 (mLst (mCons (mCB fTup (mCons (mVar 3) mNil)) mNil)))
def A3 : SM := (mFor (bnd (mCons (mVar 6) mNil) fRng1) (tgN 9) (mExpr (mLM lAppend 8 (mCons (mCB fTup (mCons (mLc (bnd (mCons (mVar 2) mNil) fRng1) (tgN 19) (SV.ret true) (mCall [true] f__law_colour [] (mCons (mVar 1) mNil)) [19]) mNil)) mNil))))
def A4 : SM := (mExpr (mLM lAppend 4 (mCons (mTup (mCons (mVar 7) (mCons (mVar 8) mNil))) mNil)))
def AA : SM := (mSeq A0 (mSeq A1 (mSeq A2 (mSeq A3 A4))))
def B0 : SM := (mSet 14 (mLc (mIter (mVar 4)) (tgN 20) (SV.ret true) (mCall [true, false, false] f__law_wrong [] (mCons (mVar 1) (mCons (mVar 20) (mCons (mVar 2) mNil)))) [20]))
def B1 : SM := (mIf (mTb (mOp fEq (mCall [true, false] f__law_take [] (mCons (mVar 1) (mCons (SV.ret (.int 16)) mNil))) (SV.ret (.int 0)))) (mSet 14 (mCall [true] f__law_rid [] (mCons (mVar 1) mNil))) (endS .nx))
def B2 : SM := (mSet 15 (mFz (mCall [true, false] f__law_begun [] (mCons (mVar 1) (mCons (mVar 3) mNil)))))
def B3 : SM := (mSet 16 (mFz (mCall [false, false, false] f__law_due [] (mCons (mVar 15) (mCons (mVar 14) (mCons (mVar 11) mNil))))))
def B4 : SM := (mSet 17 (mFz (mCall [true, false] (f__law_lists 7) [] (mCons (mVar 1) (mCons (mVar 14) mNil)))))
def B5 : SM := (mSet 13 (mFz (mCall [false] (f__law_bare 7) [] (mCons (mVar 17) mNil))))
def B6 : SM := (mSet 18 (mFz (mCall [false, false, false] f__law_asked [] (mCons (mVar 15) (mCons (mVar 17) (mCons (mVar 10) mNil))))))
def B7 : SM := (mIf (mOr (mTb (mOp fNe (mVar 18) (mVar 16))) (mOr (mAnd (mTru (mIsi [.tup] (mVar 18))) (mNot (mTru (mCall [false] (f__law_tuples 7) [] (mCons (mVar 18) mNil))))) (mTb (mOp (fLook2 (gEqX true)) (mCall [false] (f__law_bare 7) [] (mCons (mVar 17) mNil)) (mVar 13))))) (mRet (SV.ret (.bl false))) (endS .nx))
def BB : SM := (mSeq B0 (mSeq B1 (mSeq B2 (mSeq B3 (mSeq B4 (mSeq B5 (mSeq B6 B7)))))))
def L0 : SM := (mSet 1 (mCall [false] f__law_hand [] (mCons (mVar 0) mNil)))
def L1 : SM := (mSet 2 (mOp fAddA (SV.ret (.int 1)) (mCall [true, false] f__law_take [] (mCons (mVar 1) (mCons (SV.ret (.int 4)) mNil)))))
def L2 : SM := (mSet 3 (mLc (bnd (mCons (mVar 2) mNil) fRng1) (tgN 19) (SV.ret true) (mCall [true] f__law_colour [] (mCons (mVar 1) mNil)) [19]))
def L3 : SM := (mSet 4 (mLst mNil))
def L4 : SM := (mFor (bnd (mCons (mCall [true, false] f__law_take [] (mCons (mVar 1) (mCons (SV.ret (.int 5)) mNil))) mNil) fRng1) (tgN 5) AA)
def L5 : SM := (mSet 10 (mIfE (mTru (mCall [true, false] f__law_take [] (mCons (mVar 1) (mCons (SV.ret (.int 2)) mNil)))) (SV.ret .non) (mCall [true, false] f__law_take [] (mCons (mVar 1) (mCons (SV.ret (.int 5)) mNil)))))
def L6 : SM := (mSet 11 (mIfE (mTb (mIsN (mVar 10))) (SV.ret (.int 3)) (mVar 10)))
def L7 : SM := (mSet 12 (mFz (mCall [true, false] (f__law_lists 7) [] (mCons (mVar 1) (mCons (mVar 4) mNil)))))
def L8 : SM := (mSet 13 (mFz (mCall [false] (f__law_bare 7) [] (mCons (mVar 12) mNil))))
def L9 : SM := (mIf (mOr (mTb (mOp fNe (mCall [false, false, false] f__law_asked [] (mCons (mCall [true, false] (f__law_lists 7) [] (mCons (mVar 1) (mCons (mVar 3) mNil))) (mCons (mVar 12) (mCons (mVar 10) mNil)))) (mCall [false, false, false] f__law_due [] (mCons (mVar 3) (mCons (mVar 4) (mCons (mVar 11) mNil)))))) (mTb (mOp (fLook2 (gEqX true)) (mCall [false] (f__law_bare 7) [] (mCons (mVar 12) mNil)) (mVar 13)))) (mRet (SV.ret (.bl false))) (endS .nx))
def L10 : SM := (mFor (bnd (mCons (SV.ret (.int 2)) mNil) fRng1) (tgN 5) BB)
def L11 : SM := (mRet (mOp fEq (mCall [false, false, false] f__law_asked [] (mCons (mVar 3) (mCons (mLst mNil) (mCons (mVar 10) mNil)))) (mTup mNil)))
theorem law_segs : m_law = (mSeq L0 (mSeq L1 (mSeq L2 (mSeq L3 (mSeq L4 (mSeq L5 (mSeq L6 (mSeq L7 (mSeq L8 (mSeq L9 (mSeq L10 L11))))))))))) := rfl
local macro_rules
  | `(tactic| solve | $a | $b | $c | $d | $e) => `(tactic| (repeat' (first
      | (apply_rules (transparency := .reducible) (symm := false) (exfalso := false) (maxDepth := 1000) only [@b_ok, @b_okS, @b_nx, @b_seq, @b_op, @b_ret, @b_cons, @b_nil, @b_CB, @b_C1, @b_set, @b_tb, @b_bl, @b_if, @b_end, @b_preps, @b_prepF, @b_preps0, @b_call, @b_owns, @b_owns0])
      | (apply_rules (transparency := .reducible) (symm := false) (exfalso := false) (maxDepth := 1000) only [@b_nret, @b_nexc, @b_exc, @b_excS, @b_nbrk, @b_nct, @b_mret, @b_expr, @b_setI, @b_un, @b_C2, @b_tru, @b_and, @b_or, @b_not, @b_notT, @b_andV, @b_orV, @b_blE, @b_ifE, @b_add, @b_neg, @b_aug, @b_prepT, @b_frzs, @b_frzs0, @b_tup, @b_lst, @b_isN, @b_notN, @b_isi, @b_raise, @b_ownS, @b_bnd, @b_iter, @b_fseq, @b_mfor, @b_enum, @b_callK, @b_sl, @b_part, @b_pi])
      | ((with_reducible apply b_var); rfl; (focus (first | rfl | assumption)); (focus (first | rfl | assumption)))
      | ((with_reducible apply b_varO); rfl; (focus (first | rfl | assumption)))
      | ((with_reducible apply b_st); exact Nat.le_of_ble_eq_true rfl)
      | ((with_reducible apply b_mvS); rfl; (focus (first | rfl | assumption)))
      | ((with_reducible apply b_mv); (focus (first | assumption | (intro _ z; cases z; done))))
      | ((with_reducible apply b_frzS); rfl; (focus (first | rfl | assumption)))
      | ((with_reducible apply b_frzG); focus (first | assumption | rfl))
      | ((with_reducible apply b_frz); (focus (first | assumption | (intro _ z; cases z; done))))
      | ((with_reducible apply b_own); (focus (first | assumption | (intro _ z; cases z; done))))
      | ((with_reducible apply b_II); focus (first | rfl | $c))
      | ((with_reducible apply b_look2); (focus (first | rfl | exact dr_gd (by assumption))); (focus (first | rfl | exact dr_gd (by assumption))); focus (first | exact gEqF | exact gNeF | $a | rfl))
      | ((with_reducible apply b_look); (focus (first | rfl | exact dr_gd (by assumption))); focus (first | $a | rfl))
      | ((with_reducible apply b_trv); (focus (first | rfl | exact dr_gd (by assumption))); rfl)
      | ((with_reducible apply b_io); rfl)
      | ((with_reducible apply b_lim); exact Nat.le_of_ble_eq_true rfl)
      | ((with_reducible apply b_setD); rfl)
      | ((with_reducible apply b_setK); rfl; rfl)
      | ((with_reducible apply b_LM); rfl)
      | ((with_reducible apply b_ifT); focus (first | rfl | $b))
      | ((with_reducible apply b_ifF); focus (first | rfl | $b))
      | ((with_reducible apply b_eT); focus (first | rfl | $b))
      | ((with_reducible apply b_eF); focus (first | rfl | $b))
      | ((with_reducible apply b_rng1); focus (first | (simp [okR]; done) | (simp [okR]; omega)))
      | ((with_reducible apply b_rng2); focus (first | (simp [okR]; done) | (simp [okR]; omega)))
      | ((with_reducible apply b_back); focus (first | rfl | exact cb_f rfl rfl))
      | ((with_reducible apply b_seqF); rfl)
      | ((with_reducible apply b_LMr); rfl; focus (refine lApp ?_; first | (simp; done) | (simp; omega) | $e))
      | ((with_reducible apply b_rz); exact ⟨rfl, Nat.le_of_ble_eq_true rfl, Nat.le_of_ble_eq_true rfl⟩)
      | $d
      | fail)))
theorem row_c {x0 x3 x4 x5 x6 x7 x8 x9 x10 x11 x12 x13 x14 x15 x16 x17 x18 x19 x20 : Option D} {h : D} {n : Nat} (hh : HOk h) (n4 : n ≤ 4) {QD : Res D → SV.Env → Prop} (k : ∀ (xs : List Int) h', xs.length = n → Rw xs → HOk h' → QD (.ok (.ol (xs.map D.int))) [x0, some h', some (.int (n : Nat)), x3, x4, x5, x6, x7, x8, x9, x10, x11, x12, x13, x14, x15, x16, x17, x18, none, x20]) :
    Ev (mLc (bnd (mCons (mVar 2) mNil) fRng1) (tgN 19) (SV.ret true) (mCall [true] f__law_colour [] (mCons (mVar 1) mNil)) [19]) [x0, some h, some (.int (n : Nat)), x3, x4, x5, x6, x7, x8, x9, x10, x11, x12, x13, x14, x15, x16, x17, x18, x19, x20] QD := by
  refine ev_lc (fun dsl acc ρ => ∃ (i m : Nat) (xs : List Int) (h : D), dsl = SV.upTo (i : Int) m ∧ acc = xs.map D.int ∧ xs.length = i ∧ i + m = n ∧ Rw xs ∧ HOk h ∧ ρ = [x0, some h, some (.int (n : Nat)), x3, x4, x5, x6, x7, x8, x9, x10, x11, x12, x13, x14, x15, x16, x17, x18, none, x20]) ?_ ?_ ?_
  · solve | fail | (first | (simp; done) | (simp; omega)) | (first | (simp; done) | (simp; omega)) | fail | fail
    refine ⟨⟨0, n, [], h, by simp, rfl, rfl, by omega, fun x hx => by simp at hx, hh, rfl⟩, ?_⟩
    show (SV.upTo _ _).length ≤ 16777216
    rw [upTo_length]
    omega
  · rintro acc ρ ⟨i, m, xs, h, e, rfl, hl, him, rx, hh, rfl⟩
    cases m with
    | succ m => rw [upTo_succ] at e; cases e
    | zero => exact k xs h (by omega) rx hh
  · rintro d dsl acc ρ ⟨i, m, xs, h, e, rfl, hl, him, rx, hh, rfl⟩
    cases m with
    | zero => cases e
    | succ m =>
      rw [upTo_succ] at e
      cases e
      have o := hh.own
      have ox := hh.isX
      refine ⟨_, rfl, b_ret ⟨true, rfl, ?_⟩⟩
      simp only [if_true]
      solve | fail | (first | (simp; done) | (simp; omega)) | (first | (simp; done) | (simp; omega)) | refine colour_k hh fun v h' v0 v1 hh' => ?_ | fail
      refine ⟨_, rfl, ?_⟩
      solve | fail | (first | (simp; done) | (simp; omega)) | (first | (simp; done) | (simp; omega)) | fail | fail
      exact ⟨_, rfl, i + 1, m, xs ++ [v], h', rfl, by simp, by simp [hl], by omega, rx.app v0 v1, hh', rfl⟩
theorem pours_c {x0 x3 x4 x5 x7 x8 x9 x10 x11 x12 x13 x14 x15 x16 x17 x18 x19 x20 : Option D} {h : D} {n z : Nat} (hh : HOk h) (n1 : 1 ≤ n) (n4 : n ≤ 4) (hz : z ≤ 12) {QD : Res D → SV.Env → Prop} (k : ∀ (ps : List (Int × Int)) h', ps.length = z → HOk h' → QD (.ok (.ol (ps.map pT))) [x0, some h', some (.int (n : Nat)), x3, x4, x5, some (.int (z : Nat)), x7, x8, none, x10, x11, x12, x13, x14, x15, x16, x17, x18, x19, x20]) :
    Ev (mLc (bnd (mCons (mVar 6) mNil) fRng1) (tgN 9) (SV.ret true) (mTup (mCons (mCall [true, false] f__law_take [] (mCons (mVar 1) (mCons (mVar 2) mNil))) (mCons (mCall [true] f__law_colour [] (mCons (mVar 1) mNil)) mNil))) [9]) [x0, some h, some (.int (n : Nat)), x3, x4, x5, some (.int (z : Nat)), x7, x8, x9, x10, x11, x12, x13, x14, x15, x16, x17, x18, x19, x20] QD := by
  refine ev_lc (fun dsl acc ρ => ∃ (i m : Nat) (ps : List (Int × Int)) (h : D), dsl = SV.upTo (i : Int) m ∧ acc = ps.map pT ∧ ps.length = i ∧ i + m = z ∧ HOk h ∧ ρ = [x0, some h, some (.int (n : Nat)), x3, x4, x5, some (.int (z : Nat)), x7, x8, none, x10, x11, x12, x13, x14, x15, x16, x17, x18, x19, x20]) ?_ ?_ ?_
  · solve | fail | (first | (simp; done) | (simp; omega)) | (first | (simp; done) | (simp; omega)) | fail | fail
    refine ⟨⟨0, z, [], h, by simp, rfl, rfl, by omega, hh, rfl⟩, ?_⟩
    show (SV.upTo _ _).length ≤ 16777216
    rw [upTo_length]
    omega
  · rintro acc ρ ⟨i, m, xs, h, e, rfl, hl, him, hh, rfl⟩
    cases m with
    | succ m => rw [upTo_succ] at e; cases e
    | zero => exact k xs h (by omega) hh
  · rintro d dsl acc ρ ⟨i, m, xs, h, e, rfl, hl, him, hh, rfl⟩
    cases m with
    | zero => cases e
    | succ m =>
      rw [upTo_succ] at e
      cases e
      have o := hh.own
      have ox := hh.isX
      refine ⟨_, rfl, b_ret ⟨true, rfl, ?_⟩⟩
      simp only [if_true]
      solve | fail | (first | (simp; done) | (simp; omega)) | (first | (simp; done) | (simp; omega)) | refine take_k hh (by omega) (by omega) fun v h1 v0 v1 hh1 => ?_ | fail
      have o1 := hh1.own
      have ox1 := hh1.isX
      solve | fail | (first | (simp; done) | (simp; omega)) | (first | (simp; done) | (simp; omega)) | refine colour_k hh1 fun u h' u0 u1 hh' => ?_ | fail
      refine ⟨_, rfl, ?_⟩
      solve | fail | (first | (simp; done) | (simp; omega)) | (first | (simp; done) | (simp; omega)) | fail | fail
      exact ⟨_, rfl, i + 1, m, xs ++ [(v, u)], h', rfl, by simp [pT], by simp [hl], by omega, hh', rfl⟩
def Sg (n : Nat) (x : List (Int × Int) × List (List Int)) : Prop := x.1.length ≤ 12 ∧ x.2.length = x.1.length + 1 ∧ ∀ r ∈ x.2, r.length = n
def sgD (x : List (Int × Int) × List (List Int)) : D := sT x.1 x.2
theorem gd_pT (ps : List (Int × Int)) : ∀ d ∈ ps.map pT, gd d = true := fun d hd => dg_gd (dg_pT ps d hd).1
theorem gd_rT (rs : List (List Int)) : ∀ d ∈ rs.map rT, gd d = true := fun d hd => by
  obtain ⟨r, _, rfl⟩ := List.mem_map.mp hd
  rfl
theorem gd_sgD (L : List (List (Int × Int) × List (List Int))) : ∀ d ∈ L.map sgD, gd d = true := fun d hd => by
  obtain ⟨r, _, rfl⟩ := List.mem_map.mp hd
  rfl
theorem three_o {v : Int} {a b c : Int} (h0 : 0 ≤ v) (h1 : v < 3) : ∃ d, (d = a ∨ d = b ∨ d = c) ∧ gIx (.ol [.int a, .int b, .int c]) (.int v) = some (.int d) := by
  obtain rfl | rfl | rfl : v = 0 ∨ v = 1 ∨ v = 2 := by omega
  · exact ⟨a, .inl rfl, gIx_fo (i := 0) rfl rfl⟩
  · exact ⟨b, .inr (.inl rfl), gIx_fo (i := 1) rfl rfl⟩
  · exact ⟨c, .inr (.inr rfl), gIx_fo (i := 2) rfl rfl⟩
theorem as0 {x0 x4 x5 x6 x7 x8 x9 x10 x11 x12 x13 x14 x15 x16 x17 x18 x19 x20 : Option D} {h : D} {n : Nat} {xs : List Int} (hh : HOk h) : Es A0 [x0, some h, some (.int (n : Nat)), some (.ol (xs.map D.int)), x4, x5, x6, x7, x8, x9, x10, x11, x12, x13, x14, x15, x16, x17, x18, x19, x20] fun fl ρ1 => fl = Fl.nx ∧ ∃ (h : D) (z : Nat), HOk h ∧ z ≤ 12 ∧ ρ1 = [x0, some h, some (.int (n : Nat)), some (.ol (xs.map D.int)), x4, x5, some (.int (z : Nat)), x7, x8, x9, x10, x11, x12, x13, x14, x15, x16, x17, x18, x19, x20] := by
  unfold A0
  have o := hh.own
  have ox := hh.isX
  solve | fail | (first | (simp; done) | (simp; omega)) | (first | (simp; done) | (simp; omega)) | refine take_k hh (by omega) (by omega) fun a h1 a0 a1 hh1 => ?_ | fail
  have o1 := hh1.own
  have ox1 := hh1.isX
  solve | fail | (first | (simp; done) | (simp; omega)) | (first | (simp; done) | (simp; omega)) | refine take_k hh1 (by omega) (by omega) fun b h2 b0 b1 hh2 => ?_ | fail
  have o2 := hh2.own
  have ox2 := hh2.isX
  solve | fail | (first | (simp; done) | (simp; omega)) | (first | (simp; done) | (simp; omega)) | refine take_k hh2 (by omega) (by omega) fun v h3 v0 v1 hh3 => ?_ | fail
  obtain ⟨d, hd, ex⟩ := three_o (a := a) (b := b) (c := 12) v0 v1
  have d0 : 0 ≤ d ∧ d ≤ 12 := by rcases hd with rfl | rfl | rfl <;> omega
  solve | exact ex | (first | (simp; done) | (simp; omega)) | (first | (simp; done) | (simp; omega)) | fail | fail
  exact ⟨rfl, h3, d.toNat, hh3, by omega, by rw [show ((d.toNat : Nat) : Int) = d by omega]; rfl⟩
theorem as1 {x0 x4 x5 x7 x8 x9 x10 x11 x12 x13 x14 x15 x16 x17 x18 x19 x20 : Option D} {h : D} {n z : Nat} {xs : List Int} (hh : HOk h) (n1 : 1 ≤ n) (n4 : n ≤ 4) (hz : z ≤ 12) : Es A1 [x0, some h, some (.int (n : Nat)), some (.ol (xs.map D.int)), x4, x5, some (.int (z : Nat)), x7, x8, x9, x10, x11, x12, x13, x14, x15, x16, x17, x18, x19, x20] fun fl ρ1 => fl = Fl.nx ∧ ∃ (h : D) (ps : List (Int × Int)), HOk h ∧ ps.length = z ∧ ρ1 = [x0, some h, some (.int (n : Nat)), some (.ol (xs.map D.int)), x4, x5, some (.int (z : Nat)), some (.ol (ps.map pT)), x8, none, x10, x11, x12, x13, x14, x15, x16, x17, x18, x19, x20] := by
  unfold A1
  solve | fail | (first | (simp; done) | (simp; omega)) | (first | (simp; done) | (simp; omega)) | fail | fail
  refine pours_c hh n1 n4 hz fun ps h' lp hh' => ?_
  solve | fail | (first | (simp; done) | (simp; omega)) | (first | (simp; done) | (simp; omega)) | fail | fail
  exact ⟨rfl, h', ps, hh', lp, rfl⟩
theorem as2 {x0 x1 x4 x5 x6 x7 x8 x9 x10 x11 x12 x13 x14 x15 x16 x17 x18 x19 x20 : Option D} {h : D} {n : Nat} {xs : List Int} : Es A2 [x0, x1, some (.int (n : Nat)), some (.ol (xs.map D.int)), x4, x5, x6, x7, x8, x9, x10, x11, x12, x13, x14, x15, x16, x17, x18, x19, x20] fun fl ρ1 => fl = Fl.nx ∧ ρ1 = [x0, x1, some (.int (n : Nat)), some (.ol (xs.map D.int)), x4, x5, x6, x7, some (.ol [rT xs]), x9, x10, x11, x12, x13, x14, x15, x16, x17, x18, x19, x20] := by
  unfold A2
  solve | fail | (first | (simp; done) | (simp; omega)) | (first | (simp; done) | (simp; omega)) | fail | fail
  refine tupOf_s rfl (gd_ints xs) ?_
  solve | fail | (first | (simp; done) | (simp; omega)) | (first | (simp; done) | (simp; omega)) | fail | fail
  exact ⟨rfl, rfl⟩
theorem as3 {x0 x4 x5 x7 x9 x10 x11 x12 x13 x14 x15 x16 x17 x18 x19 x20 : Option D} {h : D} {n z : Nat} {xs : List Int} (hx : xs.length = n) (hh : HOk h) (n1 : 1 ≤ n) (n4 : n ≤ 4) (hz : z ≤ 12) : Es A3 [x0, some h, some (.int (n : Nat)), some (.ol (xs.map D.int)), x4, x5, some (.int (z : Nat)), x7, some (.ol [rT xs]), x9, x10, x11, x12, x13, x14, x15, x16, x17, x18, x19, x20] fun fl ρ1 => fl = Fl.nx ∧ ∃ (h : D) (rs : List (List Int)) (x9 x19 : Option D), HOk h ∧ rs.length = z + 1 ∧ (∀ r ∈ rs, r.length = n) ∧ ρ1 = [x0, some h, some (.int (n : Nat)), some (.ol (xs.map D.int)), x4, x5, some (.int (z : Nat)), x7, some (.ol (rs.map rT)), x9, x10, x11, x12, x13, x14, x15, x16, x17, x18, x19, x20] := by
  unfold A3
  solve | fail | (first | (simp; done) | (simp; omega)) | (first | (simp; done) | (simp; omega)) | fail | fail
  refine es_for (fun dsl ρ => ∃ (i m : Nat) (rs : List (List Int)) (h : D) (x9 x19 : Option D), dsl = SV.upTo (i : Int) m ∧ rs.length = i + 1 ∧ i + m = z ∧ (∀ r ∈ rs, r.length = n) ∧ HOk h ∧ ρ = [x0, some h, some (.int (n : Nat)), some (.ol (xs.map D.int)), x4, x5, some (.int (z : Nat)), x7, some (.ol (rs.map rT)), x9, x10, x11, x12, x13, x14, x15, x16, x17, x18, x19, x20]) ?_ ?_ _ _ ⟨0, z, [xs], h, _, _, by simp, rfl, by omega, fun r hr => by rw [List.mem_singleton.mp hr]; exact hx, hh, rfl⟩
  · rintro ρ ⟨i, m, rs, h, x9, x19, e, hl, him, hr, hh, rfl⟩
    cases m with
    | succ m => rw [upTo_succ] at e; cases e
    | zero => exact ⟨rfl, h, rs, _, _, hh, by omega, hr, rfl⟩
  · rintro d dsl ρ ⟨i, m, rs, h, x9, x19, e, hl, him, hr, hh, rfl⟩
    cases m with
    | zero => cases e
    | succ m =>
      rw [upTo_succ] at e
      cases e
      refine ⟨_, rfl, ?_⟩
      solve | fail | (first | (simp; done) | (simp; omega)) | (first | (simp; done) | (simp; omega)) | fail | fail
      refine row_c hh n4 fun ys h' ly ry hh' => ?_
      have lr : (rs.map rT).length < 16777216 := by simp; omega
      solve | fail | (first | (simp; done) | (simp; omega)) | (first | (simp; done) | (simp; omega)) | refine tupOf_g (gd_ints ys) ?_ | exact lr
      exact ⟨i + 1, m, rs ++ [ys], h', some (.int (i : Nat)), none, rfl, by simp [hl], by omega, fun r hm => by
        rcases List.mem_append.mp hm with hm | hm
        · exact hr r hm
        · rw [List.mem_singleton.mp hm]; exact ly, hh', by rw [List.map_append]; rfl⟩
theorem as4 {x0 x1 x5 x6 x9 x10 x11 x12 x13 x14 x15 x16 x17 x18 x19 x20 : Option D} {n : Nat} {xs : List Int} {L : List (List (Int × Int) × List (List Int))} {ps : List (Int × Int)} {rs : List (List Int)} (hl : L.length ≤ 10) : Es A4 [x0, x1, some (.int (n : Nat)), some (.ol (xs.map D.int)), some (.ol (L.map sgD)), x5, x6, some (.ol (ps.map pT)), some (.ol (rs.map rT)), x9, x10, x11, x12, x13, x14, x15, x16, x17, x18, x19, x20] fun fl ρ1 => fl = Fl.nx ∧ ρ1 = [x0, x1, some (.int (n : Nat)), some (.ol (xs.map D.int)), some (.ol ((L ++ [(ps, rs)]).map sgD)), x5, x6, some (.lst (ps.map pT)), some (.lst (rs.map rT)), x9, x10, x11, x12, x13, x14, x15, x16, x17, x18, x19, x20] := by
  unfold A4
  have f1 : (D.ol (ps.map pT)).frz = .lst (ps.map pT) := by show D.lst (D.frzs _) = _; rw [frzs_gd (gd_pT ps)]
  have f2 : (D.ol (rs.map rT)).frz = .lst (rs.map rT) := by show D.lst (D.frzs _) = _; rw [frzs_gd (gd_rT rs)]
  have lr : (L.map sgD).length < 16777216 := by simp; omega
  solve | fail | (first | (simp; done) | (simp; omega)) | (first | (simp; done) | (simp; omega)) | fail | exact lr
  refine ⟨rfl, ?_⟩
  rw [f1, f2, List.map_append]
  rfl
theorem ls4 {x0 x5 x6 x7 x8 x9 x10 x11 x12 x13 x14 x15 x16 x17 x18 x19 x20 : Option D} {h : D} {n : Nat} {xs : List Int} (hx : xs.length = n) (hh : HOk h) (n1 : 1 ≤ n) (n4 : n ≤ 4) : Es L4 [x0, some h, some (.int (n : Nat)), some (.ol (xs.map D.int)), some (.ol []), x5, x6, x7, x8, x9, x10, x11, x12, x13, x14, x15, x16, x17, x18, x19, x20] fun fl ρ1 => fl = Fl.nx ∧ ∃ (h : D) (L : List (List (Int × Int) × List (List Int))) (x5 x6 x7 x8 x9 x19 : Option D), HOk h ∧ L.length ≤ 4 ∧ (∀ x ∈ L, Sg n x) ∧ ρ1 = [x0, some h, some (.int (n : Nat)), some (.ol (xs.map D.int)), some (.ol (L.map sgD)), x5, x6, x7, x8, x9, x10, x11, x12, x13, x14, x15, x16, x17, x18, x19, x20] := by
  unfold L4
  have o := hh.own
  have ox := hh.isX
  solve | fail | (first | (simp; done) | (simp; omega)) | (first | (simp; done) | (simp; omega)) | refine take_k hh (by omega) (by omega) fun v h1 v0 v1 hh1 => ?_ | fail
  refine es_for (fun dsl ρ => ∃ (i m : Nat) (L : List (List (Int × Int) × List (List Int))) (h : D) (x5 x6 x7 x8 x9 x19 : Option D), dsl = SV.upTo (i : Int) m ∧ L.length = i ∧ i + m ≤ 4 ∧ (∀ x ∈ L, Sg n x) ∧ HOk h ∧ ρ = [x0, some h, some (.int (n : Nat)), some (.ol (xs.map D.int)), some (.ol (L.map sgD)), x5, x6, x7, x8, x9, x10, x11, x12, x13, x14, x15, x16, x17, x18, x19, x20]) ?_ ?_ _ _ ⟨0, v.toNat, [], h1, _, _, _, _, _, _, by simp, rfl, by omega, (fun x hx => by cases hx), hh1, rfl⟩
  · rintro ρ ⟨i, m, L, h, x5, x6, x7, x8, x9, x19, e, hl, him, hs, hh, rfl⟩
    exact ⟨rfl, h, L, _, _, _, _, _, _, hh, by omega, hs, rfl⟩
  · rintro d dsl ρ ⟨i, m, L, h, x5, x6, x7, x8, x9, x19, e, hl, him, hs, hh, rfl⟩
    cases m with
    | zero => cases e
    | succ m =>
      rw [upTo_succ] at e
      cases e
      refine ⟨_, rfl, ?_⟩
      unfold AA
      refine b_seq ((as0 hh).imp fun fl ρ1 ⟨e1, h2, z, hh2, hz, e2⟩ => ?_)
      subst e1 e2
      refine b_nx (b_seq ((as1 hh2 n1 n4 hz).imp fun fl ρ1 ⟨e1, h3, ps, hh3, lp, e2⟩ => ?_))
      subst e1 e2
      refine b_nx (b_seq ((as2 (h := h3)).imp fun fl ρ1 ⟨e1, e2⟩ => ?_))
      subst e1 e2
      refine b_nx (b_seq ((as3 hx hh3 n1 n4 hz).imp fun fl ρ1 ⟨e1, h4, rs, y9, y19, hh4, lr, hr, e2⟩ => ?_))
      subst e1 e2
      refine b_nx ((as4 (by omega)).imp fun fl ρ1 ⟨e1, e2⟩ => ?_)
      subst e1 e2
      exact ⟨i + 1, m, L ++ [(ps, rs)], h4, _, _, _, _, _, _, rfl, by simp [hl], by omega, fun x hx => by
        rcases List.mem_append.mp hx with hx | hx
        · exact hs x hx
        · rw [List.mem_singleton.mp hx]; exact ⟨by show ps.length ≤ 12; omega, by show rs.length = ps.length + 1; omega, hr⟩, hh4, rfl⟩
end LAWP
end
section
set_option Elab.async false
set_option linter.all false
set_option autoImplicit false
set_option maxRecDepth 100000
set_option maxHeartbeats 0
set_option pp.maxSteps 400
namespace LAWP
open PySem PySem.Spec L2 SV LAWM
theorem upD_gd (o : Option Int) : gd (upD o) = true := by cases o <;> rfl
theorem S_go {n : Nat} {L : List (List (Int × Int) × List (List Int))} (hl : L.length ≤ 4) (n4 : n ≤ 4) (hs : ∀ x ∈ L, Sg n x) : dg (.lst (L.map sgD)) = true ∧ dp (.lst (L.map sgD)) ≤ 4 := by
  have al : ∀ d ∈ L.map sgD, dg d = true ∧ dp d ≤ 3 := fun d hd => by
    obtain ⟨x, hx, rfl⟩ := List.mem_map.mp hd
    obtain ⟨a, b, c⟩ := hs x hx
    exact sT_go a (by omega) fun r hr => by have := c r hr; omega
  refine ⟨dg_lst (by simp; omega) fun d hd => (al d hd).1, ?_⟩
  show dps _ + 1 ≤ 4
  have := dps_le fun d hd => (al d hd).2
  omega
theorem frz_S (L : List (List (Int × Int) × List (List Int))) : (D.ol (L.map sgD)).frz = .lst (L.map sgD) := by show D.lst (D.frzs _) = _; rw [frzs_gd (gd_sgD L)]
theorem frz_I (xs : List Int) : (D.ol (xs.map D.int)).frz = .lst (xs.map D.int) := by show D.lst (D.frzs _) = _; rw [frzs_ints]
theorem own_or {e : D} {n : Nat} (g : Go n e) : (e.own = true ∧ e.isX = false) ∨ gd e = true := by
  obtain ⟨_, g2, _⟩ := g
  cases e <;> first | exact .inl ⟨rfl, rfl⟩ | exact .inr rfl | (simp [D.frz, dg] at g2; done)
def isT : D → Bool
  | .tup _ => true
  | _ => false
theorem isi_tup {d : D} (g : gd d = true) : gIsi [.tup] d = some (.bl (isT d)) := by cases d <;> first | rfl | (cases g; done)
theorem isT_tup {d : D} (h : isT d = true) : ∃ xs, d = .tup xs := by cases d <;> first | exact ⟨_, rfl⟩ | cases h
local macro_rules
  | `(tactic| solve | $a | $b | $c | $d | $e) => `(tactic| (repeat' (first
      | (apply_rules (transparency := .reducible) (symm := false) (exfalso := false) (maxDepth := 1000) only [@b_ok, @b_okS, @b_nx, @b_seq, @b_op, @b_ret, @b_cons, @b_nil, @b_CB, @b_C1, @b_set, @b_tb, @b_bl, @b_if, @b_end, @b_preps, @b_prepF, @b_preps0, @b_call, @b_owns, @b_owns0])
      | (apply_rules (transparency := .reducible) (symm := false) (exfalso := false) (maxDepth := 1000) only [@b_nret, @b_nexc, @b_exc, @b_excS, @b_nbrk, @b_nct, @b_mret, @b_expr, @b_setI, @b_un, @b_C2, @b_tru, @b_and, @b_or, @b_not, @b_notT, @b_andV, @b_orV, @b_blE, @b_ifE, @b_add, @b_neg, @b_aug, @b_prepT, @b_frzs, @b_frzs0, @b_tup, @b_lst, @b_isN, @b_notN, @b_isi, @b_raise, @b_ownS, @b_bnd, @b_iter, @b_fseq, @b_mfor, @b_enum, @b_callK, @b_sl, @b_part, @b_pi])
      | ((with_reducible apply b_var); rfl; (focus (first | rfl | assumption)); (focus (first | rfl | assumption)))
      | ((with_reducible apply b_varO); rfl; (focus (first | rfl | assumption)))
      | ((with_reducible apply b_st); exact Nat.le_of_ble_eq_true rfl)
      | ((with_reducible apply b_mvS); rfl; (focus (first | rfl | assumption)))
      | ((with_reducible apply b_mv); (focus (first | assumption | (intro _ z; cases z; done))))
      | ((with_reducible apply b_frzS); rfl; (focus (first | rfl | assumption)))
      | ((with_reducible apply b_frzG); focus (first | assumption | rfl))
      | ((with_reducible apply b_frz); (focus (first | assumption | (intro _ z; cases z; done))))
      | ((with_reducible apply b_own); (focus (first | assumption | (intro _ z; cases z; done))))
      | ((with_reducible apply b_II); focus (first | rfl | $c))
      | ((with_reducible apply b_look2); (focus (first | rfl | exact dr_gd (by assumption))); (focus (first | rfl | exact dr_gd (by assumption))); focus (first | exact gEqF | exact gNeF | $a | rfl))
      | ((with_reducible apply b_look); (focus (first | rfl | exact dr_gd (by assumption))); focus (first | $a | rfl))
      | ((with_reducible apply b_trv); (focus (first | rfl | exact dr_gd (by assumption))); rfl)
      | ((with_reducible apply b_io); rfl)
      | ((with_reducible apply b_lim); exact Nat.le_of_ble_eq_true rfl)
      | ((with_reducible apply b_setD); rfl)
      | ((with_reducible apply b_setK); rfl; rfl)
      | ((with_reducible apply b_LM); rfl)
      | ((with_reducible apply b_ifT); focus (first | rfl | $b))
      | ((with_reducible apply b_ifF); focus (first | rfl | $b))
      | ((with_reducible apply b_eT); focus (first | rfl | $b))
      | ((with_reducible apply b_eF); focus (first | rfl | $b))
      | ((with_reducible apply b_rng1); focus (first | (simp [okR]; done) | (simp [okR]; omega)))
      | ((with_reducible apply b_rng2); focus (first | (simp [okR]; done) | (simp [okR]; omega)))
      | ((with_reducible apply b_back); focus (first | rfl | exact cb_f rfl rfl))
      | ((with_reducible apply b_seqF); rfl)
      | ((with_reducible apply b_LMr); rfl; focus (refine lApp ?_; first | (simp; done) | (simp; omega) | $e))
      | ((with_reducible apply b_rz); exact ⟨rfl, Nat.le_of_ble_eq_true rfl, Nat.le_of_ble_eq_true rfl⟩)
      | $d
      | fail)))
theorem ls5 {x0 x2 x3 x4 x5 x6 x7 x8 x9 x10 x11 x12 x13 x14 x15 x16 x17 x18 x19 x20 : Option D} {h : D} (hh : HOk h) : Es L5 [x0, some h, x2, x3, x4, x5, x6, x7, x8, x9, x10, x11, x12, x13, x14, x15, x16, x17, x18, x19, x20] fun fl ρ1 => fl = Fl.nx ∧ ∃ (h : D) (o : Option Int), HOk h ∧ 0 ≤ upI o ∧ ρ1 = [x0, some h, x2, x3, x4, x5, x6, x7, x8, x9, some (upD o), x11, x12, x13, x14, x15, x16, x17, x18, x19, x20] := by
  unfold L5
  have o := hh.own
  have ox := hh.isX
  solve | fail | (first | (simp; done) | (simp; omega)) | (first | (simp; done) | (simp; omega)) | refine take_k hh (by omega) (by omega) fun v h1 v0 v1 hh1 => ?_ | fail
  have o1 := hh1.own
  have ox1 := hh1.isX
  obtain rfl | rfl : v = 0 ∨ v = 1 := by omega
  · solve | fail | (first | (simp; done) | (simp; omega)) | (first | (simp; done) | (simp; omega)) | refine take_k hh1 (by omega) (by omega) fun u h2 u0 u1 hh2 => ?_ | fail
    exact ⟨rfl, h2, some u, hh2, u0, rfl⟩
  · solve | fail | (first | (simp; done) | (simp; omega)) | (first | (simp; done) | (simp; omega)) | fail | fail
    exact ⟨rfl, h1, none, hh1, by show (0 : Int) ≤ 3; omega, rfl⟩
theorem ls6 {x0 x1 x2 x3 x4 x5 x6 x7 x8 x9 x11 x12 x13 x14 x15 x16 x17 x18 x19 x20 : Option D} {o : Option Int} : Es L6 [x0, x1, x2, x3, x4, x5, x6, x7, x8, x9, some (upD o), x11, x12, x13, x14, x15, x16, x17, x18, x19, x20] fun fl ρ1 => fl = Fl.nx ∧ ρ1 = [x0, x1, x2, x3, x4, x5, x6, x7, x8, x9, some (upD o), some (.int (upI o)), x12, x13, x14, x15, x16, x17, x18, x19, x20] := by
  unfold L6
  cases o with
  | none =>
    show Es _ [x0, x1, x2, x3, x4, x5, x6, x7, x8, x9, some D.non, x11, x12, x13, x14, x15, x16, x17, x18, x19, x20] _
    solve | fail | (first | (simp; done) | (simp; omega)) | (first | (simp; done) | (simp; omega)) | fail | fail
    exact ⟨rfl, rfl⟩
  | some u =>
    show Es _ [x0, x1, x2, x3, x4, x5, x6, x7, x8, x9, some (D.int u), x11, x12, x13, x14, x15, x16, x17, x18, x19, x20] _
    solve | fail | (first | (simp; done) | (simp; omega)) | (first | (simp; done) | (simp; omega)) | fail | fail
    exact ⟨rfl, rfl⟩
theorem ls7 {x0 x2 x3 x5 x6 x7 x8 x9 x10 x11 x12 x13 x14 x15 x16 x17 x18 x19 x20 : Option D} {h : D} {L : List (List (Int × Int) × List (List Int))} (hh : HOk h) (gS : dg (.lst (L.map sgD)) = true) (dS : dp (.lst (L.map sgD)) ≤ 4) : Es L7 [x0, some h, x2, x3, some (.ol (L.map sgD)), x5, x6, x7, x8, x9, x10, x11, x12, x13, x14, x15, x16, x17, x18, x19, x20] fun fl ρ1 => fl = Fl.nx ∧ ∃ (h P : D), HOk h ∧ Lk (.lst (L.map sgD)) P ∧ ρ1 = [x0, some h, x2, x3, some (.lst (L.map sgD)), x5, x6, x7, x8, x9, x10, x11, some P, x13, x14, x15, x16, x17, x18, x19, x20] := by
  unfold L7
  have o := hh.own
  have ox := hh.isX
  have fS := frz_S L
  refine b_set (b_fz ?_)
  solve | fail | (first | (simp; done) | (simp; omega)) | (first | (simp; done) | (simp; omega)) | refine lists_k 7 (d := (D.ol (L.map sgD)).frz) hh (by rw [fS]; exact gS) (by rw [fS]; omega) fun e h' ne lk hh' => ?_ | fail
  have nf := frz_nsl ne
  solve | fail | (first | (simp; done) | (simp; omega)) | (first | (simp; done) | (simp; omega)) | fail | fail
  rw [fS] at lk ⊢
  exact ⟨rfl, h', e.frz, hh', lk, rfl⟩
theorem ls8 {x0 x1 x2 x3 x4 x5 x6 x7 x8 x9 x10 x11 x13 x14 x15 x16 x17 x18 x19 x20 : Option D} {P : D} (gP : dg P = true) (dP : dp P < 7) : Es L8 [x0, x1, x2, x3, x4, x5, x6, x7, x8, x9, x10, x11, some P, x13, x14, x15, x16, x17, x18, x19, x20] fun fl ρ1 => fl = Fl.nx ∧ ρ1 = [x0, x1, x2, x3, x4, x5, x6, x7, x8, x9, x10, x11, some P, some (bareD P), x14, x15, x16, x17, x18, x19, x20] := by
  unfold L8
  have g1 := dg_gd gP
  have o1 := gd_own g1
  have ox1 := gd_isX g1
  have n1 := gd_nsl g1
  have gb := dg_gd (dg_bare 7 P dP gP).1
  have nb := gd_nsl gb
  refine b_set (b_fz ?_)
  solve | fail | (first | (simp; done) | (simp; omega)) | (first | (simp; done) | (simp; omega)) | refine bare_k 7 gP dP ?_ | fail
  exact ⟨rfl, rfl⟩
theorem ls9 {x0 x2 x5 x6 x7 x8 x9 x14 x15 x16 x17 x18 x19 x20 : Option D} {h P : D} {o : Option Int} {xs : List Int} {L : List (List (Int × Int) × List (List Int))} (hx : xs.length ≤ 4) (hh : HOk h) (gS : dg (.lst (L.map sgD)) = true) (dS : dp (.lst (L.map sgD)) ≤ 4) (lk : Lk (.lst (L.map sgD)) P) : Es L9 [x0, some h, x2, some (.ol (xs.map D.int)), some (.lst (L.map sgD)), x5, x6, x7, x8, x9, some (upD o), some (.int (upI o)), some P, some (bareD P), x14, x15, x16, x17, x18, x19, x20] fun fl ρ1 => fl = Fl.nx ∧ ∃ (h : D), HOk h ∧ ρ1 = [x0, some h, x2, some (.lst (xs.map D.int)), some (.lst (L.map sgD)), x5, x6, x7, x8, x9, some (upD o), some (.int (upI o)), some P, some (bareD P), x14, x15, x16, x17, x18, x19, x20] := by
  unfold L9
  have o1 := hh.own
  have ox1 := hh.isX
  have gP := lk.1
  have dP : dp P ≤ 4 := by rw [lk.2.2]; exact dS
  have g1 := dg_gd gP
  have oP := gd_own g1
  have oxP := gd_isX g1
  have nP := gd_nsl g1
  have gb := (dg_bare 7 P (by omega) gP)
  have gb1 := dg_gd gb.1
  have ob := gd_own gb1
  have oxb := gd_isX gb1
  have nb := gd_nsl gb1
  have gU := upD_gd o
  have oU := gd_own gU
  have oxU := gd_isX gU
  have nU := gd_nsl gU
  have fI := frz_I xs
  have dI := dg_ints (xs := xs) (by omega)
  have dpI : dp (.lst (xs.map D.int)) ≤ 1 := by show dps _ + 1 ≤ 1; rw [dps_ints]; omega
  solve | fail | (first | (simp; done) | (simp; omega)) | (first | (simp; done) | (simp; omega)) | refine lists_k 7 (d := (D.ol (xs.map D.int)).frz) hh (by rw [fI]; exact dI.1) (by rw [fI]; omega) fun e h' ne lk2 hh' => ?_ | fail
  have o2 := hh'.own
  have ox2 := hh'.isX
  rw [fI] at lk2
  have hr : rul e.frz P (upI o) = rul (D.ol (xs.map D.int)).frz (.lst (L.map sgD)) (upI o) := by rw [fI]; exact rul_lk gS lk2.2.1 lk
  have nR := (rul_pq (F := (D.ol (xs.map D.int)).frz) (u := upI o) gS (by omega)).1
  solve | fail | (first | (simp; done) | (simp; omega)) | (first | (simp; done) | (simp; omega)) | refine asked_k (F := e.frz) (S := P) (o := o) lk2.1 gP ?_ | fail
  rw [hr]
  solve | fail | (first | (simp; done) | (simp; omega)) | (first | (simp; done) | (simp; omega)) | refine due_k (F := (D.ol (xs.map D.int)).frz) (S := .lst (L.map sgD)) (u := upI o) (by rw [fI]; exact dI.1) gS (by omega) ?_ | fail
  refine ne_rul gS (by omega) ?_
  solve | exact neX_self gb.1 (by rw [gb.2.1]; omega) | (first | (simp; done) | (simp; omega)) | (first | (simp; done) | (simp; omega)) | refine bare_k 7 gP (by omega) ?_ | fail
  rw [fI]
  exact ⟨rfl, h', hh', rfl⟩
end LAWP
end
section
set_option Elab.async false
set_option linter.all false
set_option autoImplicit false
set_option maxRecDepth 100000
set_option maxHeartbeats 0
set_option pp.maxSteps 400
namespace LAWP
open PySem PySem.Spec L2 SV LAWM
local macro_rules
  | `(tactic| solve | $a | $b | $c | $d | $e) => `(tactic| (repeat' (first
      | (apply_rules (transparency := .reducible) (symm := false) (exfalso := false) (maxDepth := 1000) only [@b_ok, @b_okS, @b_nx, @b_seq, @b_op, @b_ret, @b_cons, @b_nil, @b_CB, @b_C1, @b_set, @b_tb, @b_bl, @b_if, @b_end, @b_preps, @b_prepF, @b_preps0, @b_call, @b_owns, @b_owns0])
      | (apply_rules (transparency := .reducible) (symm := false) (exfalso := false) (maxDepth := 1000) only [@b_nret, @b_nexc, @b_exc, @b_excS, @b_nbrk, @b_nct, @b_mret, @b_expr, @b_setI, @b_un, @b_C2, @b_tru, @b_and, @b_or, @b_not, @b_notT, @b_andV, @b_orV, @b_blE, @b_ifE, @b_add, @b_neg, @b_aug, @b_prepT, @b_frzs, @b_frzs0, @b_tup, @b_lst, @b_isN, @b_notN, @b_isi, @b_raise, @b_ownS, @b_bnd, @b_iter, @b_fseq, @b_mfor, @b_enum, @b_callK, @b_sl, @b_part, @b_pi])
      | ((with_reducible apply b_var); rfl; (focus (first | rfl | assumption)); (focus (first | rfl | assumption)))
      | ((with_reducible apply b_varO); rfl; (focus (first | rfl | assumption)))
      | ((with_reducible apply b_st); exact Nat.le_of_ble_eq_true rfl)
      | ((with_reducible apply b_mvS); rfl; (focus (first | rfl | assumption)))
      | ((with_reducible apply b_mv); (focus (first | assumption | (intro _ z; cases z; done))))
      | ((with_reducible apply b_frzS); rfl; (focus (first | rfl | assumption)))
      | ((with_reducible apply b_frzG); focus (first | assumption | rfl))
      | ((with_reducible apply b_frz); (focus (first | assumption | (intro _ z; cases z; done))))
      | ((with_reducible apply b_own); (focus (first | assumption | (intro _ z; cases z; done))))
      | ((with_reducible apply b_II); focus (first | rfl | $c))
      | ((with_reducible apply b_look2); (focus (first | rfl | exact dr_gd (by assumption))); (focus (first | rfl | exact dr_gd (by assumption))); focus (first | exact gEqF | exact gNeF | $a | rfl))
      | ((with_reducible apply b_look); (focus (first | rfl | exact dr_gd (by assumption))); focus (first | $a | rfl))
      | ((with_reducible apply b_trv); (focus (first | rfl | exact dr_gd (by assumption))); rfl)
      | ((with_reducible apply b_io); rfl)
      | ((with_reducible apply b_lim); exact Nat.le_of_ble_eq_true rfl)
      | ((with_reducible apply b_setD); rfl)
      | ((with_reducible apply b_setK); rfl; rfl)
      | ((with_reducible apply b_LM); rfl)
      | ((with_reducible apply b_ifT); focus (first | rfl | $b))
      | ((with_reducible apply b_ifF); focus (first | rfl | $b))
      | ((with_reducible apply b_eT); focus (first | rfl | $b))
      | ((with_reducible apply b_eF); focus (first | rfl | $b))
      | ((with_reducible apply b_rng1); focus (first | (simp [okR]; done) | (simp [okR]; omega)))
      | ((with_reducible apply b_rng2); focus (first | (simp [okR]; done) | (simp [okR]; omega)))
      | ((with_reducible apply b_back); focus (first | rfl | exact cb_f rfl rfl))
      | ((with_reducible apply b_seqF); rfl)
      | ((with_reducible apply b_LMr); rfl; focus (refine lApp ?_; first | (simp; done) | (simp; omega) | $e))
      | ((with_reducible apply b_rz); exact ⟨rfl, Nat.le_of_ble_eq_true rfl, Nat.le_of_ble_eq_true rfl⟩)
      | $d
      | fail)))
theorem bs0 {x0 x3 x5 x6 x7 x8 x9 x10 x11 x12 x13 x14 x15 x16 x17 x18 x19 x20 : Option D} {h : D} {n : Nat} {L : List (List (Int × Int) × List (List Int))} (hh : HOk h) (n1 : 1 ≤ n) (n4 : n ≤ 4) (hl : L.length ≤ 4) (hs : ∀ x ∈ L, Sg n x) : Es B0 [x0, some h, some (.int (n : Nat)), x3, some (.lst (L.map sgD)), x5, x6, x7, x8, x9, x10, x11, x12, x13, x14, x15, x16, x17, x18, x19, x20] fun fl ρ1 => fl = Fl.nx ∧ ∃ (h e : D), HOk h ∧ Go 5 e ∧ ρ1 = [x0, some h, some (.int (n : Nat)), x3, some (.lst (L.map sgD)), x5, x6, x7, x8, x9, x10, x11, x12, x13, some e, x15, x16, x17, x18, x19, none] := by
  unfold B0
  refine b_set ?_
  refine ev_lc (fun dsl acc ρ => ∃ (done rest : List (List (Int × Int) × List (List Int))) (h : D), dsl = rest.map sgD ∧ (∀ e ∈ acc, Go 4 e) ∧ acc.length = done.length ∧ done ++ rest = L ∧ HOk h ∧ ρ = [x0, some h, some (.int (n : Nat)), x3, some (.lst (L.map sgD)), x5, x6, x7, x8, x9, x10, x11, x12, x13, x14, x15, x16, x17, x18, x19, none]) ?_ ?_ ?_
  · solve | fail | (first | (simp; done) | (simp; omega)) | (first | (simp; done) | (simp; omega)) | fail | fail
    exact ⟨⟨[], L, h, rfl, (fun e he => by cases he), rfl, rfl, hh, rfl⟩, by show (L.map sgD).length ≤ 16777216; simp; omega⟩
  · rintro acc ρ ⟨done, rest, h, e, ga, la, hd, hh, rfl⟩
    cases rest with
    | cons r rest => cases e
    | nil =>
      rw [List.append_nil] at hd
      subst hd
      solve | fail | (first | (simp; done) | (simp; omega)) | (first | (simp; done) | (simp; omega)) | fail | fail
      exact ⟨rfl, h, _, hh, go_ol (by omega) ga, rfl⟩
  · rintro d dsl acc ρ ⟨done, rest, h, e, ga, la, hd, hh, rfl⟩
    cases rest with
    | nil => cases e
    | cons r rest =>
      cases e
      have o := hh.own
      have ox := hh.isX
      obtain ⟨s1, s2, s3⟩ := hs r (by rw [← hd]; simp)
      refine ⟨_, rfl, b_ret ⟨true, rfl, ?_⟩⟩
      simp only [if_true]
      solve | fail | (first | (simp; done) | (simp; omega)) | (first | (simp; done) | (simp; omega)) | refine wrong_k (ps := r.1) (rs := r.2) hh s1 ⟨by omega, by omega⟩ n1 n4 s3 fun e h' ge hh' => ?_ | fail
      have ne := ge.1
      refine ⟨_, rfl, ?_⟩
      solve | fail | (first | (simp; done) | (simp; omega)) | (first | (simp; done) | (simp; omega)) | fail | fail
      exact ⟨_, rfl, done ++ [r], rest, h', rfl, fun z hz => by
        rcases List.mem_append.mp hz with hz | hz
        · exact ga z hz
        · rw [List.mem_singleton.mp hz]; exact ge, by simp [la], by simpa using hd, hh', rfl⟩
theorem bs1 {x0 x2 x3 x4 x5 x6 x7 x8 x9 x10 x11 x12 x13 x15 x16 x17 x18 x19 x20 : Option D} {h e : D} (hh : HOk h) (ge : Go 5 e) : Es B1 [x0, some h, x2, x3, x4, x5, x6, x7, x8, x9, x10, x11, x12, x13, some e, x15, x16, x17, x18, x19, x20] fun fl ρ1 => fl = Fl.nx ∧ ∃ (h e : D), HOk h ∧ Go 5 e ∧ ρ1 = [x0, some h, x2, x3, x4, x5, x6, x7, x8, x9, x10, x11, x12, x13, some e, x15, x16, x17, x18, x19, x20] := by
  unfold B1
  have o := hh.own
  have ox := hh.isX
  solve | fail | (first | (simp; done) | (simp; omega)) | (first | (simp; done) | (simp; omega)) | refine take_k hh (by omega) (by omega) fun v h1 v0 v1 hh1 => ?_ | fail
  have o1 := hh1.own
  have ox1 := hh1.isX
  by_cases hv : v = 0
  · solve | fail | (simp [hv]; done) | (first | (simp; done) | (simp; omega)) | refine rid_k hh1 fun d h2 gd2 it2 hh2 => ?_ | fail
    have nd := gd_nsl (dg_gd gd2)
    solve | fail | (first | (simp; done) | (simp; omega)) | (first | (simp; done) | (simp; omega)) | fail | fail
    exact ⟨rfl, h2, d, hh2, go_dg gd2 (by rw [(dg_none it2).2]; omega), rfl⟩
  · solve | fail | (simp [hv]; done) | (first | (simp; done) | (simp; omega)) | fail | fail
    exact ⟨rfl, h1, e, hh1, ge, rfl⟩
theorem bs2 {x0 x2 x4 x5 x6 x7 x8 x9 x10 x11 x12 x13 x14 x15 x16 x17 x18 x19 x20 : Option D} {h : D} {xs : List Int} (hl : 1 ≤ xs.length ∧ xs.length ≤ 4) (hh : HOk h) : Es B2 [x0, some h, x2, some (.lst (xs.map D.int)), x4, x5, x6, x7, x8, x9, x10, x11, x12, x13, x14, x15, x16, x17, x18, x19, x20] fun fl ρ1 => fl = Fl.nx ∧ ∃ (h F : D), HOk h ∧ dg F = true ∧ ρ1 = [x0, some h, x2, some (.lst (xs.map D.int)), x4, x5, x6, x7, x8, x9, x10, x11, x12, x13, x14, some F, x16, x17, x18, x19, x20] := by
  unfold B2
  have o := hh.own
  have ox := hh.isX
  refine b_set (b_fz ?_)
  solve | fail | (first | (simp; done) | (simp; omega)) | (first | (simp; done) | (simp; omega)) | refine begun_k hh hl fun e h' ge hh' => ?_ | fail
  have ne := ge.1
  have nf := frz_nsl ne
  solve | fail | (first | (simp; done) | (simp; omega)) | (first | (simp; done) | (simp; omega)) | fail | fail
  exact ⟨rfl, h', e.frz, hh', ge.2.1, rfl⟩
theorem bs3 {x0 x1 x2 x3 x4 x5 x6 x7 x8 x9 x10 x12 x13 x16 x17 x18 x19 x20 : Option D} {F e : D} {o : Option Int} (gF : dg F = true) (ge : Go 5 e) : Es B3 [x0, x1, x2, x3, x4, x5, x6, x7, x8, x9, x10, some (.int (upI o)), x12, x13, some e, some F, x16, x17, x18, x19, x20] fun fl ρ1 => fl = Fl.nx ∧ ρ1 = [x0, x1, x2, x3, x4, x5, x6, x7, x8, x9, x10, some (.int (upI o)), x12, x13, some e.frz, some F, some (rul F e.frz (upI o)).frz, x17, x18, x19, x20] := by
  unfold B3
  have g1 := dg_gd gF
  have o1 := gd_own g1
  have ox1 := gd_isX g1
  have n1 := gd_nsl g1
  have ne := ge.1
  obtain ⟨r1, r2, r3, r4, r5, r6⟩ := rul_pq (F := F) (S := e.frz) (u := upI o) ge.2.1 (by have := ge.2.2; omega)
  refine b_set (b_fz ?_)
  rcases own_or ge with ⟨oe, xe⟩ | gg
  · solve | fail | (first | (simp; done) | (simp; omega)) | (first | (simp; done) | (simp; omega)) | refine due_k gF ge.2.1 (by have := ge.2.2; omega) ?_ | fail
    exact ⟨rfl, rfl⟩
  · have oe := gd_own gg
    have xe := gd_isX gg
    have ef := gd_frz gg
    rw [ef] at r1 r2 r3 r4 r5 r6 ⊢
    have g2 := ge.2.1
    have g3 := ge.2.2
    rw [ef] at g2 g3
    solve | fail | (first | (simp; done) | (simp; omega)) | (first | (simp; done) | (simp; omega)) | refine due_k gF g2 (by omega) ?_ | fail
    exact ⟨rfl, rfl⟩
theorem bs4 {x0 x2 x3 x4 x5 x6 x7 x8 x9 x10 x11 x12 x13 x15 x16 x17 x18 x19 x20 : Option D} {h S : D} (hh : HOk h) (gS : dg S = true) (dS : dp S ≤ 5) : Es B4 [x0, some h, x2, x3, x4, x5, x6, x7, x8, x9, x10, x11, x12, x13, some S, x15, x16, x17, x18, x19, x20] fun fl ρ1 => fl = Fl.nx ∧ ∃ (h P : D), HOk h ∧ Lk S P ∧ ρ1 = [x0, some h, x2, x3, x4, x5, x6, x7, x8, x9, x10, x11, x12, x13, some S, x15, x16, some P, x18, x19, x20] := by
  unfold B4
  have o := hh.own
  have ox := hh.isX
  have g1 := dg_gd gS
  have o1 := gd_own g1
  have ox1 := gd_isX g1
  have n1 := gd_nsl g1
  refine b_set (b_fz ?_)
  solve | fail | (first | (simp; done) | (simp; omega)) | (first | (simp; done) | (simp; omega)) | refine lists_k 7 hh gS (by omega) fun e h' ne lk hh' => ?_ | fail
  have nf := frz_nsl ne
  solve | fail | (first | (simp; done) | (simp; omega)) | (first | (simp; done) | (simp; omega)) | fail | fail
  exact ⟨rfl, h', e.frz, hh', lk, rfl⟩
theorem bs5 {x0 x1 x2 x3 x4 x5 x6 x7 x8 x9 x10 x11 x12 x13 x14 x15 x16 x18 x19 x20 : Option D} {P : D} (gP : dg P = true) (dP : dp P < 7) : Es B5 [x0, x1, x2, x3, x4, x5, x6, x7, x8, x9, x10, x11, x12, x13, x14, x15, x16, some P, x18, x19, x20] fun fl ρ1 => fl = Fl.nx ∧ ρ1 = [x0, x1, x2, x3, x4, x5, x6, x7, x8, x9, x10, x11, x12, some (bareD P), x14, x15, x16, some P, x18, x19, x20] := by
  unfold B5
  have g1 := dg_gd gP
  have o1 := gd_own g1
  have ox1 := gd_isX g1
  have n1 := gd_nsl g1
  have gb := dg_gd (dg_bare 7 P dP gP).1
  have nb := gd_nsl gb
  refine b_set (b_fz ?_)
  solve | fail | (first | (simp; done) | (simp; omega)) | (first | (simp; done) | (simp; omega)) | refine bare_k 7 gP dP ?_ | fail
  exact ⟨rfl, rfl⟩
theorem bs6 {x0 x1 x2 x3 x4 x5 x6 x7 x8 x9 x11 x12 x13 x14 x16 x18 x19 x20 : Option D} {F S P : D} {o : Option Int} (gF : dg F = true) (gS : dg S = true) (dS : dp S ≤ 5) (lk : Lk S P) : Es B6 [x0, x1, x2, x3, x4, x5, x6, x7, x8, x9, some (upD o), x11, x12, x13, x14, some F, x16, some P, x18, x19, x20] fun fl ρ1 => fl = Fl.nx ∧ ρ1 = [x0, x1, x2, x3, x4, x5, x6, x7, x8, x9, some (upD o), x11, x12, x13, x14, some F, x16, some P, some (rul F S (upI o)).frz, x19, x20] := by
  unfold B6
  have g1 := dg_gd gF
  have o1 := gd_own g1
  have ox1 := gd_isX g1
  have n1 := gd_nsl g1
  have g2 := dg_gd lk.1
  have o2 := gd_own g2
  have ox2 := gd_isX g2
  have n2 := gd_nsl g2
  have gU := upD_gd o
  have oU := gd_own gU
  have oxU := gd_isX gU
  have nU := gd_nsl gU
  have hr : rul F P (upI o) = rul F S (upI o) := rul_lk gS rfl lk
  obtain ⟨r1, r2, r3, r4, r5, r6⟩ := rul_pq (F := F) (S := S) (u := upI o) gS (by omega)
  refine b_set (b_fz ?_)
  solve | fail | (first | (simp; done) | (simp; omega)) | (first | (simp; done) | (simp; omega)) | refine asked_k gF lk.1 ?_ | fail
  rw [hr]
  solve | fail | (first | (simp; done) | (simp; omega)) | (first | (simp; done) | (simp; omega)) | fail | fail
  exact ⟨rfl, rfl⟩
theorem bs7 {x0 x1 x2 x3 x4 x5 x6 x7 x8 x9 x10 x11 x12 x14 x15 x19 x20 : Option D} {F S P : D} {o : Option Int} (gS : dg S = true) (dS : dp S ≤ 5) (lk : Lk S P) : Es B7 [x0, x1, x2, x3, x4, x5, x6, x7, x8, x9, x10, x11, x12, some (bareD P), x14, x15, some (rul F S (upI o)).frz, some P, some (rul F S (upI o)).frz, x19, x20] fun fl ρ1 => fl = Fl.nx ∧ ρ1 = [x0, x1, x2, x3, x4, x5, x6, x7, x8, x9, x10, x11, x12, some (bareD P), x14, x15, some (rul F S (upI o)).frz, some P, some (rul F S (upI o)).frz, x19, x20] := by
  unfold B7
  obtain ⟨r1, r2, r3, r4, r5, r6⟩ := rul_pq (F := F) (S := S) (u := upI o) gS (by omega)
  have gP := lk.1
  have dP : dp P ≤ 5 := by rw [lk.2.2]; exact dS
  have g2 := dg_gd gP
  have o2 := gd_own g2
  have ox2 := gd_isX g2
  have n2 := gd_nsl g2
  have gb := dg_bare 7 P (by omega) gP
  have gb1 := dg_gd gb.1
  have ob := gd_own gb1
  have oxb := gd_isX gb1
  have nb := gd_nsl gb1
  generalize (rul F S (upI o)).frz = Z at r3 r4 r5 r6 ⊢
  have oz := gd_own r3
  have xz := gd_isX r3
  have it := isi_tup r3
  cases hz : isT Z with
  | false =>
    rw [hz] at it
    solve | (first | exact r5 | exact it | exact neX_self gb.1 (by rw [gb.2.1]; omega)) | (simp; done) | (first | (simp; done) | (simp; omega)) | refine bare_k 7 gP (by omega) ?_ | fail
    exact ⟨rfl, rfl⟩
  | true =>
    rw [hz] at it
    obtain ⟨zs, ez⟩ := isT_tup hz
    obtain ⟨e1, t1⟩ := r6 zs ez
    have gz := dg_bare 7 S (by omega) gS
    rw [← e1] at gz t1
    solve | (first | exact r5 | exact it | exact neX_self gb.1 (by rw [gb.2.1]; omega)) | (simp; done) | (first | (simp; done) | (simp; omega)) | (first | refine bare_k 7 gP (by omega) ?_ | refine tuples_k 7 gz.1 t1 (by rw [gz.2.1]; omega) ?_) | fail
    exact ⟨rfl, rfl⟩
theorem ls10 {x0 x5 x6 x7 x8 x9 x12 x13 x14 x15 x16 x17 x18 x19 x20 : Option D} {h : D} {n : Nat} {xs : List Int} {o : Option Int} {L : List (List (Int × Int) × List (List Int))} (hx : xs.length = n) (hh : HOk h) (n1 : 1 ≤ n) (n4 : n ≤ 4) (hl : L.length ≤ 4) (hs : ∀ x ∈ L, Sg n x) : Es L10 [x0, some h, some (.int (n : Nat)), some (.lst (xs.map D.int)), some (.lst (L.map sgD)), x5, x6, x7, x8, x9, some (upD o), some (.int (upI o)), x12, x13, x14, x15, x16, x17, x18, x19, x20] fun fl ρ1 => fl = Fl.nx ∧ ∃ (h : D) (x5 x13 x14 x15 x16 x17 x18 x20 : Option D), HOk h ∧ ρ1 = [x0, some h, some (.int (n : Nat)), some (.lst (xs.map D.int)), some (.lst (L.map sgD)), x5, x6, x7, x8, x9, some (upD o), some (.int (upI o)), x12, x13, x14, x15, x16, x17, x18, x19, x20] := by
  unfold L10
  solve | fail | (first | (simp; done) | (simp; omega)) | (first | (simp; done) | (simp; omega)) | fail | fail
  refine es_for (fun dsl ρ => ∃ (h : D) (x5 x13 x14 x15 x16 x17 x18 x20 : Option D), (∀ d ∈ dsl, ∃ i : Int, d = .int i) ∧ HOk h ∧ ρ = [x0, some h, some (.int (n : Nat)), some (.lst (xs.map D.int)), some (.lst (L.map sgD)), x5, x6, x7, x8, x9, some (upD o), some (.int (upI o)), x12, x13, x14, x15, x16, x17, x18, x19, x20]) ?_ ?_ _ _ ⟨h, _, _, _, _, _, _, _, _, fun d hd => ?_, hh, rfl⟩
  · rintro ρ ⟨h, x5, x13, x14, x15, x16, x17, x18, x20, _, hh, rfl⟩
    exact ⟨rfl, h, _, _, _, _, _, _, _, _, hh, rfl⟩
  · rintro d dsl ρ ⟨h, x5, x13, x14, x15, x16, x17, x18, x20, hi, hh, rfl⟩
    obtain ⟨i, rfl⟩ := hi d (by simp)
    refine ⟨_, rfl, ?_⟩
    unfold BB
    refine b_seq ((bs0 hh n1 n4 hl hs).imp fun fl ρ1 ⟨e1, h2, e, hh2, ge, e2⟩ => ?_)
    subst e1 e2
    refine b_nx (b_seq ((bs1 hh2 ge).imp fun fl ρ1 ⟨e1, h3, e, hh3, ge, e2⟩ => ?_))
    subst e1 e2
    refine b_nx (b_seq ((bs2 (by omega) hh3).imp fun fl ρ1 ⟨e1, h4, F, hh4, gF, e2⟩ => ?_))
    subst e1 e2
    refine b_nx (b_seq ((bs3 gF ge).imp fun fl ρ1 ⟨e1, e2⟩ => ?_))
    subst e1 e2
    refine b_nx (b_seq ((bs4 hh4 ge.2.1 ge.2.2).imp fun fl ρ1 ⟨e1, h5, P, hh5, lk, e2⟩ => ?_))
    subst e1 e2
    have dP : dp P < 7 := by rw [lk.2.2]; have := ge.2.2; omega
    refine b_nx (b_seq ((bs5 lk.1 dP).imp fun fl ρ1 ⟨e1, e2⟩ => ?_))
    subst e1 e2
    refine b_nx (b_seq ((bs6 gF ge.2.1 ge.2.2 lk).imp fun fl ρ1 ⟨e1, e2⟩ => ?_))
    subst e1 e2
    refine b_nx ((bs7 ge.2.1 ge.2.2 lk).imp fun fl ρ1 ⟨e1, e2⟩ => ?_)
    subst e1 e2
    exact ⟨h5, _, _, _, _, _, _, _, _, fun d hd => hi d (by simp [hd]), hh5, rfl⟩
  · obtain ⟨i, _, rfl⟩ := List.mem_map.mp hd
    exact ⟨_, rfl⟩
theorem rul_empty {xs : List Int} {u : Int} (rx : Rw xs) (hl : 1 ≤ xs.length ∧ xs.length ≤ 4) (u0 : 0 ≤ u) : rul (.lst (xs.map D.int)) (.lst []) u = .tup [] := by
  have hf : fstF none (.lst (xs.map D.int)) = none := by
    simp only [fstF, itemsOf, List.length_map]
    rw [if_pos hl]
    exact bad_ok rx
  have hs : sgtsF (.lst (xs.map D.int)) (.lst []) u = none := by
    simp only [sgtsF, itemsOf, List.length_nil, sightsF]
    rw [if_neg (by simp; omega)]
  rw [rul_n hf hs]
  rfl
theorem ls11 {x0 x1 x2 x4 x5 x6 x7 x8 x9 x11 x12 x13 x14 x15 x16 x17 x18 x19 x20 : Option D} {xs : List Int} {o : Option Int} (rx : Rw xs) (hl : 1 ≤ xs.length ∧ xs.length ≤ 4) (u0 : 0 ≤ upI o) {Q2 : Fl → SV.Env → Prop} (k : Q2 (.ret (.bl true)) [x0, x1, x2, some (.lst (xs.map D.int)), x4, x5, x6, x7, x8, x9, some (upD o), x11, x12, x13, x14, x15, x16, x17, x18, x19, x20]) : Es L11 [x0, x1, x2, some (.lst (xs.map D.int)), x4, x5, x6, x7, x8, x9, some (upD o), x11, x12, x13, x14, x15, x16, x17, x18, x19, x20] Q2 := by
  unfold L11
  have gU := upD_gd o
  have oU := gd_own gU
  have oxU := gd_isX gU
  have nU := gd_nsl gU
  have hr := rul_empty (u := upI o) rx hl u0
  have ge : gEq false (.tup []) (.tup []) = some (.bl true) := gEq_pq (neg := false) (d := .tup []) rfl (by simp [dpt, dpts])
  solve | fail | (first | (simp; done) | (simp; omega)) | (first | (simp; done) | (simp; omega)) | refine asked_k (F := .lst (xs.map D.int)) (S := .lst []) (o := o) (dg_ints (by omega)).1 rfl ?_ | fail
  rw [hr]
  solve | exact ge | (first | (simp; done) | (simp; omega)) | (first | (simp; done) | (simp; omega)) | fail | fail
  exact k
theorem law_true (ns : List Int) (hl : ns.length ≤ 63) : f_law [.fz (ns.map D.int)] = some (.ok (.bl true), []) := by
  have key : Ef f_law [.fz (ns.map D.int)] fun r cs => r = .ok (.bl true) ∧ cs = [] := by
    refine ef_fun ?_
    show Es m_law [some (.fz (ns.map D.int)), none, none, none, none, none, none, none, none, none, none, none, none, none, none, none, none, none, none, none, none] _
    rw [law_segs]
    refine b_seq ?_
    unfold L0
    solve | fail | (first | (simp; done) | (simp; omega)) | (first | (simp; done) | (simp; omega)) | refine hand_k hl fun h hh => ?_ | fail
    have o := hh.own
    have ox := hh.isX
    have nh := hh.nsl
    solve | fail | (first | (simp; done) | (simp; omega)) | (first | (simp; done) | (simp; omega)) | fail | fail
    unfold L1
    solve | fail | (first | (simp; done) | (simp; omega)) | (first | (simp; done) | (simp; omega)) | refine take_k hh (by omega) (by omega) fun v h1 v0 v1 hh1 => ?_ | fail
    obtain ⟨n, hn⟩ : ∃ n : Nat, 1 + v = (n : Int) := ⟨(1 + v).toNat, by omega⟩
    rw [hn]
    unfold L2
    solve | fail | (first | (simp; done) | (simp; omega)) | (first | (simp; done) | (simp; omega)) | fail | fail
    refine row_c hh1 (by omega) fun xs h2 lx rx hh2 => ?_
    solve | fail | (first | (simp; done) | (simp; omega)) | (first | (simp; done) | (simp; omega)) | fail | fail
    unfold L3
    solve | fail | (first | (simp; done) | (simp; omega)) | (first | (simp; done) | (simp; omega)) | fail | fail
    refine (ls4 lx hh2 (by omega) (by omega)).imp fun fl ρ1 ⟨e1, h3, L, x5, x6, x7, x8, x9, x19, hh3, ll, hs, e2⟩ => ?_
    subst e1 e2
    have gS := S_go ll (by omega) hs
    refine b_nx (b_seq ((ls5 hh3).imp fun fl ρ1 ⟨e1, h4, o, hh4, u0, e2⟩ => ?_))
    subst e1 e2
    refine b_nx (b_seq (ls6.imp fun fl ρ1 ⟨e1, e2⟩ => ?_))
    subst e1 e2
    refine b_nx (b_seq ((ls7 hh4 gS.1 gS.2).imp fun fl ρ1 ⟨e1, h5, P, hh5, lk, e2⟩ => ?_))
    subst e1 e2
    have dP : dp P < 7 := by rw [lk.2.2]; have := gS.2; omega
    refine b_nx (b_seq ((ls8 lk.1 dP).imp fun fl ρ1 ⟨e1, e2⟩ => ?_))
    subst e1 e2
    refine b_nx (b_seq ((ls9 (by omega) hh5 gS.1 gS.2 lk).imp fun fl ρ1 ⟨e1, h6, hh6, e2⟩ => ?_))
    subst e1 e2
    refine b_nx (b_seq ((ls10 lx hh6 (by omega) (by omega) ll hs).imp fun fl ρ1 ⟨e1, h7, y5, y13, y14, y15, y16, y17, y18, y20, hh7, e2⟩ => ?_))
    subst e1 e2
    refine b_nx (ls11 rx (by omega) u0 ?_)
    exact ⟨_, rfl, rfl, rfl⟩
  obtain ⟨r, cs, e, h1, h2⟩ := key
  rw [e, h1, h2]
end LAWP
end
section
set_option Elab.async false
set_option linter.all false
set_option autoImplicit false
set_option maxRecDepth 100000
set_option maxHeartbeats 0
namespace LAWW
open PySem PySem.Spec PyProof.Rows L2 SV LAWM
abbrev top (i : Nat) : Stmt := PySem.Challenge.pw_spreadhues_k59_whole_sights_checked.main.body.getD i (.Pass ⟨0, 0, 0, 0⟩)
abbrev s_is_whole : Stmt := top 8
abbrev s_check_marks : Stmt := top 12
abbrev s_check_firsts : Stmt := top 15
abbrev s_are_rows : Stmt := top 17
abbrev s_pour_fault : Stmt := top 13
abbrev s_check_script : Stmt := top 14
abbrev s_check_one_sight : Stmt := top 18
abbrev s_check_sights : Stmt := top 19
abbrev s__law_asked : Stmt := top 30
abbrev s__law_bare : Stmt := top 26
abbrev s__law_mixed : Stmt := top 22
abbrev s__law_take : Stmt := top 23
abbrev s__law_odd : Stmt := top 28
abbrev s__law_rid : Stmt := top 29
abbrev s__law_begun : Stmt := top 38
abbrev s__law_colour : Stmt := top 24
abbrev s__law_number : Stmt := top 31
abbrev s__law_hues : Stmt := top 32
abbrev s__law_pours : Stmt := top 33
abbrev s__law_due : Stmt := top 34
abbrev s__law_hand : Stmt := top 21
abbrev s__law_lists : Stmt := top 27
abbrev s__law_tuples : Stmt := top 25
abbrev s__law_cracked : Stmt := top 35
abbrev s__law_torn : Stmt := top 36
abbrev s__law_wrong : Stmt := top 37
abbrev s_law : Stmt := top 39
abbrev i_BadMarks : Stmt := inClass (top 2) 0
abbrev i_BadFirsts : Stmt := inClass (top 4) 0
abbrev i_BadScript : Stmt := inClass (top 3) 0
abbrev i_BadSight : Stmt := inClass (top 5) 0
abbrev XL : List (Str × List Str) := [(("BadMarks" : Str), (["marks"] : List Str)), (("BadFirsts" : Str), (["index"] : List Str)), (("BadScript" : Str), (["index", "what"] : List Str)), (("BadSight" : Str), (["index", "what"] : List Str))]
def XN : List Str := [("BadMarks" : Str), ("BadFirsts" : Str), ("BadScript" : Str), ("BadSight" : Str), ("HueError" : Str)]
structure Fx (K : PySem.W.Frag) (mg : Str → Option Value) : Prop where
  g_is_whole : mg "is_whole" = some (.ref (He.ga K "is_whole"))
  g_check_marks : mg "check_marks" = some (.ref (He.ga K "check_marks"))
  g_check_firsts : mg "check_firsts" = some (.ref (He.ga K "check_firsts"))
  g_are_rows : mg "are_rows" = some (.ref (He.ga K "are_rows"))
  g_pour_fault : mg "pour_fault" = some (.ref (He.ga K "pour_fault"))
  g_check_script : mg "check_script" = some (.ref (He.ga K "check_script"))
  g_check_one_sight : mg "check_one_sight" = some (.ref (He.ga K "check_one_sight"))
  g_check_sights : mg "check_sights" = some (.ref (He.ga K "check_sights"))
  g__law_asked : mg "_law_asked" = some (.ref (He.ga K "_law_asked"))
  g__law_bare : mg "_law_bare" = some (.ref (He.ga K "_law_bare"))
  g__law_mixed : mg "_law_mixed" = some (.ref (He.ga K "_law_mixed"))
  g__law_take : mg "_law_take" = some (.ref (He.ga K "_law_take"))
  g__law_odd : mg "_law_odd" = some (.ref (He.ga K "_law_odd"))
  g__law_rid : mg "_law_rid" = some (.ref (He.ga K "_law_rid"))
  g__law_begun : mg "_law_begun" = some (.ref (He.ga K "_law_begun"))
  g__law_colour : mg "_law_colour" = some (.ref (He.ga K "_law_colour"))
  g__law_number : mg "_law_number" = some (.ref (He.ga K "_law_number"))
  g__law_hues : mg "_law_hues" = some (.ref (He.ga K "_law_hues"))
  g__law_pours : mg "_law_pours" = some (.ref (He.ga K "_law_pours"))
  g__law_due : mg "_law_due" = some (.ref (He.ga K "_law_due"))
  g__law_hand : mg "_law_hand" = some (.ref (He.ga K "_law_hand"))
  g__law_lists : mg "_law_lists" = some (.ref (He.ga K "_law_lists"))
  g__law_tuples : mg "_law_tuples" = some (.ref (He.ga K "_law_tuples"))
  g__law_cracked : mg "_law_cracked" = some (.ref (He.ga K "_law_cracked"))
  g__law_torn : mg "_law_torn" = some (.ref (He.ga K "_law_torn"))
  g__law_wrong : mg "_law_wrong" = some (.ref (He.ga K "_law_wrong"))
  g_law : mg "law" = some (.ref (He.ga K "law"))
  g_BadMarks : mg "BadMarks" = some (.ref (He.ga K "BadMarks"))
  g_BadFirsts : mg "BadFirsts" = some (.ref (He.ga K "BadFirsts"))
  g_BadScript : mg "BadScript" = some (.ref (He.ga K "BadScript"))
  g_BadSight : mg "BadSight" = some (.ref (He.ga K "BadSight"))
  g_HueError : mg "HueError" = some (.ref (He.ga K "HueError"))
  n_abs : mg "abs" = none
  n_bool : mg "bool" = none
  n_enumerate : mg "enumerate" = none
  n_int : mg "int" = none
  n_isinstance : mg "isinstance" = none
  n_len : mg "len" = none
  n_list : mg "list" = none
  n_range : mg "range" = none
  n_tuple : mg "tuple" = none
  i_MOST_COLOUR : ∃ t, mg "MOST_COLOUR" = some (.int 99 t)
  i_MOST_POURS : ∃ t, mg "MOST_POURS" = some (.int 12 t)
  i_MOST_MARKS : ∃ t, mg "MOST_MARKS" = some (.int 4 t)
  em : exmTab K TAB = true
  xl : ∀ q ∈ XL, ExF K q.1 q.2
  xg : ∀ q ∈ XL, mg q.1 = some (.ref (He.ga K q.1))
  xg2 : ∀ c ∈ XN, mg c = some (.ref (He.ga K c))
  d_is_whole : ∃ fd, FunD K "is_whole" "is_whole" (defArgs s_is_whole) (defBody s_is_whole) (defScope s_is_whole) [.non, .non] [] (He.ga K "is_whole") fd
  d_check_marks : ∃ fd, FunD K "check_marks" "check_marks" (defArgs s_check_marks) (defBody s_check_marks) (defScope s_check_marks) [] [] (He.ga K "check_marks") fd
  d_check_firsts : ∃ fd, FunD K "check_firsts" "check_firsts" (defArgs s_check_firsts) (defBody s_check_firsts) (defScope s_check_firsts) [] [] (He.ga K "check_firsts") fd
  d_are_rows : ∃ fd, FunD K "are_rows" "are_rows" (defArgs s_are_rows) (defBody s_are_rows) (defScope s_are_rows) [] [] (He.ga K "are_rows") fd
  d_pour_fault : ∃ fd, FunD K "pour_fault" "pour_fault" (defArgs s_pour_fault) (defBody s_pour_fault) (defScope s_pour_fault) [] [] (He.ga K "pour_fault") fd
  d_check_script : ∃ fd, FunD K "check_script" "check_script" (defArgs s_check_script) (defBody s_check_script) (defScope s_check_script) [] [] (He.ga K "check_script") fd
  d_check_one_sight : ∃ fd, FunD K "check_one_sight" "check_one_sight" (defArgs s_check_one_sight) (defBody s_check_one_sight) (defScope s_check_one_sight) [] [] (He.ga K "check_one_sight") fd
  d_check_sights : ∃ fd, FunD K "check_sights" "check_sights" (defArgs s_check_sights) (defBody s_check_sights) (defScope s_check_sights) [(.int 3)] [] (He.ga K "check_sights") fd
  d__law_asked : ∃ fd, FunD K "_law_asked" "_law_asked" (defArgs s__law_asked) (defBody s__law_asked) (defScope s__law_asked) [] [] (He.ga K "_law_asked") fd
  d__law_bare : ∃ fd, FunD K "_law_bare" "_law_bare" (defArgs s__law_bare) (defBody s__law_bare) (defScope s__law_bare) [] [] (He.ga K "_law_bare") fd
  d__law_mixed : ∃ fd, FunD K "_law_mixed" "_law_mixed" (defArgs s__law_mixed) (defBody s__law_mixed) (defScope s__law_mixed) [] [] (He.ga K "_law_mixed") fd
  d__law_take : ∃ fd, FunD K "_law_take" "_law_take" (defArgs s__law_take) (defBody s__law_take) (defScope s__law_take) [] [] (He.ga K "_law_take") fd
  d__law_odd : ∃ fd, FunD K "_law_odd" "_law_odd" (defArgs s__law_odd) (defBody s__law_odd) (defScope s__law_odd) [] [] (He.ga K "_law_odd") fd
  d__law_rid : ∃ fd, FunD K "_law_rid" "_law_rid" (defArgs s__law_rid) (defBody s__law_rid) (defScope s__law_rid) [] [] (He.ga K "_law_rid") fd
  d__law_begun : ∃ fd, FunD K "_law_begun" "_law_begun" (defArgs s__law_begun) (defBody s__law_begun) (defScope s__law_begun) [] [] (He.ga K "_law_begun") fd
  d__law_colour : ∃ fd, FunD K "_law_colour" "_law_colour" (defArgs s__law_colour) (defBody s__law_colour) (defScope s__law_colour) [] [] (He.ga K "_law_colour") fd
  d__law_number : ∃ fd, FunD K "_law_number" "_law_number" (defArgs s__law_number) (defBody s__law_number) (defScope s__law_number) [] [] (He.ga K "_law_number") fd
  d__law_hues : ∃ fd, FunD K "_law_hues" "_law_hues" (defArgs s__law_hues) (defBody s__law_hues) (defScope s__law_hues) [] [] (He.ga K "_law_hues") fd
  d__law_pours : ∃ fd, FunD K "_law_pours" "_law_pours" (defArgs s__law_pours) (defBody s__law_pours) (defScope s__law_pours) [] [] (He.ga K "_law_pours") fd
  d__law_due : ∃ fd, FunD K "_law_due" "_law_due" (defArgs s__law_due) (defBody s__law_due) (defScope s__law_due) [] [] (He.ga K "_law_due") fd
  d__law_hand : ∃ fd, FunD K "_law_hand" "_law_hand" (defArgs s__law_hand) (defBody s__law_hand) (defScope s__law_hand) [] [] (He.ga K "_law_hand") fd
  d__law_lists : ∃ fd, FunD K "_law_lists" "_law_lists" (defArgs s__law_lists) (defBody s__law_lists) (defScope s__law_lists) [] [] (He.ga K "_law_lists") fd
  d__law_tuples : ∃ fd, FunD K "_law_tuples" "_law_tuples" (defArgs s__law_tuples) (defBody s__law_tuples) (defScope s__law_tuples) [] [] (He.ga K "_law_tuples") fd
  d__law_cracked : ∃ fd, FunD K "_law_cracked" "_law_cracked" (defArgs s__law_cracked) (defBody s__law_cracked) (defScope s__law_cracked) [] [] (He.ga K "_law_cracked") fd
  d__law_torn : ∃ fd, FunD K "_law_torn" "_law_torn" (defArgs s__law_torn) (defBody s__law_torn) (defScope s__law_torn) [] [] (He.ga K "_law_torn") fd
  d__law_wrong : ∃ fd, FunD K "_law_wrong" "_law_wrong" (defArgs s__law_wrong) (defBody s__law_wrong) (defScope s__law_wrong) [] [] (He.ga K "_law_wrong") fd
  d_law : ∃ fd, FunD K "law" "law" (defArgs s_law) (defBody s_law) (defScope s_law) [] [] (He.ga K "law") fd
  d_BadMarks : ∃ fd, FunD K "__init__" "BadMarks.__init__" (defArgs i_BadMarks) (defBody i_BadMarks) (defScope i_BadMarks) [] [] (He.ma K (He.ga K "BadMarks") "__init__") fd
  d_BadFirsts : ∃ fd, FunD K "__init__" "BadFirsts.__init__" (defArgs i_BadFirsts) (defBody i_BadFirsts) (defScope i_BadFirsts) [] [] (He.ma K (He.ga K "BadFirsts") "__init__") fd
  d_BadScript : ∃ fd, FunD K "__init__" "BadScript.__init__" (defArgs i_BadScript) (defBody i_BadScript) (defScope i_BadScript) [] [] (He.ma K (He.ga K "BadScript") "__init__") fd
  d_BadSight : ∃ fd, FunD K "__init__" "BadSight.__init__" (defArgs i_BadSight) (defBody i_BadSight) (defScope i_BadSight) [] [] (He.ma K (He.ga K "BadSight") "__init__") fd
section
variable {P : Program} {w : World} {K : PySem.W.Frag} {mg : Str → Option Value} {base : Heap}
theorem sx_BadMarks : FnScope ["self", "marks"] ["self", "marks"] (defScope i_BadMarks) := ⟨rfl, rfl, rfl, by decide +kernel, rfl, by decide +kernel, by decide +kernel⟩
theorem x_BadMarks (Q : Fx K mg) : ExF K "BadMarks" ["marks"] := Q.xl ("BadMarks", ["marks"]) (by simp [XL])
theorem ok_BadMarks (Q : Fx K mg) : ∃ fd, FnOk P w K mg base (L2.CX P w) 1 (He.ma K (He.ga K "BadMarks") "__init__") fd ["self", "marks"] (spIni (He.ga K "BadMarks") ["marks"]) ∧ Binds K fd ["self", "marks"] [] := by
  obtain ⟨fd, F⟩ := Q.d_BadMarks
  have X := x_BadMarks Q
  exact ⟨fd, ini1 F sx_BadMarks rfl rfl (by decide) (by decide) X.oex (X.no _ (by decide)), F.bindsN fun _ _ _ _ _ _ us hl => match us, hl with | [_, _], _ => rfl⟩
theorem sx_BadFirsts : FnScope ["self", "index"] ["self", "index"] (defScope i_BadFirsts) := ⟨rfl, rfl, rfl, by decide +kernel, rfl, by decide +kernel, by decide +kernel⟩
theorem x_BadFirsts (Q : Fx K mg) : ExF K "BadFirsts" ["index"] := Q.xl ("BadFirsts", ["index"]) (by simp [XL])
theorem ok_BadFirsts (Q : Fx K mg) : ∃ fd, FnOk P w K mg base (L2.CX P w) 1 (He.ma K (He.ga K "BadFirsts") "__init__") fd ["self", "index"] (spIni (He.ga K "BadFirsts") ["index"]) ∧ Binds K fd ["self", "index"] [] := by
  obtain ⟨fd, F⟩ := Q.d_BadFirsts
  have X := x_BadFirsts Q
  exact ⟨fd, ini1 F sx_BadFirsts rfl rfl (by decide) (by decide) X.oex (X.no _ (by decide)), F.bindsN fun _ _ _ _ _ _ us hl => match us, hl with | [_, _], _ => rfl⟩
theorem sx_BadScript : FnScope ["self", "index", "what"] ["self", "index", "what"] (defScope i_BadScript) := ⟨rfl, rfl, rfl, by decide +kernel, rfl, by decide +kernel, by decide +kernel⟩
theorem x_BadScript (Q : Fx K mg) : ExF K "BadScript" ["index", "what"] := Q.xl ("BadScript", ["index", "what"]) (by simp [XL])
theorem ok_BadScript (Q : Fx K mg) : ∃ fd, FnOk P w K mg base (L2.CX P w) 1 (He.ma K (He.ga K "BadScript") "__init__") fd ["self", "index", "what"] (spIni (He.ga K "BadScript") ["index", "what"]) ∧ Binds K fd ["self", "index", "what"] [] := by
  obtain ⟨fd, F⟩ := Q.d_BadScript
  have X := x_BadScript Q
  exact ⟨fd, ini2 F sx_BadScript rfl rfl rfl (by decide) (by decide) (by decide) (by decide) X.oex (X.no _ (by decide)) (X.no _ (by decide)), F.bindsN fun _ _ _ _ _ _ us hl => match us, hl with | [_, _, _], _ => rfl⟩
theorem sx_BadSight : FnScope ["self", "index", "what"] ["self", "index", "what"] (defScope i_BadSight) := ⟨rfl, rfl, rfl, by decide +kernel, rfl, by decide +kernel, by decide +kernel⟩
theorem x_BadSight (Q : Fx K mg) : ExF K "BadSight" ["index", "what"] := Q.xl ("BadSight", ["index", "what"]) (by simp [XL])
theorem ok_BadSight (Q : Fx K mg) : ∃ fd, FnOk P w K mg base (L2.CX P w) 1 (He.ma K (He.ga K "BadSight") "__init__") fd ["self", "index", "what"] (spIni (He.ga K "BadSight") ["index", "what"]) ∧ Binds K fd ["self", "index", "what"] [] := by
  obtain ⟨fd, F⟩ := Q.d_BadSight
  have X := x_BadSight Q
  exact ⟨fd, ini2 F sx_BadSight rfl rfl rfl (by decide) (by decide) (by decide) (by decide) X.oex (X.no _ (by decide)) (X.no _ (by decide)), F.bindsN fun _ _ _ _ _ _ us hl => match us, hl with | [_, _, _], _ => rfl⟩
theorem okH_BadSight (Q : Fx K mg) : ∃ fd, L2H.FnH P w K mg base (L2.CX P w) 1 (He.ma K (He.ga K "BadSight") "__init__") fd ["self", "index", "what"] (spIni (He.ga K "BadSight") ["index", "what"]) ∧ Binds K fd ["self", "index", "what"] [] := by
  obtain ⟨fd, F⟩ := Q.d_BadSight
  have X := x_BadSight Q
  exact ⟨fd, ini2H F sx_BadSight rfl rfl rfl (by decide) (by decide) (by decide) (by decide) X.oex (X.no _ (by decide)) (X.no _ (by decide)), F.bindsN fun _ _ _ _ _ _ us hl => match us, hl with | [_, _, _], _ => rfl⟩
theorem sc_is_whole : FnScope ["thing", "low", "high"] ["thing", "low", "high"] (defScope s_is_whole) := ⟨rfl, rfl, rfl, by decide +kernel, rfl, by decide +kernel, by decide +kernel⟩
theorem ok_is_whole (Q : Fx K mg) : ∃ fd, FunD K "is_whole" "is_whole" (defArgs s_is_whole) (defBody s_is_whole) (defScope s_is_whole) [.non, .non] [] (He.ga K "is_whole") fd ∧ FnOk P w K mg base (L2N.CX P w) 1 (He.ga K "is_whole") fd ["thing", "low", "high"] (spV (cn mg K) [false, false, false] f_is_whole) ∧ Bd K fd ["thing", "low", "high"] [] ∧ True := by
  obtain ⟨fd, F⟩ := Q.d_is_whole
  refine ⟨fd, F, funVN F sc_is_whole [false, false, false] m_is_whole rfl (by decide) fun cdv A outer s H E hr => ?_, ⟨F.binds1 3 2 (fun h => by cases h) rfl fun _ _ _ _ _ _ _ us its h1 h2 => match us, its, h1, h2 with | [_, _, _], [_, _], _, _ => ⟨_, rfl, rfl⟩⟩, True.intro⟩
  exact (vss_cons (vs_if (VW.vt (vw_or (vt_not (vt_tru (v_isi1 rfl Q.n_isinstance (w_var 0) ⟨⟨rfl, Q.n_int, PyProof.Rows.boot_int, by decide, by decide⟩, True.intro⟩))) (vw_or1 (vt_tru (v_isi1 rfl Q.n_isinstance (w_var 0) ⟨⟨rfl, Q.n_bool, PyProof.Rows.boot_bool, by decide, by decide⟩, True.intro⟩))))) (vss_one (vs_ret v_bl)) vss_nil)
  (vss_cons (vs_if (VW.vt (vw_and (vt_notN (w_var 1)) (vw_and1 (t_lt (w_var 0) (w_var 1))))) (vss_one (vs_ret v_bl)) vss_nil)
  (vss_one (vs_ret (v_or (v_isN (w_var 2)) (v_one (w_le (w_var 0) (w_var 2))))))))
theorem sc_check_marks : FnScope ["marks"] ["marks"] (defScope s_check_marks) := ⟨rfl, rfl, rfl, by decide +kernel, rfl, by decide +kernel, by decide +kernel⟩
theorem ok_check_marks (Q : Fx K mg) : ∃ fd, FunD K "check_marks" "check_marks" (defArgs s_check_marks) (defBody s_check_marks) (defScope s_check_marks) [] [] (He.ga K "check_marks") fd ∧ FnOk P w K mg base (L2N.CX P w) 3 (He.ga K "check_marks") fd ["marks"] (spV (cn mg K) [false] f_check_marks) ∧ Bd K fd ["marks"] [] ∧ True := by
  obtain ⟨fd, F⟩ := Q.d_check_marks
  obtain ⟨fd_is_whole, F_is_whole0, O_is_wholeN, B_is_whole_p3, _⟩ := ok_is_whole (P := P) (w := w) (base := base) Q
  have F_is_whole := F_is_whole0
  have O_is_whole := fnN O_is_wholeN
  obtain ⟨fx_BadMarks, O_BadMarks, B_BadMarks⟩ := ok_BadMarks (P := P) (w := w) (base := base) Q
  have X_BadMarks := x_BadMarks Q
  refine ⟨fd, F, funVN F sc_check_marks [false] m_check_marks rfl (by decide) fun cdv A outer s H E hr => ?_, ⟨⟨[], .nil, F.bindsN fun _ _ _ _ _ _ us hl => match us, hl with | [_], _ => rfl⟩⟩, True.intro⟩
  exact (vss_cons (vs_if (vt_not (vt_tru (w_callN (dd := []) tk_defN hr O_is_wholeN B_is_whole_p3 Q.g_is_whole F_is_whole.kp (va_c (w_var 0) (va_c v_int (va_c (v_gint rfl Q.i_MOST_MARKS.choose_spec) va_nil)))))) (vss_one (vs_raiseN rfl tk_defN X_BadMarks.oex X_BadMarks.ini X_BadMarks.tyI O_BadMarks (hr.mono (by first | decide | omega)) B_BadMarks rfl Q.g_BadMarks rfl (by decide) (va_c (w_var 0) va_nil))) vss_nil)
  (vss_one (vs_ret (w_var 0))))
theorem sc_check_firsts : FnScope ["marks", "firsts", "least", "most", "index", "colour"] ["marks", "firsts"] (defScope s_check_firsts) := ⟨rfl, rfl, rfl, by decide +kernel, rfl, by decide +kernel, by decide +kernel⟩
theorem ok_check_firsts (Q : Fx K mg) : ∃ fd, FunD K "check_firsts" "check_firsts" (defArgs s_check_firsts) (defBody s_check_firsts) (defScope s_check_firsts) [] [] (He.ga K "check_firsts") fd ∧ FnOk P w K mg base (L2.CX P w) 4 (He.ga K "check_firsts") fd ["marks", "firsts"] (spV (cn mg K) [false, false] f_check_firsts) ∧ Bd K fd ["marks", "firsts"] [] ∧ True := by
  obtain ⟨fd, F⟩ := Q.d_check_firsts
  obtain ⟨fd_check_marks, F_check_marks0, O_check_marksN, B_check_marks_p1, _⟩ := ok_check_marks (P := P) (w := w) (base := base) Q
  have F_check_marks := F_check_marks0
  have O_check_marks := fnN O_check_marksN
  obtain ⟨fd_is_whole, F_is_whole0, O_is_wholeN, B_is_whole_p3, _⟩ := ok_is_whole (P := P) (w := w) (base := base) Q
  have F_is_whole := F_is_whole0
  have O_is_whole := fnN O_is_wholeN
  obtain ⟨fx_BadFirsts, O_BadFirsts, B_BadFirsts⟩ := ok_BadFirsts (P := P) (w := w) (base := base) Q
  have X_BadFirsts := x_BadFirsts Q
  refine ⟨fd, F, funV F sc_check_firsts [false, false] m_check_firsts rfl (by decide) fun cdv A outer s H E hr => ?_, ⟨⟨[], .nil, F.bindsN fun _ _ _ _ _ _ us hl => match us, hl with | [_, _], _ => rfl⟩⟩, True.intro⟩
  exact (vss_cons (vs_if (vt_notN (w_var 0)) (vss_one (vs_expr (w_call (dd := []) tk_def hr O_check_marks B_check_marks_p1 Q.g_check_marks F_check_marks.kp (va_c (w_var 0) va_nil)))) vss_nil)
  (vss_cons (vs_if (vt_not (vt_tru (v_isiT rfl Q.n_isinstance (w_var 1) ⟨⟨rfl, Q.n_list, PyProof.Rows.boot_list, by decide, by decide⟩, ⟨⟨rfl, Q.n_tuple, PyProof.Rows.boot_tuple, by decide, by decide⟩, True.intro⟩⟩))) (vss_one (vs_raise rfl tk_def X_BadFirsts.oex X_BadFirsts.ini X_BadFirsts.tyI O_BadFirsts (hr.mono (by first | decide | omega)) B_BadFirsts rfl Q.g_BadFirsts rfl (by decide) (va_c v_int va_nil))) vss_nil)
  (vss_cons (vs_set sc_check_firsts.nd (i := 2) rfl (by first | exact Or.inl rfl | exact Or.inr rfl) (by decide) (v_ifE (vt_isN (w_var 0)) v_int (w_var 0)))
  (vss_cons (vs_set sc_check_firsts.nd (i := 3) rfl (by first | exact Or.inl rfl | exact Or.inr rfl) (by decide) (v_ifE (vt_isN (w_var 0)) (v_gint rfl Q.i_MOST_MARKS.choose_spec) (w_var 0)))
  (vss_cons (vs_if (vt_not (vt_chain op_le r_le op_le r_le (w_var 2) (w_len rfl rfl Q.n_len (va_c (w_var 1) va_nil)) (w_var 3))) (vss_one (vs_raise rfl tk_def X_BadFirsts.oex X_BadFirsts.ini X_BadFirsts.tyI O_BadFirsts (hr.mono (by first | decide | omega)) B_BadFirsts rfl Q.g_BadFirsts rfl (by decide) (va_c v_int va_nil))) vss_nil)
  (vss_cons (vs_for ps_def rfl (vi_enum rfl rfl Q.n_enumerate (va_c (w_var 1) va_nil)) (vg_tp rfl (vgs_cons (vg_nm sc_check_firsts.nd (i := 4) rfl (by first | exact Or.inl rfl | exact Or.inr rfl) (by decide)) (vgs_cons (vg_nm sc_check_firsts.nd (i := 5) rfl (by first | exact Or.inl rfl | exact Or.inr rfl) (by decide)) vgs_nil))) (vss_one (vs_if (vt_not (vt_tru (w_call (dd := []) tk_def hr O_is_whole B_is_whole_p3 Q.g_is_whole F_is_whole.kp (va_c (w_var 5) (va_c v_int (va_c (v_gint rfl Q.i_MOST_COLOUR.choose_spec) va_nil)))))) (vss_one (vs_raise rfl tk_def X_BadFirsts.oex X_BadFirsts.ini X_BadFirsts.tyI O_BadFirsts (hr.mono (by first | decide | omega)) B_BadFirsts rfl Q.g_BadFirsts rfl (by decide) (va_c (w_var 4) va_nil))) vss_nil)))
  (vss_one (vs_ret (w_tuple rfl Q.n_tuple (va_c (w_var 1) va_nil))))))))))
theorem sc_are_rows : FnScope ["marks", "moments", "rows", "row", "colour"] ["marks", "moments", "rows"] (defScope s_are_rows) := ⟨rfl, rfl, rfl, by decide +kernel, rfl, by decide +kernel, by decide +kernel⟩
theorem ok_are_rows (Q : Fx K mg) : ∃ fd, FunD K "are_rows" "are_rows" (defArgs s_are_rows) (defBody s_are_rows) (defScope s_are_rows) [] [] (He.ga K "are_rows") fd ∧ FnOk P w K mg base (L2.CX P w) 2 (He.ga K "are_rows") fd ["marks", "moments", "rows"] (spV (cn mg K) [false, false, false] f_are_rows) ∧ Bd K fd ["marks", "moments", "rows"] [] ∧ True := by
  obtain ⟨fd, F⟩ := Q.d_are_rows
  obtain ⟨fd_is_whole, F_is_whole0, O_is_wholeN, B_is_whole_p3, _⟩ := ok_is_whole (P := P) (w := w) (base := base) Q
  have F_is_whole := F_is_whole0
  have O_is_whole := fnN O_is_wholeN
  refine ⟨fd, F, funV F sc_are_rows [false, false, false] m_are_rows rfl (by decide) fun cdv A outer s H E hr => ?_, ⟨⟨[], .nil, F.bindsN fun _ _ _ _ _ _ us hl => match us, hl with | [_, _, _], _ => rfl⟩⟩, True.intro⟩
  exact (vss_cons (vs_if (VW.vt (vw_or (vt_not (vt_tru (v_isiT rfl Q.n_isinstance (w_var 2) ⟨⟨rfl, Q.n_list, PyProof.Rows.boot_list, by decide, by decide⟩, ⟨⟨rfl, Q.n_tuple, PyProof.Rows.boot_tuple, by decide, by decide⟩, True.intro⟩⟩))) (vw_or1 (t_ne hr (w_len rfl rfl Q.n_len (va_c (w_var 2) va_nil)) (w_var 1))))) (vss_one (vs_ret v_bl)) vss_nil)
  (vss_cons (vs_for ps_def rfl (vi_seq rfl (w_var 2)) (vg_nm sc_are_rows.nd (i := 3) rfl (by first | exact Or.inl rfl | exact Or.inr rfl) (by decide)) (vss_cons (vs_if (VW.vt (vw_or (vt_not (vt_tru (v_isiT rfl Q.n_isinstance (w_var 3) ⟨⟨rfl, Q.n_list, PyProof.Rows.boot_list, by decide, by decide⟩, ⟨⟨rfl, Q.n_tuple, PyProof.Rows.boot_tuple, by decide, by decide⟩, True.intro⟩⟩))) (vw_or1 (t_ne hr (w_len rfl rfl Q.n_len (va_c (w_var 3) va_nil)) (w_var 0))))) (vss_one (vs_ret v_bl)) vss_nil)
  (vss_one (vs_for ps_def rfl (vi_seq rfl (w_var 3)) (vg_nm sc_are_rows.nd (i := 4) rfl (by first | exact Or.inl rfl | exact Or.inr rfl) (by decide)) (vss_one (vs_if (vt_not (vt_tru (w_call (dd := []) tk_def hr O_is_whole B_is_whole_p3 Q.g_is_whole F_is_whole.kp (va_c (w_var 4) (va_c v_int (va_c (v_gint rfl Q.i_MOST_COLOUR.choose_spec) va_nil)))))) (vss_one (vs_ret v_bl)) vss_nil))))))
  (vss_one (vs_ret v_bl))))
theorem sc_pour_fault : FnScope ["marks", "pour"] ["marks", "pour"] (defScope s_pour_fault) := ⟨rfl, rfl, rfl, by decide +kernel, rfl, by decide +kernel, by decide +kernel⟩
theorem ok_pour_fault (Q : Fx K mg) : ∃ fd, FunD K "pour_fault" "pour_fault" (defArgs s_pour_fault) (defBody s_pour_fault) (defScope s_pour_fault) [] [] (He.ga K "pour_fault") fd ∧ FnOk P w K mg base (L2N.CX P w) 2 (He.ga K "pour_fault") fd ["marks", "pour"] (spV (cn mg K) [false, false] f_pour_fault) ∧ Bd K fd ["marks", "pour"] [] ∧ True := by
  obtain ⟨fd, F⟩ := Q.d_pour_fault
  obtain ⟨fd_is_whole, F_is_whole0, O_is_wholeN, B_is_whole_p3, _⟩ := ok_is_whole (P := P) (w := w) (base := base) Q
  have F_is_whole := F_is_whole0
  have O_is_whole := fnN O_is_wholeN
  refine ⟨fd, F, funVN F sc_pour_fault [false, false] m_pour_fault rfl (by decide) fun cdv A outer s H E hr => ?_, ⟨⟨[], .nil, F.bindsN fun _ _ _ _ _ _ us hl => match us, hl with | [_, _], _ => rfl⟩⟩, True.intro⟩
  exact (vss_cons (vs_if (VW.vt (vw_or (vt_not (vt_tru (v_isiT rfl Q.n_isinstance (w_var 1) ⟨⟨rfl, Q.n_list, PyProof.Rows.boot_list, by decide, by decide⟩, ⟨⟨rfl, Q.n_tuple, PyProof.Rows.boot_tuple, by decide, by decide⟩, True.intro⟩⟩))) (vw_or1 (t_ne hr (w_len rfl rfl Q.n_len (va_c (w_var 1) va_nil)) v_int)))) (vss_one (vs_ret v_str)) vss_nil)
  (vss_cons (vs_if (vt_not (vt_tru (w_callN (dd := []) tk_defN hr O_is_wholeN B_is_whole_p3 Q.g_is_whole F_is_whole.kp (va_c (w_ix (w_var 1) v_int) (va_c v_int (va_c (w_sub (w_var 0) v_int) va_nil)))))) (vss_one (vs_ret v_str)) vss_nil)
  (vss_cons (vs_if (vt_not (vt_tru (w_callN (dd := []) tk_defN hr O_is_wholeN B_is_whole_p3 Q.g_is_whole F_is_whole.kp (va_c (w_ix (w_var 1) v_int) (va_c v_int (va_c (v_gint rfl Q.i_MOST_COLOUR.choose_spec) va_nil)))))) (vss_one (vs_ret v_str)) vss_nil)
  (vss_one (vs_ret v_non)))))
theorem sc_check_script : FnScope ["marks", "script", "index", "pour", "what"] ["marks", "script"] (defScope s_check_script) := ⟨rfl, rfl, rfl, by decide +kernel, rfl, by decide +kernel, by decide +kernel⟩
theorem ok_check_script (Q : Fx K mg) : ∃ fd, FunD K "check_script" "check_script" (defArgs s_check_script) (defBody s_check_script) (defScope s_check_script) [] [] (He.ga K "check_script") fd ∧ FnOk P w K mg base (L2N.CX P w) 4 (He.ga K "check_script") fd ["marks", "script"] (spV (cn mg K) [false, false] f_check_script) ∧ Bd K fd ["marks", "script"] [] ∧ True := by
  obtain ⟨fd, F⟩ := Q.d_check_script
  obtain ⟨fd_check_marks, F_check_marks0, O_check_marksN, B_check_marks_p1, _⟩ := ok_check_marks (P := P) (w := w) (base := base) Q
  have F_check_marks := F_check_marks0
  have O_check_marks := fnN O_check_marksN
  obtain ⟨fd_pour_fault, F_pour_fault0, O_pour_faultN, B_pour_fault_p2, _⟩ := ok_pour_fault (P := P) (w := w) (base := base) Q
  have F_pour_fault := F_pour_fault0
  have O_pour_fault := fnN O_pour_faultN
  obtain ⟨fx_BadScript, O_BadScript, B_BadScript⟩ := ok_BadScript (P := P) (w := w) (base := base) Q
  have X_BadScript := x_BadScript Q
  refine ⟨fd, F, funVN F sc_check_script [false, false] m_check_script rfl (by decide) fun cdv A outer s H E hr => ?_, ⟨⟨[], .nil, F.bindsN fun _ _ _ _ _ _ us hl => match us, hl with | [_, _], _ => rfl⟩⟩, True.intro⟩
  exact (vss_cons (vs_expr (w_callN (dd := []) tk_defN hr O_check_marksN B_check_marks_p1 Q.g_check_marks F_check_marks.kp (va_c (w_var 0) va_nil)))
  (vss_cons (vs_if (VW.vt (vw_or (vt_not (vt_tru (v_isiT rfl Q.n_isinstance (w_var 1) ⟨⟨rfl, Q.n_list, PyProof.Rows.boot_list, by decide, by decide⟩, ⟨⟨rfl, Q.n_tuple, PyProof.Rows.boot_tuple, by decide, by decide⟩, True.intro⟩⟩))) (vw_or1 (t_gt (w_len rfl rfl Q.n_len (va_c (w_var 1) va_nil)) (v_gint rfl Q.i_MOST_POURS.choose_spec))))) (vss_one (vs_raiseN rfl tk_defN X_BadScript.oex X_BadScript.ini X_BadScript.tyI O_BadScript (hr.mono (by first | decide | omega)) B_BadScript rfl Q.g_BadScript rfl (by decide) (va_c v_int (va_c v_str va_nil)))) vss_nil)
  (vss_cons (vs_for ps_defN rfl (vi_enum rfl rfl Q.n_enumerate (va_c (w_var 1) va_nil)) (vg_tp rfl (vgs_cons (vg_nm sc_check_script.nd (i := 2) rfl (by first | exact Or.inl rfl | exact Or.inr rfl) (by decide)) (vgs_cons (vg_nm sc_check_script.nd (i := 3) rfl (by first | exact Or.inl rfl | exact Or.inr rfl) (by decide)) vgs_nil))) (vss_cons (vs_set sc_check_script.nd (i := 4) rfl (by first | exact Or.inl rfl | exact Or.inr rfl) (by decide) (w_callN (dd := []) tk_defN hr O_pour_faultN B_pour_fault_p2 Q.g_pour_fault F_pour_fault.kp (va_c (w_var 0) (va_c (w_var 3) va_nil))))
  (vss_one (vs_if (vt_notN (w_var 4)) (vss_one (vs_raiseN rfl tk_defN X_BadScript.oex X_BadScript.ini X_BadScript.tyI O_BadScript (hr.mono (by first | decide | omega)) B_BadScript rfl Q.g_BadScript rfl (by decide) (va_c (w_var 2) (va_c (w_var 4) va_nil)))) vss_nil))))
  (vss_one (vs_ret (w_tuple rfl Q.n_tuple (va_c (v_lc (own := [("pour", 3)]) rfl sc_check_script.nd (vi_seq rfl (w_var 1)) (blk_ok (by kernel_rfl)) (fun _ _ _ _ _ => (vg_nm sc_check_script.nd (i := 3) rfl (by first | exact Or.inl rfl | exact Or.inr rfl) (butP_no rfl))) (fun _ _ _ _ _ => vts_nil) (fun _ _ _ _ _ => (w_tuple rfl Q.n_tuple (va_c (w_var 3) va_nil)))) va_nil)))))))
theorem sc_check_one_sight : FnScope ["hues", "index", "sight", "pours", "rows", "row"] ["hues", "index", "sight"] (defScope s_check_one_sight) := ⟨rfl, rfl, rfl, by decide +kernel, rfl, by decide +kernel, by decide +kernel⟩
theorem ok_check_one_sight (Q : Fx K mg) : ∃ fd, FunD K "check_one_sight" "check_one_sight" (defArgs s_check_one_sight) (defBody s_check_one_sight) (defScope s_check_one_sight) [] [] (He.ga K "check_one_sight") fd ∧ FnOk P w K mg base (L2.CX P w) 5 (He.ga K "check_one_sight") fd ["hues", "index", "sight"] (spV (cn mg K) [false, false, false] f_check_one_sight) ∧ Bd K fd ["hues", "index", "sight"] [] ∧ True := by
  obtain ⟨fd, F⟩ := Q.d_check_one_sight
  obtain ⟨fd_are_rows, F_are_rows0, O_are_rows, B_are_rows_p3, _⟩ := ok_are_rows (P := P) (w := w) (base := base) Q
  have F_are_rows := F_are_rows0
  obtain ⟨fd_check_script, F_check_script0, O_check_scriptN, B_check_script_p2, _⟩ := ok_check_script (P := P) (w := w) (base := base) Q
  have F_check_script := F_check_script0
  have O_check_script := fnN O_check_scriptN
  obtain ⟨fx_BadSight, O_BadSight, B_BadSight⟩ := ok_BadSight (P := P) (w := w) (base := base) Q
  have X_BadSight := x_BadSight Q
  obtain ⟨fxh_BadSight, OH_BadSight, BH_BadSight⟩ := okH_BadSight (P := P) (w := w) (base := base) Q
  refine ⟨fd, F, funV F sc_check_one_sight [false, false, false] m_check_one_sight rfl (by decide) fun cdv A outer s H E hr => ?_, ⟨⟨[], .nil, F.bindsN fun _ _ _ _ _ _ us hl => match us, hl with | [_, _, _], _ => rfl⟩⟩, True.intro⟩
  exact (vss_cons (vs_if (VW.vt (vw_or (vt_not (vt_tru (v_isiT rfl Q.n_isinstance (w_var 2) ⟨⟨rfl, Q.n_list, PyProof.Rows.boot_list, by decide, by decide⟩, ⟨⟨rfl, Q.n_tuple, PyProof.Rows.boot_tuple, by decide, by decide⟩, True.intro⟩⟩))) (vw_or1 (t_ne hr (w_len rfl rfl Q.n_len (va_c (w_var 2) va_nil)) v_int)))) (vss_one (vs_raise rfl tk_def X_BadSight.oex X_BadSight.ini X_BadSight.tyI O_BadSight (hr.mono (by first | decide | omega)) B_BadSight rfl Q.g_BadSight rfl (by decide) (va_c (w_var 1) (va_c v_str va_nil)))) vss_nil)
  (vss_cons (vs_tryX rfl rfl (fun _ => psAt_def) tk_def rfl rfl Q.g_BadScript (by decide) (sub_of Q.em Q.xg2 (by decide +kernel)) (fun Wi pn xe tkN psN => (vss_one (vs_set sc_check_one_sight.nd (i := 3) rfl (by first | exact Or.inl rfl | exact Or.inr rfl) (by decide) (w_callN (dd := []) tkN hr O_check_scriptN B_check_script_p2 Q.g_check_script F_check_script.kp (va_c (w_len rfl rfl Q.n_len (va_c (w_var 0) va_nil)) (va_c (w_ix (w_var 2) v_int) va_nil)))))) (fun a oe cls d pn tkS hcS => (vss_one (vs_raiseF hcS tkS X_BadSight.oex X_BadSight.ini X_BadSight.tyI OH_BadSight (L2H.roomH_mark (hr.mono (by first | decide | omega)) _) BH_BadSight rfl Q.g_BadSight rfl (by decide) (va_c (w_var 1) (va_c v_str va_nil))))))
  (vss_cons (vs_if (vt_not (vt_tru (w_call (dd := []) tk_def hr O_are_rows B_are_rows_p3 Q.g_are_rows F_are_rows.kp (va_c (w_len rfl rfl Q.n_len (va_c (w_var 0) va_nil)) (va_c (w_add (w_len rfl rfl Q.n_len (va_c (w_var 3) va_nil)) v_int) (va_c (w_ix (w_var 2) v_int) va_nil)))))) (vss_one (vs_raise rfl tk_def X_BadSight.oex X_BadSight.ini X_BadSight.tyI O_BadSight (hr.mono (by first | decide | omega)) B_BadSight rfl Q.g_BadSight rfl (by decide) (va_c (w_var 1) (va_c v_str va_nil)))) vss_nil)
  (vss_cons (vs_set sc_check_one_sight.nd (i := 4) rfl (by first | exact Or.inl rfl | exact Or.inr rfl) (by decide) (w_tuple rfl Q.n_tuple (va_c (v_lc (own := [("row", 5)]) rfl sc_check_one_sight.nd (vi_seq rfl (w_ix (w_var 2) v_int)) (blk_ok (by kernel_rfl)) (fun _ _ _ _ _ => (vg_nm sc_check_one_sight.nd (i := 5) rfl (by first | exact Or.inl rfl | exact Or.inr rfl) (butP_no rfl))) (fun _ _ _ _ _ => vts_nil) (fun _ _ _ _ _ => (w_tuple rfl Q.n_tuple (va_c (w_var 5) va_nil)))) va_nil)))
  (vss_cons (vs_if (t_ne hr (w_ix (w_var 4) v_int) (w_var 0)) (vss_one (vs_raise rfl tk_def X_BadSight.oex X_BadSight.ini X_BadSight.tyI O_BadSight (hr.mono (by first | decide | omega)) B_BadSight rfl Q.g_BadSight rfl (by decide) (va_c (w_var 1) (va_c v_str va_nil)))) vss_nil)
  (vss_one (vs_ret (v_tup (va_c (w_var 3) (va_c (w_var 4) va_nil))))))))))
theorem sc_check_sights : FnScope ["firsts", "sights", "most", "hues", "index", "sight"] ["firsts", "sights", "most"] (defScope s_check_sights) := ⟨rfl, rfl, rfl, by decide +kernel, rfl, by decide +kernel, by decide +kernel⟩
theorem ok_check_sights (Q : Fx K mg) : ∃ fd, FunD K "check_sights" "check_sights" (defArgs s_check_sights) (defBody s_check_sights) (defScope s_check_sights) [(.int 3)] [] (He.ga K "check_sights") fd ∧ FnOk P w K mg base (L2.CX P w) 6 (He.ga K "check_sights") fd ["firsts", "sights", "most"] (spV (cn mg K) [false, false, false] f_check_sights) ∧ Bd K fd ["firsts", "sights", "most"] [(.int 3)] ∧ Bd K fd ["firsts", "sights", "most"] [] ∧ Bk K fd ["firsts", "sights", "most"] 2 ["most"] [.a 0, .a 1, .k 0] [(.int 3)] ∧ True := by
  obtain ⟨fd, F⟩ := Q.d_check_sights
  obtain ⟨fd_check_firsts, F_check_firsts0, O_check_firsts, B_check_firsts_p2, _⟩ := ok_check_firsts (P := P) (w := w) (base := base) Q
  have F_check_firsts := F_check_firsts0
  obtain ⟨fd_check_one_sight, F_check_one_sight0, O_check_one_sight, B_check_one_sight_p3, _⟩ := ok_check_one_sight (P := P) (w := w) (base := base) Q
  have F_check_one_sight := F_check_one_sight0
  obtain ⟨fx_BadSight, O_BadSight, B_BadSight⟩ := ok_BadSight (P := P) (w := w) (base := base) Q
  have X_BadSight := x_BadSight Q
  refine ⟨fd, F, funV F sc_check_sights [false, false, false] m_check_sights rfl (by decide) fun cdv A outer s H E hr => ?_, ⟨F.binds1 2 0 (fun h => by cases h) rfl fun _ _ _ _ _ _ _ us its h1 h2 => match us, its, h1, h2 with | [_, _], [_], _, _ => ⟨_, rfl, rfl⟩⟩, ⟨F.binds1 3 1 (fun h => by cases h) rfl fun _ _ _ _ _ _ _ us its h1 h2 => match us, its, h1, h2 with | [_, _, _], [_], _, _ => ⟨_, rfl, rfl⟩⟩, ⟨(kb_dflt F 2 ["most"] [.a 0, .a 1, .k 0] (fun h => by cases h) fun _ _ _ _ _ _ _ us its ws h1 h2 h3 => match us, its, ws, h1, h2, h3 with | [_, _], [_], [_], _, _, _ => ⟨_, rfl, rfl⟩).elim fun its h => ⟨_, h⟩⟩, True.intro⟩
  exact (vss_cons (vs_set sc_check_sights.nd (i := 3) rfl (by first | exact Or.inl rfl | exact Or.inr rfl) (by decide) (w_call (dd := []) tk_def hr O_check_firsts B_check_firsts_p2 Q.g_check_firsts F_check_firsts.kp (va_c v_non (va_c (w_var 0) va_nil))))
  (vss_cons (vs_if (VW.vt (vw_or (vt_not (vt_tru (v_isiT rfl Q.n_isinstance (w_var 1) ⟨⟨rfl, Q.n_list, PyProof.Rows.boot_list, by decide, by decide⟩, ⟨⟨rfl, Q.n_tuple, PyProof.Rows.boot_tuple, by decide, by decide⟩, True.intro⟩⟩))) (vw_or1 (t_gt (w_len rfl rfl Q.n_len (va_c (w_var 1) va_nil)) (w_var 2))))) (vss_one (vs_raise rfl tk_def X_BadSight.oex X_BadSight.ini X_BadSight.tyI O_BadSight (hr.mono (by first | decide | omega)) B_BadSight rfl Q.g_BadSight rfl (by decide) (va_c v_int (va_c v_str va_nil)))) vss_nil)
  (vss_one (vs_ret (w_tuple rfl Q.n_tuple (va_c (v_lcX (own := [("index", 4), ("sight", 5)]) rfl sc_check_sights.nd rfl rfl tk_def (vi_enum rfl rfl Q.n_enumerate (va_c (w_var 1) va_nil)) (blk_ok (by kernel_rfl)) (fun _ _ _ _ _ => (vg_tp rfl (vgs_cons (vg_nm sc_check_sights.nd (i := 4) rfl (by first | exact Or.inl rfl | exact Or.inr rfl) (butP_no rfl)) (vgs_cons (vg_nm sc_check_sights.nd (i := 5) rfl (by first | exact Or.inl rfl | exact Or.inr rfl) (butP_no rfl)) vgs_nil)))) (fun _ _ _ _ _ => vts_nil) (fun _ _ _ _ _ Wb pn xe tkb => (w_call (dd := []) tkb hr O_check_one_sight B_check_one_sight_p3 Q.g_check_one_sight F_check_one_sight.kp (va_c (w_var 3) (va_c (w_var 4) (va_c (w_var 5) va_nil)))))) va_nil))))))
theorem sc__law_asked : FnScope ["_law_firsts", "_law_sights", "_law_upto", "_law_found", "wrong"] ["_law_firsts", "_law_sights", "_law_upto"] (defScope s__law_asked) := ⟨rfl, rfl, rfl, by decide +kernel, rfl, by decide +kernel, by decide +kernel⟩
theorem ok__law_asked (Q : Fx K mg) : ∃ fd, FunD K "_law_asked" "_law_asked" (defArgs s__law_asked) (defBody s__law_asked) (defScope s__law_asked) [] [] (He.ga K "_law_asked") fd ∧ FnOk P w K mg base (L2.CX P w) 7 (He.ga K "_law_asked") fd ["_law_firsts", "_law_sights", "_law_upto"] (spV (cn mg K) [false, false, false] f__law_asked) ∧ Bd K fd ["_law_firsts", "_law_sights", "_law_upto"] [] ∧ True := by
  obtain ⟨fd, F⟩ := Q.d__law_asked
  obtain ⟨fd_check_sights, F_check_sights0, O_check_sights, B_check_sights_p2, B_check_sights_p3, B_check_sights_k2, _⟩ := ok_check_sights (P := P) (w := w) (base := base) Q
  have F_check_sights := F_check_sights0
  refine ⟨fd, F, funV F sc__law_asked [false, false, false] m__law_asked rfl (by decide) fun cdv A outer s H E hr => ?_, ⟨⟨[], .nil, F.bindsN fun _ _ _ _ _ _ us hl => match us, hl with | [_, _, _], _ => rfl⟩⟩, True.intro⟩
  exact (vss_cons (vs_try rfl rfl sc__law_asked.nd tk_def rfl (sub_of Q.em Q.xg2 (by decide +kernel)) (fun Wi pn xe tk ps => (vss_one (vs_set sc__law_asked.nd (i := 3) rfl (by first | exact Or.inl rfl | exact Or.inr rfl) (by decide) (v_ifE (vt_isN (w_var 2)) (w_call (dd := [(.int 3)]) tk hr O_check_sights B_check_sights_p2 Q.g_check_sights F_check_sights.kp (va_c (w_var 0) (va_c (w_var 1) va_nil))) (v_ifE (t_gt (w_var 2) v_int) (w_call (dd := []) tk hr O_check_sights B_check_sights_p3 Q.g_check_sights F_check_sights.kp (va_c (w_var 0) (va_c (w_var 1) (va_c (w_var 2) va_nil)))) (w_callK (dd := [(.int 3)]) tk hr O_check_sights B_check_sights_k2 Q.g_check_sights F_check_sights.kp (va_c (w_var 0) (va_c (w_var 1) va_nil)) (vk_cons (w_var 2) vk_nil))))))) (.named rfl Q.g_BadFirsts (by decide) (i := 4) rfl rfl (by decide) (fun _ _ _ _ _ hz hfd => (vss_one (vs_ret (v_lst (va_c v_str (va_c (v_xf (ok := ["BadFirsts"]) hz hfd (i := 4) rfl (by first | exact Or.inl rfl | exact Or.inr (Or.inl rfl) | exact Or.inr (Or.inr rfl)) (xf_of Q.xl Q.xg (by decide +kernel))) va_nil)))))) (.named rfl Q.g_BadSight (by decide) (i := 4) rfl rfl (by decide) (fun _ _ _ _ _ hz hfd => (vss_one (vs_ret (v_lst (va_c v_str (va_c (v_xf (ok := ["BadSight"]) hz hfd (i := 4) rfl (by first | exact Or.inl rfl | exact Or.inr (Or.inl rfl) | exact Or.inr (Or.inr rfl)) (xf_of Q.xl Q.xg (by decide +kernel))) (va_c (v_xf (ok := ["BadSight"]) hz hfd (i := 4) rfl (by first | exact Or.inl rfl | exact Or.inr (Or.inl rfl) | exact Or.inr (Or.inr rfl)) (xf_of Q.xl Q.xg (by decide +kernel))) va_nil))))))) (.bare rfl Q.g_HueError (by decide) (fun _ _ _ _ _ hz hfd => (vss_one (vs_ret (v_lst (va_c v_str va_nil))))) HdsV.nil))))
  (vss_one (vs_ret (w_var 3))))
theorem sc__law_bare : FnScope ["_law_thing", "_law_item"] ["_law_thing"] (defScope s__law_bare) := ⟨rfl, rfl, rfl, by decide +kernel, rfl, by decide +kernel, by decide +kernel⟩
theorem ok__law_bare (Q : Fx K mg) : ∃ fd, FunD K "_law_bare" "_law_bare" (defArgs s__law_bare) (defBody s__law_bare) (defScope s__law_bare) [] [] (He.ga K "_law_bare") fd ∧ (∀ n, FnOk P w K mg base (L2.CX P w) (0 + n + 1) (He.ga K "_law_bare") fd ["_law_thing"] (spV (cn mg K) [false] (f__law_bare n))) ∧ Bd K fd ["_law_thing"] [] ∧ True := by
  obtain ⟨fd, F⟩ := Q.d__law_bare
  have F__law_bare := F
  have B__law_bare_p1 : Bd K fd ["_law_thing"] [] := ⟨⟨[], .nil, F.bindsN fun _ _ _ _ _ _ us hl => match us, hl with | [_], _ => rfl⟩⟩
  refine ⟨fd, F, fun n => ?_, ⟨⟨[], .nil, F.bindsN fun _ _ _ _ _ _ us hl => match us, hl with | [_], _ => rfl⟩⟩, True.intro⟩
  induction n with
  | zero => exact funV F sc__law_bare [false] stuckS rfl (by decide) fun cdv A outer s H E hr => vss_stuck
  | succ n O__law_bare => exact funV F sc__law_bare [false] (m__law_bare (fun _ => f__law_bare n) n) rfl (by decide) fun cdv A outer s H E hr => (vss_one (vs_ret (v_ifE (vt_tru (v_isiT rfl Q.n_isinstance (w_var 0) ⟨⟨rfl, Q.n_list, PyProof.Rows.boot_list, by decide, by decide⟩, ⟨⟨rfl, Q.n_tuple, PyProof.Rows.boot_tuple, by decide, by decide⟩, True.intro⟩⟩)) (w_tuple rfl Q.n_tuple (va_c (v_lc (own := [("_law_item", 1)]) rfl sc__law_bare.nd (vi_seq rfl (w_var 0)) (blk_ok (by kernel_rfl)) (fun _ _ _ _ _ => (vg_nm sc__law_bare.nd (i := 1) rfl (by first | exact Or.inl rfl | exact Or.inr rfl) (butP_no rfl))) (fun _ _ _ _ _ => vts_nil) (fun _ _ _ _ _ => (w_call (dd := []) takesF hr O__law_bare B__law_bare_p1 Q.g__law_bare F__law_bare.kp (va_c (w_var 1) va_nil) (hkk := by omega)))) va_nil)) (w_var 0))))
theorem sc__law_mixed : FnScope ["_law_number_here", "_law_turn", "_law_once", "_law_twice"] ["_law_number_here", "_law_turn"] (defScope s__law_mixed) := ⟨rfl, rfl, rfl, by decide +kernel, rfl, by decide +kernel, by decide +kernel⟩
theorem ok__law_mixed (Q : Fx K mg) : ∃ fd, FunD K "_law_mixed" "_law_mixed" (defArgs s__law_mixed) (defBody s__law_mixed) (defScope s__law_mixed) [] [] (He.ga K "_law_mixed") fd ∧ FnOk P w K mg base (L2.CX P w) 1 (He.ga K "_law_mixed") fd ["_law_number_here", "_law_turn"] (spV (cn mg K) [false, false] f__law_mixed) ∧ Bd K fd ["_law_number_here", "_law_turn"] [] ∧ True := by
  obtain ⟨fd, F⟩ := Q.d__law_mixed
  refine ⟨fd, F, funV F sc__law_mixed [false, false] m__law_mixed rfl (by decide) fun cdv A outer s H E hr => ?_, ⟨⟨[], .nil, F.bindsN fun _ _ _ _ _ _ us hl => match us, hl with | [_, _], _ => rfl⟩⟩, True.intro⟩
  exact (vss_cons (vs_set sc__law_mixed.nd (i := 2) rfl (by first | exact Or.inl rfl | exact Or.inr rfl) (by decide) (w_mod (w_int rfl Q.n_int (va_c (w_add (w_add (w_mul (w_var 0) v_int) (w_mul (w_var 1) v_int)) v_int) va_nil)) v_int))
  (vss_cons (vs_set sc__law_mixed.nd (i := 3) rfl (by first | exact Or.inl rfl | exact Or.inr rfl) (by decide) (w_mod (w_int rfl Q.n_int (va_c (w_add (w_add (w_mul (w_var 2) (w_var 2)) (w_mul (w_var 1) v_int)) (w_div (w_var 2) v_int)) va_nil)) v_int))
  (vss_one (vs_ret (w_div (w_int rfl Q.n_int (va_c (w_mod (w_int rfl Q.n_int (va_c (w_add (w_mul (w_var 3) v_int) (w_div (w_var 2) v_int)) va_nil)) v_int) va_nil)) v_int)))))
theorem sc__law_take : FnScope ["_law_hand_here", "_law_many", "_law_cell", "_law_rest"] ["_law_hand_here", "_law_many"] (defScope s__law_take) := ⟨rfl, rfl, rfl, by decide +kernel, rfl, by decide +kernel, by decide +kernel⟩
theorem ok__law_take (Q : Fx K mg) : ∃ fd, FunD K "_law_take" "_law_take" (defArgs s__law_take) (defBody s__law_take) (defScope s__law_take) [] [] (He.ga K "_law_take") fd ∧ FnOk P w K mg base (L2.CX P w) 2 (He.ga K "_law_take") fd ["_law_hand_here", "_law_many"] (spV (cn mg K) [true, false] f__law_take) ∧ Bd K fd ["_law_hand_here", "_law_many"] [] ∧ True := by
  obtain ⟨fd, F⟩ := Q.d__law_take
  obtain ⟨fd__law_mixed, F__law_mixed0, O__law_mixed, B__law_mixed_p2, _⟩ := ok__law_mixed (P := P) (w := w) (base := base) Q
  have F__law_mixed := F__law_mixed0
  refine ⟨fd, F, funV F sc__law_take [true, false] m__law_take rfl (by decide) fun cdv A outer s H E hr => ?_, ⟨⟨[], .nil, F.bindsN fun _ _ _ _ _ _ us hl => match us, hl with | [_, _], _ => rfl⟩⟩, True.intro⟩
  exact (vss_cons (vs_if (VW.vt (vw_and (t_eq hr (w_ix (w_var 0) v_int) v_int) (vw_and1 (t_lt (w_ix (w_var 0) v_int) (w_len rfl rfl Q.n_len (va_c (w_ix (w_var 0) v_int) va_nil)))))) (vss_cons (vs_set sc__law_take.nd (i := 2) rfl (by first | exact Or.inl rfl | exact Or.inr rfl) (by decide) (w_ix (w_ix (w_var 0) v_int) (w_ix (w_var 0) v_int)))
  (vss_cons (vs_setI (i := 0) rfl (by first | exact Or.inl rfl | exact Or.inr (Or.inl rfl) | exact Or.inr (Or.inr rfl)) v_int (w_add (w_ix (w_var 0) v_int) v_int))
  (vss_cons (vs_if (t_lt (w_var 2) (w_pow v_int v_int)) (vss_one (vs_ret (w_mod (w_int rfl Q.n_int (va_c (w_call (dd := []) tk_def hr O__law_mixed B__law_mixed_p2 Q.g__law_mixed F__law_mixed.kp (va_c (w_mod (w_int rfl Q.n_int (va_c (w_var 2) va_nil)) v_int) (va_c (w_ix (w_var 0) v_int) va_nil))) va_nil)) (w_var 1)))) vss_nil)
  (vss_one (vs_setI (i := 0) rfl (by first | exact Or.inl rfl | exact Or.inr (Or.inl rfl) | exact Or.inr (Or.inr rfl)) v_int (w_var 2)))))) vss_nil)
  (vss_cons (vs_if (t_gt (w_ix (w_var 0) v_int) v_int) (vss_cons (vs_set sc__law_take.nd (i := 3) rfl (by first | exact Or.inl rfl | exact Or.inr rfl) (by decide) (w_ix (w_var 0) v_int))
  (vss_cons (vs_setI (i := 0) rfl (by first | exact Or.inl rfl | exact Or.inr (Or.inl rfl) | exact Or.inr (Or.inr rfl)) v_int (w_div (w_int rfl Q.n_int (va_c (w_var 3) va_nil)) (w_var 1)))
  (vss_one (vs_ret (w_mod (w_int rfl Q.n_int (va_c (w_var 3) va_nil)) (w_var 1)))))) vss_nil)
  (vss_cons (vs_setI (i := 0) rfl (by first | exact Or.inl rfl | exact Or.inr (Or.inl rfl) | exact Or.inr (Or.inr rfl)) v_int (w_mod (w_int rfl Q.n_int (va_c (w_add (w_ix (w_var 0) v_int) v_int) va_nil)) v_int))
  (vss_one (vs_ret (w_mod (w_int rfl Q.n_int (va_c (w_call (dd := []) tk_def hr O__law_mixed B__law_mixed_p2 Q.g__law_mixed F__law_mixed.kp (va_c (w_ix (w_var 0) v_int) (va_c (w_ix (w_var 0) v_int) va_nil))) va_nil)) (w_var 1)))))))
theorem sc__law_odd : FnScope ["_law_hand_here", "_law_bound", "_law_kind"] ["_law_hand_here", "_law_bound"] (defScope s__law_odd) := ⟨rfl, rfl, rfl, by decide +kernel, rfl, by decide +kernel, by decide +kernel⟩
theorem ok__law_odd (Q : Fx K mg) : ∃ fd, FunD K "_law_odd" "_law_odd" (defArgs s__law_odd) (defBody s__law_odd) (defScope s__law_odd) [] [] (He.ga K "_law_odd") fd ∧ FnOk P w K mg base (L2.CX P w) 3 (He.ga K "_law_odd") fd ["_law_hand_here", "_law_bound"] (spV (cn mg K) [true, false] f__law_odd) ∧ Bd K fd ["_law_hand_here", "_law_bound"] [] ∧ True := by
  obtain ⟨fd, F⟩ := Q.d__law_odd
  obtain ⟨fd__law_take, F__law_take0, O__law_take, B__law_take_p2, _⟩ := ok__law_take (P := P) (w := w) (base := base) Q
  have F__law_take := F__law_take0
  refine ⟨fd, F, funV F sc__law_odd [true, false] m__law_odd rfl (by decide) fun cdv A outer s H E hr => ?_, ⟨⟨[], .nil, F.bindsN fun _ _ _ _ _ _ us hl => match us, hl with | [_, _], _ => rfl⟩⟩, True.intro⟩
  exact (vss_cons (vs_set sc__law_odd.nd (i := 2) rfl (by first | exact Or.inl rfl | exact Or.inr rfl) (by decide) (w_call (dd := []) tk_def hr O__law_take B__law_take_p2 Q.g__law_take F__law_take.kp (va_c (w_var 0) (va_c v_int va_nil))))
  (vss_cons (vs_if (t_eq hr (w_var 2) v_int) (vss_one (vs_ret (w_add (w_var 1) (w_call (dd := []) tk_def hr O__law_take B__law_take_p2 Q.g__law_take F__law_take.kp (va_c (w_var 0) (va_c (w_pow v_int v_int) va_nil)))))) vss_nil)
  (vss_cons (vs_if (t_eq hr (w_var 2) v_int) (vss_one (vs_ret (w_sub (w_neg v_int) (w_call (dd := []) tk_def hr O__law_take B__law_take_p2 Q.g__law_take F__law_take.kp (va_c (w_var 0) (va_c (w_pow v_int v_int) va_nil)))))) vss_nil)
  (vss_one (vs_ret (w_ix (v_lst (va_c v_bl (va_c v_bl (va_c v_non (va_c v_str (va_c (v_tup (va_c v_int va_nil)) (va_c v_str (va_c (w_var 1) (va_c v_str va_nil))))))))) (v_ifE (t_lt (w_var 2) v_int) (w_sub (w_var 2) v_int) v_int)))))))
theorem sc__law_rid : FnScope ["_law_hand_here"] ["_law_hand_here"] (defScope s__law_rid) := ⟨rfl, rfl, rfl, by decide +kernel, rfl, by decide +kernel, by decide +kernel⟩
theorem ok__law_rid (Q : Fx K mg) : ∃ fd, FunD K "_law_rid" "_law_rid" (defArgs s__law_rid) (defBody s__law_rid) (defScope s__law_rid) [] [] (He.ga K "_law_rid") fd ∧ FnOk P w K mg base (L2.CX P w) 3 (He.ga K "_law_rid") fd ["_law_hand_here"] (spV (cn mg K) [true] f__law_rid) ∧ Bd K fd ["_law_hand_here"] [] ∧ True := by
  obtain ⟨fd, F⟩ := Q.d__law_rid
  obtain ⟨fd__law_take, F__law_take0, O__law_take, B__law_take_p2, _⟩ := ok__law_take (P := P) (w := w) (base := base) Q
  have F__law_take := F__law_take0
  refine ⟨fd, F, funV F sc__law_rid [true] m__law_rid rfl (by decide) fun cdv A outer s H E hr => ?_, ⟨⟨[], .nil, F.bindsN fun _ _ _ _ _ _ us hl => match us, hl with | [_], _ => rfl⟩⟩, True.intro⟩
  exact (vss_one (vs_ret (w_ix (v_lst (va_c v_non (va_c v_int (va_c v_str (va_c v_bl (va_c v_dict1 (va_c (w_neg v_int) va_nil))))))) (w_call (dd := []) tk_def hr O__law_take B__law_take_p2 Q.g__law_take F__law_take.kp (va_c (w_var 0) (va_c v_int va_nil))))))
theorem sc__law_begun : FnScope ["_law_hand_here", "_law_firsts", "_law_kind", "_law_at"] ["_law_hand_here", "_law_firsts"] (defScope s__law_begun) := ⟨rfl, rfl, rfl, by decide +kernel, rfl, by decide +kernel, by decide +kernel⟩
theorem ok__law_begun (Q : Fx K mg) : ∃ fd, FunD K "_law_begun" "_law_begun" (defArgs s__law_begun) (defBody s__law_begun) (defScope s__law_begun) [] [] (He.ga K "_law_begun") fd ∧ FnOk P w K mg base (L2.CX P w) 4 (He.ga K "_law_begun") fd ["_law_hand_here", "_law_firsts"] (spV (cn mg K) [true, false] f__law_begun) ∧ Bd K fd ["_law_hand_here", "_law_firsts"] [] ∧ True := by
  obtain ⟨fd, F⟩ := Q.d__law_begun
  obtain ⟨fd__law_odd, F__law_odd0, O__law_odd, B__law_odd_p2, _⟩ := ok__law_odd (P := P) (w := w) (base := base) Q
  have F__law_odd := F__law_odd0
  obtain ⟨fd__law_rid, F__law_rid0, O__law_rid, B__law_rid_p1, _⟩ := ok__law_rid (P := P) (w := w) (base := base) Q
  have F__law_rid := F__law_rid0
  obtain ⟨fd__law_take, F__law_take0, O__law_take, B__law_take_p2, _⟩ := ok__law_take (P := P) (w := w) (base := base) Q
  have F__law_take := F__law_take0
  refine ⟨fd, F, funV F sc__law_begun [true, false] m__law_begun rfl (by decide) fun cdv A outer s H E hr => ?_, ⟨⟨[], .nil, F.bindsN fun _ _ _ _ _ _ us hl => match us, hl with | [_, _], _ => rfl⟩⟩, True.intro⟩
  exact (vss_cons (vs_if (vt_tru (w_call (dd := []) tk_def hr O__law_take B__law_take_p2 Q.g__law_take F__law_take.kp (va_c (w_var 0) (va_c v_int va_nil)))) (vss_one (vs_ret (w_var 1))) vss_nil)
  (vss_cons (vs_set sc__law_begun.nd (i := 2) rfl (by first | exact Or.inl rfl | exact Or.inr rfl) (by decide) (w_call (dd := []) tk_def hr O__law_take B__law_take_p2 Q.g__law_take F__law_take.kp (va_c (w_var 0) (va_c v_int va_nil))))
  (vss_cons (vs_if (t_eq hr (w_var 2) v_int) (vss_one (vs_ret (w_call (dd := []) tk_def hr O__law_rid B__law_rid_p1 Q.g__law_rid F__law_rid.kp (va_c (w_var 0) va_nil)))) vss_nil)
  (vss_cons (vs_if (t_eq hr (w_var 2) v_int) (vss_one (vs_ret (v_lst va_nil))) vss_nil)
  (vss_cons (vs_if (t_eq hr (w_var 2) v_int) (vss_one (vs_ret (v_sl (w_rep (w_var 1) v_int) vo_none (vo_some v_int)))) vss_nil)
  (vss_cons (vs_set sc__law_begun.nd (i := 3) rfl (by first | exact Or.inl rfl | exact Or.inr rfl) (by decide) (w_call (dd := []) tk_def hr O__law_take B__law_take_p2 Q.g__law_take F__law_take.kp (va_c (w_var 0) (va_c (w_len rfl rfl Q.n_len (va_c (w_var 1) va_nil)) va_nil))))
  (vss_one (vs_ret (w_add (w_add (v_sl (w_var 1) vo_none (vo_some (w_var 3))) (v_lst (va_c (w_call (dd := []) tk_def hr O__law_odd B__law_odd_p2 Q.g__law_odd F__law_odd.kp (va_c (w_var 0) (va_c v_int va_nil))) va_nil))) (v_sl (w_var 1) (vo_some (w_add (w_var 3) v_int)) vo_none))))))))))
theorem sc__law_colour : FnScope ["_law_hand_here", "_law_kind"] ["_law_hand_here"] (defScope s__law_colour) := ⟨rfl, rfl, rfl, by decide +kernel, rfl, by decide +kernel, by decide +kernel⟩
theorem ok__law_colour (Q : Fx K mg) : ∃ fd, FunD K "_law_colour" "_law_colour" (defArgs s__law_colour) (defBody s__law_colour) (defScope s__law_colour) [] [] (He.ga K "_law_colour") fd ∧ FnOk P w K mg base (L2.CX P w) 3 (He.ga K "_law_colour") fd ["_law_hand_here"] (spV (cn mg K) [true] f__law_colour) ∧ Bd K fd ["_law_hand_here"] [] ∧ True := by
  obtain ⟨fd, F⟩ := Q.d__law_colour
  obtain ⟨fd__law_take, F__law_take0, O__law_take, B__law_take_p2, _⟩ := ok__law_take (P := P) (w := w) (base := base) Q
  have F__law_take := F__law_take0
  refine ⟨fd, F, funV F sc__law_colour [true] m__law_colour rfl (by decide) fun cdv A outer s H E hr => ?_, ⟨⟨[], .nil, F.bindsN fun _ _ _ _ _ _ us hl => match us, hl with | [_], _ => rfl⟩⟩, True.intro⟩
  exact (vss_cons (vs_set sc__law_colour.nd (i := 1) rfl (by first | exact Or.inl rfl | exact Or.inr rfl) (by decide) (w_call (dd := []) tk_def hr O__law_take B__law_take_p2 Q.g__law_take F__law_take.kp (va_c (w_var 0) (va_c v_int va_nil))))
  (vss_one (vs_ret (v_ifE (t_eq hr (w_var 1) v_int) (w_call (dd := []) tk_def hr O__law_take B__law_take_p2 Q.g__law_take F__law_take.kp (va_c (w_var 0) (va_c v_int va_nil))) (v_ifE (t_lt (w_var 1) v_int) (w_call (dd := []) tk_def hr O__law_take B__law_take_p2 Q.g__law_take F__law_take.kp (va_c (w_var 0) (va_c v_int va_nil))) (w_call (dd := []) tk_def hr O__law_take B__law_take_p2 Q.g__law_take F__law_take.kp (va_c (w_var 0) (va_c v_int va_nil))))))))
theorem sc__law_number : FnScope ["_law_thing", "_law_upto"] ["_law_thing", "_law_upto"] (defScope s__law_number) := ⟨rfl, rfl, rfl, by decide +kernel, rfl, by decide +kernel, by decide +kernel⟩
theorem ok__law_number (Q : Fx K mg) : ∃ fd, FunD K "_law_number" "_law_number" (defArgs s__law_number) (defBody s__law_number) (defScope s__law_number) [] [] (He.ga K "_law_number") fd ∧ FnOk P w K mg base (L2.CX P w) 1 (He.ga K "_law_number") fd ["_law_thing", "_law_upto"] (spV (cn mg K) [false, false] f__law_number) ∧ Bd K fd ["_law_thing", "_law_upto"] [] ∧ True := by
  obtain ⟨fd, F⟩ := Q.d__law_number
  refine ⟨fd, F, funV F sc__law_number [false, false] m__law_number rfl (by decide) fun cdv A outer s H E hr => ?_, ⟨⟨[], .nil, F.bindsN fun _ _ _ _ _ _ us hl => match us, hl with | [_, _], _ => rfl⟩⟩, True.intro⟩
  exact (vss_one (vs_ret (v_and (v_isi1 rfl Q.n_isinstance (w_var 0) ⟨⟨rfl, Q.n_int, PyProof.Rows.boot_int, by decide, by decide⟩, True.intro⟩) (v_and (w_not (v_isi1 rfl Q.n_isinstance (w_var 0) ⟨⟨rfl, Q.n_bool, PyProof.Rows.boot_bool, by decide, by decide⟩, True.intro⟩)) (v_one (v_chain op_le r_le op_le r_le v_int (w_var 0) (w_var 1)))))))
theorem sc__law_hues : FnScope ["_law_thing", "_law_many", "_law_colour_here"] ["_law_thing", "_law_many"] (defScope s__law_hues) := ⟨rfl, rfl, rfl, by decide +kernel, rfl, by decide +kernel, by decide +kernel⟩
theorem ok__law_hues (Q : Fx K mg) : ∃ fd, FunD K "_law_hues" "_law_hues" (defArgs s__law_hues) (defBody s__law_hues) (defScope s__law_hues) [] [] (He.ga K "_law_hues") fd ∧ FnOk P w K mg base (L2.CX P w) 2 (He.ga K "_law_hues") fd ["_law_thing", "_law_many"] (spV (cn mg K) [false, false] f__law_hues) ∧ Bd K fd ["_law_thing", "_law_many"] [] ∧ True := by
  obtain ⟨fd, F⟩ := Q.d__law_hues
  obtain ⟨fd__law_number, F__law_number0, O__law_number, B__law_number_p2, _⟩ := ok__law_number (P := P) (w := w) (base := base) Q
  have F__law_number := F__law_number0
  refine ⟨fd, F, funV F sc__law_hues [false, false] m__law_hues rfl (by decide) fun cdv A outer s H E hr => ?_, ⟨⟨[], .nil, F.bindsN fun _ _ _ _ _ _ us hl => match us, hl with | [_, _], _ => rfl⟩⟩, True.intro⟩
  exact (vss_cons (vs_if (VW.vt (vw_or (vt_not (vt_tru (v_isiT rfl Q.n_isinstance (w_var 0) ⟨⟨rfl, Q.n_list, PyProof.Rows.boot_list, by decide, by decide⟩, ⟨⟨rfl, Q.n_tuple, PyProof.Rows.boot_tuple, by decide, by decide⟩, True.intro⟩⟩))) (vw_or1 (t_ne hr (w_len rfl rfl Q.n_len (va_c (w_var 0) va_nil)) (w_var 1))))) (vss_one (vs_ret v_bl)) vss_nil)
  (vss_one (vs_ret (w_not (v_lc (own := [("_law_colour_here", 2)]) rfl sc__law_hues.nd (vi_seq rfl (w_var 0)) (blk_ok (by kernel_rfl)) (fun _ _ _ _ _ => (vg_nm sc__law_hues.nd (i := 2) rfl (by first | exact Or.inl rfl | exact Or.inr rfl) (butP_no rfl))) (fun _ _ _ _ _ => (vts_one (vt_not (vt_tru (w_call (dd := []) takesF hr O__law_number B__law_number_p2 Q.g__law_number F__law_number.kp (va_c (w_var 2) (va_c v_int va_nil))))))) (fun _ _ _ _ _ => v_int))))))
theorem sc__law_pours : FnScope ["_law_thing", "_law_many", "_law_pour"] ["_law_thing", "_law_many"] (defScope s__law_pours) := ⟨rfl, rfl, rfl, by decide +kernel, rfl, by decide +kernel, by decide +kernel⟩
theorem ok__law_pours (Q : Fx K mg) : ∃ fd, FunD K "_law_pours" "_law_pours" (defArgs s__law_pours) (defBody s__law_pours) (defScope s__law_pours) [] [] (He.ga K "_law_pours") fd ∧ FnOk P w K mg base (L2.CX P w) 2 (He.ga K "_law_pours") fd ["_law_thing", "_law_many"] (spV (cn mg K) [false, false] f__law_pours) ∧ Bd K fd ["_law_thing", "_law_many"] [] ∧ True := by
  obtain ⟨fd, F⟩ := Q.d__law_pours
  obtain ⟨fd__law_number, F__law_number0, O__law_number, B__law_number_p2, _⟩ := ok__law_number (P := P) (w := w) (base := base) Q
  have F__law_number := F__law_number0
  refine ⟨fd, F, funV F sc__law_pours [false, false] m__law_pours rfl (by decide) fun cdv A outer s H E hr => ?_, ⟨⟨[], .nil, F.bindsN fun _ _ _ _ _ _ us hl => match us, hl with | [_, _], _ => rfl⟩⟩, True.intro⟩
  exact (vss_cons (vs_if (VW.vt (vw_or (vt_not (vt_tru (v_isiT rfl Q.n_isinstance (w_var 0) ⟨⟨rfl, Q.n_list, PyProof.Rows.boot_list, by decide, by decide⟩, ⟨⟨rfl, Q.n_tuple, PyProof.Rows.boot_tuple, by decide, by decide⟩, True.intro⟩⟩))) (vw_or1 (t_gt (w_len rfl rfl Q.n_len (va_c (w_var 0) va_nil)) v_int)))) (vss_one (vs_ret v_bl)) vss_nil)
  (vss_cons (vs_for ps_def rfl (vi_seq rfl (w_var 0)) (vg_nm sc__law_pours.nd (i := 2) rfl (by first | exact Or.inl rfl | exact Or.inr rfl) (by decide)) (vss_cons (vs_if (VW.vt (vw_or (vt_not (vt_tru (v_isiT rfl Q.n_isinstance (w_var 2) ⟨⟨rfl, Q.n_list, PyProof.Rows.boot_list, by decide, by decide⟩, ⟨⟨rfl, Q.n_tuple, PyProof.Rows.boot_tuple, by decide, by decide⟩, True.intro⟩⟩))) (vw_or1 (t_ne hr (w_len rfl rfl Q.n_len (va_c (w_var 2) va_nil)) v_int)))) (vss_one (vs_ret v_bl)) vss_nil)
  (vss_one (vs_if (VW.vt (vw_or (vt_not (vt_tru (w_call (dd := []) tk_def hr O__law_number B__law_number_p2 Q.g__law_number F__law_number.kp (va_c (w_ix (w_var 2) v_int) (va_c (w_sub (w_var 1) v_int) va_nil))))) (vw_or1 (vt_not (vt_tru (w_call (dd := []) tk_def hr O__law_number B__law_number_p2 Q.g__law_number F__law_number.kp (va_c (w_ix (w_var 2) v_int) (va_c v_int va_nil)))))))) (vss_one (vs_ret v_bl)) vss_nil))))
  (vss_one (vs_ret v_bl))))
theorem sc__law_due : FnScope ["_law_firsts", "_law_sights", "_law_upto", "_law_at", "_law_sight", "_law_rows", "_law_row"] ["_law_firsts", "_law_sights", "_law_upto"] (defScope s__law_due) := ⟨rfl, rfl, rfl, by decide +kernel, rfl, by decide +kernel, by decide +kernel⟩
theorem ok__law_due (Q : Fx K mg) : ∃ fd, FunD K "_law_due" "_law_due" (defArgs s__law_due) (defBody s__law_due) (defScope s__law_due) [] [] (He.ga K "_law_due") fd ∧ FnOk P w K mg base (L2.CX P w) 9 (He.ga K "_law_due") fd ["_law_firsts", "_law_sights", "_law_upto"] (spV (cn mg K) [false, false, false] f__law_due) ∧ Bd K fd ["_law_firsts", "_law_sights", "_law_upto"] [] ∧ True := by
  obtain ⟨fd, F⟩ := Q.d__law_due
  obtain ⟨fd__law_bare, F__law_bare0, O__law_bare, B__law_bare_p1, _⟩ := ok__law_bare (P := P) (w := w) (base := base) Q
  have F__law_bare := F__law_bare0
  have O__law_bare := O__law_bare 7
  obtain ⟨fd__law_hues, F__law_hues0, O__law_hues, B__law_hues_p2, _⟩ := ok__law_hues (P := P) (w := w) (base := base) Q
  have F__law_hues := F__law_hues0
  obtain ⟨fd__law_number, F__law_number0, O__law_number, B__law_number_p2, _⟩ := ok__law_number (P := P) (w := w) (base := base) Q
  have F__law_number := F__law_number0
  obtain ⟨fd__law_pours, F__law_pours0, O__law_pours, B__law_pours_p2, _⟩ := ok__law_pours (P := P) (w := w) (base := base) Q
  have F__law_pours := F__law_pours0
  refine ⟨fd, F, funV F sc__law_due [false, false, false] m__law_due rfl (by decide) fun cdv A outer s H E hr => ?_, ⟨⟨[], .nil, F.bindsN fun _ _ _ _ _ _ us hl => match us, hl with | [_, _, _], _ => rfl⟩⟩, True.intro⟩
  exact (vss_cons (vs_if (VW.vt (vw_or (vt_not (vt_tru (v_isiT rfl Q.n_isinstance (w_var 0) ⟨⟨rfl, Q.n_list, PyProof.Rows.boot_list, by decide, by decide⟩, ⟨⟨rfl, Q.n_tuple, PyProof.Rows.boot_tuple, by decide, by decide⟩, True.intro⟩⟩))) (vw_or1 (vt_not (vt_chain op_le r_le op_le r_le v_int (w_len rfl rfl Q.n_len (va_c (w_var 0) va_nil)) v_int))))) (vss_one (vs_ret (v_lst (va_c v_str (va_c v_int va_nil))))) vss_nil)
  (vss_cons (vs_for ps_def rfl (vi_rng1 rfl Q.n_range (va_c (w_len rfl rfl Q.n_len (va_c (w_var 0) va_nil)) va_nil)) (vg_nm sc__law_due.nd (i := 3) rfl (by first | exact Or.inl rfl | exact Or.inr rfl) (by decide)) (vss_one (vs_if (vt_not (vt_tru (w_call (dd := []) tk_def hr O__law_number B__law_number_p2 Q.g__law_number F__law_number.kp (va_c (w_ix (w_var 0) (w_var 3)) (va_c v_int va_nil))))) (vss_one (vs_ret (v_lst (va_c v_str (va_c (w_var 3) va_nil))))) vss_nil)))
  (vss_cons (vs_if (VW.vt (vw_or (vt_not (vt_tru (v_isiT rfl Q.n_isinstance (w_var 1) ⟨⟨rfl, Q.n_list, PyProof.Rows.boot_list, by decide, by decide⟩, ⟨⟨rfl, Q.n_tuple, PyProof.Rows.boot_tuple, by decide, by decide⟩, True.intro⟩⟩))) (vw_or1 (t_gt (w_len rfl rfl Q.n_len (va_c (w_var 1) va_nil)) (w_var 2))))) (vss_one (vs_ret (v_lst (va_c v_str (va_c v_int (va_c v_str va_nil)))))) vss_nil)
  (vss_cons (vs_for ps_def rfl (vi_rng1 rfl Q.n_range (va_c (w_len rfl rfl Q.n_len (va_c (w_var 1) va_nil)) va_nil)) (vg_nm sc__law_due.nd (i := 3) rfl (by first | exact Or.inl rfl | exact Or.inr rfl) (by decide)) (vss_cons (vs_set sc__law_due.nd (i := 4) rfl (by first | exact Or.inl rfl | exact Or.inr rfl) (by decide) (w_ix (w_var 1) (w_var 3)))
  (vss_cons (vs_if (VW.vt (vw_or (vt_not (vt_tru (v_isiT rfl Q.n_isinstance (w_var 4) ⟨⟨rfl, Q.n_list, PyProof.Rows.boot_list, by decide, by decide⟩, ⟨⟨rfl, Q.n_tuple, PyProof.Rows.boot_tuple, by decide, by decide⟩, True.intro⟩⟩))) (vw_or1 (t_ne hr (w_len rfl rfl Q.n_len (va_c (w_var 4) va_nil)) v_int)))) (vss_one (vs_ret (v_lst (va_c v_str (va_c (w_var 3) (va_c v_str va_nil)))))) vss_nil)
  (vss_cons (vs_if (vt_not (vt_tru (w_call (dd := []) tk_def hr O__law_pours B__law_pours_p2 Q.g__law_pours F__law_pours.kp (va_c (w_ix (w_var 4) v_int) (va_c (w_len rfl rfl Q.n_len (va_c (w_var 0) va_nil)) va_nil))))) (vss_one (vs_ret (v_lst (va_c v_str (va_c (w_var 3) (va_c v_str va_nil)))))) vss_nil)
  (vss_cons (vs_set sc__law_due.nd (i := 5) rfl (by first | exact Or.inl rfl | exact Or.inr rfl) (by decide) (w_ix (w_var 4) v_int))
  (vss_cons (vs_if (VW.vt (vw_or (vt_not (vt_tru (v_isiT rfl Q.n_isinstance (w_var 5) ⟨⟨rfl, Q.n_list, PyProof.Rows.boot_list, by decide, by decide⟩, ⟨⟨rfl, Q.n_tuple, PyProof.Rows.boot_tuple, by decide, by decide⟩, True.intro⟩⟩))) (vw_or1 (t_ne hr (w_len rfl rfl Q.n_len (va_c (w_var 5) va_nil)) (w_add (w_len rfl rfl Q.n_len (va_c (w_ix (w_var 4) v_int) va_nil)) v_int))))) (vss_one (vs_ret (v_lst (va_c v_str (va_c (w_var 3) (va_c v_str va_nil)))))) vss_nil)
  (vss_cons (vs_if (vt_tru (v_lc (own := [("_law_row", 6)]) rfl sc__law_due.nd (vi_seq rfl (w_var 5)) (blk_ok (by kernel_rfl)) (fun _ _ _ _ _ => (vg_nm sc__law_due.nd (i := 6) rfl (by first | exact Or.inl rfl | exact Or.inr rfl) (butP_no rfl))) (fun _ _ _ _ _ => (vts_one (vt_not (vt_tru (w_call (dd := []) takesF hr O__law_hues B__law_hues_p2 Q.g__law_hues F__law_hues.kp (va_c (w_var 6) (va_c (w_len rfl rfl Q.n_len (va_c (w_var 0) va_nil)) va_nil))))))) (fun _ _ _ _ _ => v_int))) (vss_one (vs_ret (v_lst (va_c v_str (va_c (w_var 3) (va_c v_str va_nil)))))) vss_nil)
  (vss_one (vs_if (t_ne hr (w_tuple rfl Q.n_tuple (va_c (w_ix (w_var 5) v_int) va_nil)) (w_tuple rfl Q.n_tuple (va_c (w_var 0) va_nil))) (vss_one (vs_ret (v_lst (va_c v_str (va_c (w_var 3) (va_c v_str va_nil)))))) vss_nil)))))))))
  (vss_one (vs_ret (w_call (dd := []) tk_def hr O__law_bare B__law_bare_p1 Q.g__law_bare F__law_bare.kp (va_c (w_var 1) va_nil))))))))
theorem sc__law_hand : FnScope ["_law_script", "_law_total", "_law_cells", "_law_cell"] ["_law_script"] (defScope s__law_hand) := ⟨rfl, rfl, rfl, by decide +kernel, rfl, by decide +kernel, by decide +kernel⟩
theorem ok__law_hand (Q : Fx K mg) : ∃ fd, FunD K "_law_hand" "_law_hand" (defArgs s__law_hand) (defBody s__law_hand) (defScope s__law_hand) [] [] (He.ga K "_law_hand") fd ∧ FnOk P w K mg base (L2.CX P w) 1 (He.ga K "_law_hand") fd ["_law_script"] (spV (cn mg K) [false] f__law_hand) ∧ Bd K fd ["_law_script"] [] ∧ True := by
  obtain ⟨fd, F⟩ := Q.d__law_hand
  refine ⟨fd, F, funV F sc__law_hand [false] m__law_hand rfl (by decide) fun cdv A outer s H E hr => ?_, ⟨⟨[], .nil, F.bindsN fun _ _ _ _ _ _ us hl => match us, hl with | [_], _ => rfl⟩⟩, True.intro⟩
  exact (vss_cons (vs_set sc__law_hand.nd (i := 1) rfl (by first | exact Or.inl rfl | exact Or.inr rfl) (by decide) (w_add (w_len rfl rfl Q.n_len (va_c (w_var 0) va_nil)) v_int))
  (vss_cons (vs_set sc__law_hand.nd (i := 2) rfl (by first | exact Or.inl rfl | exact Or.inr rfl) (by decide) (v_lst va_nil))
  (vss_cons (vs_for ps_def rfl (vi_seq rfl (w_var 0)) (vg_nm sc__law_hand.nd (i := 3) rfl (by first | exact Or.inl rfl | exact Or.inr rfl) (by decide)) (vss_cons (vs_set sc__law_hand.nd (i := 1) rfl (by first | exact Or.inl rfl | exact Or.inr rfl) (by decide) (w_mod (w_int rfl Q.n_int (va_c (w_add (w_mul (w_var 1) v_int) (w_int rfl Q.n_int (va_c (w_var 3) va_nil))) va_nil)) v_int))
  (vss_one (vs_expr (w_append 2 (va_c (w_abs rfl Q.n_abs (va_c (w_int rfl Q.n_int (va_c (w_var 3) va_nil)) va_nil)) va_nil))))))
  (vss_one (vs_ret (v_lst (va_c (w_var 2) (va_c v_int (va_c v_int (va_c (w_var 1) va_nil))))))))))
theorem sc__law_lists : FnScope ["_law_hand_here", "_law_thing", "_law_out", "_law_item"] ["_law_hand_here", "_law_thing"] (defScope s__law_lists) := ⟨rfl, rfl, rfl, by decide +kernel, rfl, by decide +kernel, by decide +kernel⟩
theorem ok__law_lists (Q : Fx K mg) : ∃ fd, FunD K "_law_lists" "_law_lists" (defArgs s__law_lists) (defBody s__law_lists) (defScope s__law_lists) [] [] (He.ga K "_law_lists") fd ∧ (∀ n, FnOk P w K mg base (L2.CX P w) (2 + n + 1) (He.ga K "_law_lists") fd ["_law_hand_here", "_law_thing"] (spV (cn mg K) [true, false] (f__law_lists n))) ∧ Bd K fd ["_law_hand_here", "_law_thing"] [] ∧ True := by
  obtain ⟨fd, F⟩ := Q.d__law_lists
  obtain ⟨fd__law_take, F__law_take0, O__law_take, B__law_take_p2, _⟩ := ok__law_take (P := P) (w := w) (base := base) Q
  have F__law_take := F__law_take0
  have F__law_lists := F
  have B__law_lists_p2 : Bd K fd ["_law_hand_here", "_law_thing"] [] := ⟨⟨[], .nil, F.bindsN fun _ _ _ _ _ _ us hl => match us, hl with | [_, _], _ => rfl⟩⟩
  refine ⟨fd, F, fun n => ?_, ⟨⟨[], .nil, F.bindsN fun _ _ _ _ _ _ us hl => match us, hl with | [_, _], _ => rfl⟩⟩, True.intro⟩
  induction n with
  | zero => exact funV F sc__law_lists [true, false] stuckS rfl (by decide) fun cdv A outer s H E hr => vss_stuck
  | succ n O__law_lists => exact funV F sc__law_lists [true, false] (m__law_lists (fun _ => f__law_lists n) n) rfl (by decide) fun cdv A outer s H E hr => (vss_cons (vs_if (vt_not (vt_tru (v_isiT rfl Q.n_isinstance (w_var 1) ⟨⟨rfl, Q.n_list, PyProof.Rows.boot_list, by decide, by decide⟩, ⟨⟨rfl, Q.n_tuple, PyProof.Rows.boot_tuple, by decide, by decide⟩, True.intro⟩⟩))) (vss_one (vs_ret (w_var 1))) vss_nil)
  (vss_cons (vs_set sc__law_lists.nd (i := 2) rfl (by first | exact Or.inl rfl | exact Or.inr rfl) (by decide) (v_ifE (t_lt (w_len rfl rfl Q.n_len (va_c (w_var 1) va_nil)) v_int) (v_lc (own := [("_law_item", 3)]) rfl sc__law_lists.nd (vi_seq rfl (w_var 1)) (blk_ok (by kernel_rfl)) (fun _ _ _ _ _ => (vg_nm sc__law_lists.nd (i := 3) rfl (by first | exact Or.inl rfl | exact Or.inr rfl) (butP_no rfl))) (fun _ _ _ _ _ => vts_nil) (fun _ _ _ _ _ => (w_call (dd := []) takesF hr O__law_lists B__law_lists_p2 Q.g__law_lists F__law_lists.kp (va_c (w_var 0) (va_c (w_var 3) va_nil)) (hkk := by omega)))) (w_list rfl Q.n_list (va_c (w_var 1) va_nil))))
  (vss_one (vs_ret (v_ifE (vt_tru (w_call (dd := []) tk_def hr O__law_take B__law_take_p2 Q.g__law_take F__law_take.kp (va_c (w_var 0) (va_c v_int va_nil)) (hkk := by omega))) (w_varZ 2) (w_tuple rfl Q.n_tuple (va_c (w_varZ 2) va_nil)))))))
theorem sc__law_tuples : FnScope ["_law_thing", "_law_item"] ["_law_thing"] (defScope s__law_tuples) := ⟨rfl, rfl, rfl, by decide +kernel, rfl, by decide +kernel, by decide +kernel⟩
theorem ok__law_tuples (Q : Fx K mg) : ∃ fd, FunD K "_law_tuples" "_law_tuples" (defArgs s__law_tuples) (defBody s__law_tuples) (defScope s__law_tuples) [] [] (He.ga K "_law_tuples") fd ∧ (∀ n, FnOk P w K mg base (L2.CX P w) (0 + n + 1) (He.ga K "_law_tuples") fd ["_law_thing"] (spV (cn mg K) [false] (f__law_tuples n))) ∧ Bd K fd ["_law_thing"] [] ∧ True := by
  obtain ⟨fd, F⟩ := Q.d__law_tuples
  have F__law_tuples := F
  have B__law_tuples_p1 : Bd K fd ["_law_thing"] [] := ⟨⟨[], .nil, F.bindsN fun _ _ _ _ _ _ us hl => match us, hl with | [_], _ => rfl⟩⟩
  refine ⟨fd, F, fun n => ?_, ⟨⟨[], .nil, F.bindsN fun _ _ _ _ _ _ us hl => match us, hl with | [_], _ => rfl⟩⟩, True.intro⟩
  induction n with
  | zero => exact funV F sc__law_tuples [false] stuckS rfl (by decide) fun cdv A outer s H E hr => vss_stuck
  | succ n O__law_tuples => exact funV F sc__law_tuples [false] (m__law_tuples (fun _ => f__law_tuples n) n) rfl (by decide) fun cdv A outer s H E hr => (vss_cons (vs_if (vt_tru (v_isi1 rfl Q.n_isinstance (w_var 0) ⟨⟨rfl, Q.n_tuple, PyProof.Rows.boot_tuple, by decide, by decide⟩, True.intro⟩)) (vss_one (vs_ret (w_not (v_lc (own := [("_law_item", 1)]) rfl sc__law_tuples.nd (vi_seq rfl (w_var 0)) (blk_ok (by kernel_rfl)) (fun _ _ _ _ _ => (vg_nm sc__law_tuples.nd (i := 1) rfl (by first | exact Or.inl rfl | exact Or.inr rfl) (butP_no rfl))) (fun _ _ _ _ _ => (vts_one (vt_not (vt_tru (w_call (dd := []) takesF hr O__law_tuples B__law_tuples_p1 Q.g__law_tuples F__law_tuples.kp (va_c (w_var 1) va_nil) (hkk := by omega)))))) (fun _ _ _ _ _ => v_int))))) vss_nil)
  (vss_one (vs_ret (v_or (v_isN (w_var 0)) (v_one (v_and (v_isi1 rfl Q.n_isinstance (w_var 0) ⟨⟨rfl, Q.n_int, PyProof.Rows.boot_int, by decide, by decide⟩, True.intro⟩) (v_one (w_not (v_isi1 rfl Q.n_isinstance (w_var 0) ⟨⟨rfl, Q.n_bool, PyProof.Rows.boot_bool, by decide, by decide⟩, True.intro⟩)))))))))
theorem sc__law_cracked : FnScope ["_law_hand_here", "_law_script", "_law_many", "_law_kind", "_law_out", "_law_at", "_law_pour", "_law_turn"] ["_law_hand_here", "_law_script", "_law_many"] (defScope s__law_cracked) := ⟨rfl, rfl, rfl, by decide +kernel, rfl, by decide +kernel, by decide +kernel⟩
theorem ok__law_cracked (Q : Fx K mg) : ∃ fd, FunD K "_law_cracked" "_law_cracked" (defArgs s__law_cracked) (defBody s__law_cracked) (defScope s__law_cracked) [] [] (He.ga K "_law_cracked") fd ∧ FnOk P w K mg base (L2.CX P w) 4 (He.ga K "_law_cracked") fd ["_law_hand_here", "_law_script", "_law_many"] (spV (cn mg K) [true, false, false] f__law_cracked) ∧ Bd K fd ["_law_hand_here", "_law_script", "_law_many"] [] ∧ True := by
  obtain ⟨fd, F⟩ := Q.d__law_cracked
  obtain ⟨fd__law_odd, F__law_odd0, O__law_odd, B__law_odd_p2, _⟩ := ok__law_odd (P := P) (w := w) (base := base) Q
  have F__law_odd := F__law_odd0
  obtain ⟨fd__law_rid, F__law_rid0, O__law_rid, B__law_rid_p1, _⟩ := ok__law_rid (P := P) (w := w) (base := base) Q
  have F__law_rid := F__law_rid0
  obtain ⟨fd__law_take, F__law_take0, O__law_take, B__law_take_p2, _⟩ := ok__law_take (P := P) (w := w) (base := base) Q
  have F__law_take := F__law_take0
  refine ⟨fd, F, funV F sc__law_cracked [true, false, false] m__law_cracked rfl (by decide) fun cdv A outer s H E hr => ?_, ⟨⟨[], .nil, F.bindsN fun _ _ _ _ _ _ us hl => match us, hl with | [_, _, _], _ => rfl⟩⟩, True.intro⟩
  exact (vss_cons (vs_set sc__law_cracked.nd (i := 3) rfl (by first | exact Or.inl rfl | exact Or.inr rfl) (by decide) (w_call (dd := []) tk_def hr O__law_take B__law_take_p2 Q.g__law_take F__law_take.kp (va_c (w_var 0) (va_c v_int va_nil))))
  (vss_cons (by first | exact vs_setLc (own := [("_law_pour", 6)]) rfl sc__law_cracked.nd (i := 4) rfl rfl (by decide) rfl (vi_seq rfl (w_var 1)) (blk_ok (by kernel_rfl)) (fun _ _ _ _ _ => (vg_nm sc__law_cracked.nd (i := 6) rfl (by first | exact Or.inl rfl | exact Or.inr rfl) (butP_no rfl))) (fun _ _ _ _ _ => vts_nil) (fun _ _ _ _ _ => (w_list rfl Q.n_list (va_c (w_var 6) va_nil))) | exact vs_set sc__law_cracked.nd (i := 4) rfl (by first | exact Or.inl rfl | exact Or.inr rfl) (by decide) (v_lc (own := [("_law_pour", 6)]) rfl sc__law_cracked.nd (vi_seq rfl (w_var 1)) (blk_ok (by kernel_rfl)) (fun _ _ _ _ _ => (vg_nm sc__law_cracked.nd (i := 6) rfl (by first | exact Or.inl rfl | exact Or.inr rfl) (butP_no rfl))) (fun _ _ _ _ _ => vts_nil) (fun _ _ _ _ _ => (w_list rfl Q.n_list (va_c (w_var 6) va_nil)))))
  (vss_cons (vs_if (t_eq hr (w_var 3) v_int) (vss_one (vs_ret (w_call (dd := []) tk_def hr O__law_rid B__law_rid_p1 Q.g__law_rid F__law_rid.kp (va_c (w_var 0) va_nil)))) vss_nil)
  (vss_cons (vs_if (VW.vt (vw_or (t_eq hr (w_var 3) v_int) (vw_or1 (vt_not (vt_tru (w_var 4)))))) (vss_one (vs_ret (w_add (w_varZ 4) (v_lc (own := [("_law_turn", 7)]) rfl sc__law_cracked.nd (vi_rng1 rfl Q.n_range (va_c (w_sub v_int (w_len rfl rfl Q.n_len (va_c (w_var 4) va_nil))) va_nil)) (blk_ok (by kernel_rfl)) (fun _ _ _ _ _ => (vg_nm sc__law_cracked.nd (i := 7) rfl (by first | exact Or.inl rfl | exact Or.inr rfl) (butP_no rfl))) (fun _ _ _ _ _ => vts_nil) (fun _ _ _ _ _ => (v_lst (va_c v_int (va_c v_int va_nil)))))))) vss_nil)
  (vss_cons (vs_set sc__law_cracked.nd (i := 5) rfl (by first | exact Or.inl rfl | exact Or.inr rfl) (by decide) (w_call (dd := []) tk_def hr O__law_take B__law_take_p2 Q.g__law_take F__law_take.kp (va_c (w_var 0) (va_c (w_len rfl rfl Q.n_len (va_c (w_var 4) va_nil)) va_nil))))
  (vss_cons (vs_if (t_eq hr (w_var 3) v_int) (vss_one (vs_setII (i := 4) rfl (by first | exact Or.inl rfl | exact Or.inr (Or.inl rfl) | exact Or.inr (Or.inr rfl)) (w_var 5) ke_int (w_call (dd := []) tk_def hr O__law_odd B__law_odd_p2 Q.g__law_odd F__law_odd.kp (va_c (w_var 0) (va_c (w_var 2) va_nil))))) (vss_one (vs_if (t_eq hr (w_var 3) v_int) (vss_one (vs_setII (i := 4) rfl (by first | exact Or.inl rfl | exact Or.inr (Or.inl rfl) | exact Or.inr (Or.inr rfl)) (w_var 5) ke_int (w_call (dd := []) tk_def hr O__law_odd B__law_odd_p2 Q.g__law_odd F__law_odd.kp (va_c (w_var 0) (va_c v_int va_nil))))) (vss_one (vs_setI (i := 4) rfl (by first | exact Or.inl rfl | exact Or.inr (Or.inl rfl) | exact Or.inr (Or.inr rfl)) (w_var 5) (w_ixF (v_lst (va_c (w_call (dd := []) tk_def hr O__law_rid B__law_rid_p1 Q.g__law_rid F__law_rid.kp (va_c (w_var 0) va_nil)) (va_c (v_lst (va_c (w_ix (w_ix (w_varZ 4) (w_var 5)) v_int) va_nil)) (va_c (w_add (w_ix (w_varZ 4) (w_var 5)) (v_lst (va_c v_int va_nil))) va_nil)))) (w_call (dd := []) tk_def hr O__law_take B__law_take_p2 Q.g__law_take F__law_take.kp (va_c (w_var 0) (va_c v_int va_nil)))))))))
  (vss_one (vs_ret (w_var 4)))))))))
theorem sc__law_torn : FnScope ["_law_hand_here", "_law_rows", "_law_kind", "_law_out", "_law_at", "_law_row"] ["_law_hand_here", "_law_rows"] (defScope s__law_torn) := ⟨rfl, rfl, rfl, by decide +kernel, rfl, by decide +kernel, by decide +kernel⟩
theorem ok__law_torn (Q : Fx K mg) : ∃ fd, FunD K "_law_torn" "_law_torn" (defArgs s__law_torn) (defBody s__law_torn) (defScope s__law_torn) [] [] (He.ga K "_law_torn") fd ∧ FnOk P w K mg base (L2.CX P w) 4 (He.ga K "_law_torn") fd ["_law_hand_here", "_law_rows"] (spV (cn mg K) [true, false] f__law_torn) ∧ Bd K fd ["_law_hand_here", "_law_rows"] [] ∧ True := by
  obtain ⟨fd, F⟩ := Q.d__law_torn
  obtain ⟨fd__law_odd, F__law_odd0, O__law_odd, B__law_odd_p2, _⟩ := ok__law_odd (P := P) (w := w) (base := base) Q
  have F__law_odd := F__law_odd0
  obtain ⟨fd__law_rid, F__law_rid0, O__law_rid, B__law_rid_p1, _⟩ := ok__law_rid (P := P) (w := w) (base := base) Q
  have F__law_rid := F__law_rid0
  obtain ⟨fd__law_take, F__law_take0, O__law_take, B__law_take_p2, _⟩ := ok__law_take (P := P) (w := w) (base := base) Q
  have F__law_take := F__law_take0
  refine ⟨fd, F, funV F sc__law_torn [true, false] m__law_torn rfl (by decide) fun cdv A outer s H E hr => ?_, ⟨⟨[], .nil, F.bindsN fun _ _ _ _ _ _ us hl => match us, hl with | [_, _], _ => rfl⟩⟩, True.intro⟩
  exact (vss_cons (vs_set sc__law_torn.nd (i := 2) rfl (by first | exact Or.inl rfl | exact Or.inr rfl) (by decide) (w_call (dd := []) tk_def hr O__law_take B__law_take_p2 Q.g__law_take F__law_take.kp (va_c (w_var 0) (va_c v_int va_nil))))
  (vss_cons (by first | exact vs_setLc (own := [("_law_row", 5)]) rfl sc__law_torn.nd (i := 3) rfl rfl (by decide) rfl (vi_seq rfl (w_var 1)) (blk_ok (by kernel_rfl)) (fun _ _ _ _ _ => (vg_nm sc__law_torn.nd (i := 5) rfl (by first | exact Or.inl rfl | exact Or.inr rfl) (butP_no rfl))) (fun _ _ _ _ _ => vts_nil) (fun _ _ _ _ _ => (w_list rfl Q.n_list (va_c (w_var 5) va_nil))) | exact vs_set sc__law_torn.nd (i := 3) rfl (by first | exact Or.inl rfl | exact Or.inr rfl) (by decide) (v_lc (own := [("_law_row", 5)]) rfl sc__law_torn.nd (vi_seq rfl (w_var 1)) (blk_ok (by kernel_rfl)) (fun _ _ _ _ _ => (vg_nm sc__law_torn.nd (i := 5) rfl (by first | exact Or.inl rfl | exact Or.inr rfl) (butP_no rfl))) (fun _ _ _ _ _ => vts_nil) (fun _ _ _ _ _ => (w_list rfl Q.n_list (va_c (w_var 5) va_nil)))))
  (vss_cons (vs_set sc__law_torn.nd (i := 4) rfl (by first | exact Or.inl rfl | exact Or.inr rfl) (by decide) (w_call (dd := []) tk_def hr O__law_take B__law_take_p2 Q.g__law_take F__law_take.kp (va_c (w_var 0) (va_c (w_len rfl rfl Q.n_len (va_c (w_var 3) va_nil)) va_nil))))
  (vss_cons (vs_if (t_eq hr (w_var 2) v_int) (vss_one (vs_ret (w_call (dd := []) tk_def hr O__law_rid B__law_rid_p1 Q.g__law_rid F__law_rid.kp (va_c (w_var 0) va_nil)))) vss_nil)
  (vss_cons (vs_if (t_eq hr (w_var 2) v_int) (vss_one (vs_ret (v_sl (w_varZ 3) vo_none (vo_some (w_sub (w_len rfl rfl Q.n_len (va_c (w_var 3) va_nil)) v_int))))) vss_nil)
  (vss_cons (vs_if (t_eq hr (w_var 2) v_int) (vss_one (vs_ret (w_add (w_varZ 3) (v_lst (va_c (w_ix (w_varZ 3) (w_var 4)) va_nil))))) vss_nil)
  (vss_cons (vs_if (t_eq hr (w_var 2) v_int) (vss_one (vs_setI (i := 3) rfl (by first | exact Or.inl rfl | exact Or.inr (Or.inl rfl) | exact Or.inr (Or.inr rfl)) (w_var 4) (w_call (dd := []) tk_def hr O__law_rid B__law_rid_p1 Q.g__law_rid F__law_rid.kp (va_c (w_var 0) va_nil)))) (vss_one (vs_if (t_eq hr (w_var 2) v_int) (vss_one (vs_setI (i := 3) rfl (by first | exact Or.inl rfl | exact Or.inr (Or.inl rfl) | exact Or.inr (Or.inr rfl)) (w_var 4) (v_ifE (vt_tru (w_call (dd := []) tk_def hr O__law_take B__law_take_p2 Q.g__law_take F__law_take.kp (va_c (w_var 0) (va_c v_int va_nil)))) (w_add (w_ix (w_varZ 3) (w_var 4)) (v_lst (va_c v_int va_nil))) (v_sl (w_ix (w_varZ 3) (w_var 4)) (vo_some v_int) vo_none)))) (vss_one (vs_setII (i := 3) rfl (by first | exact Or.inl rfl | exact Or.inr (Or.inl rfl) | exact Or.inr (Or.inr rfl)) (w_var 4) (ke_call (dd := []) tk_def hr O__law_take B__law_take_p2 Q.g__law_take F__law_take.kp (ka_cons (ke_var 0) (ka_cons (ke_lenIx rfl rfl Q.n_len (ke_var 3) (ke_var 4)) ka_nil))) (w_call (dd := []) tk_def hr O__law_odd B__law_odd_p2 Q.g__law_odd F__law_odd.kp (va_c (w_var 0) (va_c v_int va_nil))))))))
  (vss_one (vs_ret (w_var 3))))))))))
theorem sc__law_wrong : FnScope ["_law_hand_here", "_law_sight", "_law_many", "_law_kind", "_law_first", "_law_at"] ["_law_hand_here", "_law_sight", "_law_many"] (defScope s__law_wrong) := ⟨rfl, rfl, rfl, by decide +kernel, rfl, by decide +kernel, by decide +kernel⟩
theorem ok__law_wrong (Q : Fx K mg) : ∃ fd, FunD K "_law_wrong" "_law_wrong" (defArgs s__law_wrong) (defBody s__law_wrong) (defScope s__law_wrong) [] [] (He.ga K "_law_wrong") fd ∧ FnOk P w K mg base (L2.CX P w) 5 (He.ga K "_law_wrong") fd ["_law_hand_here", "_law_sight", "_law_many"] (spV (cn mg K) [true, false, false] f__law_wrong) ∧ Bd K fd ["_law_hand_here", "_law_sight", "_law_many"] [] ∧ True := by
  obtain ⟨fd, F⟩ := Q.d__law_wrong
  obtain ⟨fd__law_cracked, F__law_cracked0, O__law_cracked, B__law_cracked_p3, _⟩ := ok__law_cracked (P := P) (w := w) (base := base) Q
  have F__law_cracked := F__law_cracked0
  obtain ⟨fd__law_rid, F__law_rid0, O__law_rid, B__law_rid_p1, _⟩ := ok__law_rid (P := P) (w := w) (base := base) Q
  have F__law_rid := F__law_rid0
  obtain ⟨fd__law_take, F__law_take0, O__law_take, B__law_take_p2, _⟩ := ok__law_take (P := P) (w := w) (base := base) Q
  have F__law_take := F__law_take0
  obtain ⟨fd__law_torn, F__law_torn0, O__law_torn, B__law_torn_p2, _⟩ := ok__law_torn (P := P) (w := w) (base := base) Q
  have F__law_torn := F__law_torn0
  refine ⟨fd, F, funV F sc__law_wrong [true, false, false] m__law_wrong rfl (by decide) fun cdv A outer s H E hr => ?_, ⟨⟨[], .nil, F.bindsN fun _ _ _ _ _ _ us hl => match us, hl with | [_, _, _], _ => rfl⟩⟩, True.intro⟩
  exact (vss_cons (vs_set sc__law_wrong.nd (i := 3) rfl (by first | exact Or.inl rfl | exact Or.inr rfl) (by decide) (w_call (dd := []) tk_def hr O__law_take B__law_take_p2 Q.g__law_take F__law_take.kp (va_c (w_var 0) (va_c v_int va_nil))))
  (vss_cons (vs_if (t_eq hr (w_var 3) v_int) (vss_one (vs_ret (w_ixF (v_lst (va_c (w_call (dd := []) tk_def hr O__law_rid B__law_rid_p1 Q.g__law_rid F__law_rid.kp (va_c (w_var 0) va_nil)) (va_c (v_lst (va_c (w_ix (w_var 1) v_int) va_nil)) (va_c (w_add (w_list rfl Q.n_list (va_c (w_var 1) va_nil)) (v_lst (va_c v_int va_nil))) va_nil)))) (w_call (dd := []) tk_def hr O__law_take B__law_take_p2 Q.g__law_take F__law_take.kp (va_c (w_var 0) (va_c v_int va_nil)))))) vss_nil)
  (vss_cons (vs_if (t_eq hr (w_var 3) v_int) (vss_one (vs_ret (v_lst (va_c (w_call (dd := []) tk_def hr O__law_cracked B__law_cracked_p3 Q.g__law_cracked F__law_cracked.kp (va_c (w_var 0) (va_c (w_ix (w_var 1) v_int) (va_c (w_var 2) va_nil)))) (va_c (w_ix (w_var 1) v_int) va_nil))))) vss_nil)
  (vss_cons (vs_if (t_eq hr (w_var 3) v_int) (vss_one (vs_ret (v_lst (va_c (w_ix (w_var 1) v_int) (va_c (w_call (dd := []) tk_def hr O__law_torn B__law_torn_p2 Q.g__law_torn F__law_torn.kp (va_c (w_var 0) (va_c (w_ix (w_var 1) v_int) va_nil))) va_nil))))) vss_nil)
  (vss_cons (vs_if (t_eq hr (w_var 3) v_int) (vss_cons (vs_set sc__law_wrong.nd (i := 4) rfl (by first | exact Or.inl rfl | exact Or.inr rfl) (by decide) (w_list rfl Q.n_list (va_c (w_ix (w_ix (w_var 1) v_int) v_int) va_nil)))
  (vss_cons (vs_set sc__law_wrong.nd (i := 5) rfl (by first | exact Or.inl rfl | exact Or.inr rfl) (by decide) (w_call (dd := []) tk_def hr O__law_take B__law_take_p2 Q.g__law_take F__law_take.kp (va_c (w_var 0) (va_c (w_var 2) va_nil))))
  (vss_cons (vs_setI (i := 4) rfl (by first | exact Or.inl rfl | exact Or.inr (Or.inl rfl) | exact Or.inr (Or.inr rfl)) (w_var 5) (w_mod (w_int rfl Q.n_int (va_c (w_add (w_add (w_ix (w_var 4) (w_var 5)) v_int) (w_call (dd := []) tk_def hr O__law_take B__law_take_p2 Q.g__law_take F__law_take.kp (va_c (w_var 0) (va_c v_int va_nil)))) va_nil)) v_int))
  (vss_one (vs_ret (v_lst (va_c (w_ix (w_var 1) v_int) (va_c (w_add (v_lst (va_c (w_var 4) va_nil)) (w_list rfl Q.n_list (va_c (v_sl (w_ix (w_var 1) v_int) (vo_some v_int) vo_none) va_nil))) va_nil)))))))) vss_nil)
  (vss_one (vs_ret (w_var 1))))))))
theorem sc_law : FnScope ["_law_script", "_law_hand_here", "_law_many", "_law_firsts", "_law_sights", "_law_turn", "_law_size", "_law_pours_here", "_law_rows", "_law_step", "_law_upto", "_law_limit", "_law_plain", "_law_kept", "_law_spoilt", "_law_begun_here", "_law_due_here", "_law_handed", "_law_found", "_law_mark", "_law_sight"] ["_law_script"] (defScope s_law) := ⟨rfl, rfl, rfl, by decide +kernel, rfl, by decide +kernel, by decide +kernel⟩
theorem ok_law (Q : Fx K mg) : ∃ fd, FunD K "law" "law" (defArgs s_law) (defBody s_law) (defScope s_law) [] [] (He.ga K "law") fd ∧ FnOk P w K mg base (L2.CX P w) 11 (He.ga K "law") fd ["_law_script"] (spV (cn mg K) [false] f_law) ∧ True := by
  obtain ⟨fd, F⟩ := Q.d_law
  obtain ⟨fd__law_asked, F__law_asked0, O__law_asked, B__law_asked_p3, _⟩ := ok__law_asked (P := P) (w := w) (base := base) Q
  have F__law_asked := F__law_asked0
  obtain ⟨fd__law_bare, F__law_bare0, O__law_bare, B__law_bare_p1, _⟩ := ok__law_bare (P := P) (w := w) (base := base) Q
  have F__law_bare := F__law_bare0
  have O__law_bare := O__law_bare 7
  obtain ⟨fd__law_begun, F__law_begun0, O__law_begun, B__law_begun_p2, _⟩ := ok__law_begun (P := P) (w := w) (base := base) Q
  have F__law_begun := F__law_begun0
  obtain ⟨fd__law_colour, F__law_colour0, O__law_colour, B__law_colour_p1, _⟩ := ok__law_colour (P := P) (w := w) (base := base) Q
  have F__law_colour := F__law_colour0
  obtain ⟨fd__law_due, F__law_due0, O__law_due, B__law_due_p3, _⟩ := ok__law_due (P := P) (w := w) (base := base) Q
  have F__law_due := F__law_due0
  obtain ⟨fd__law_hand, F__law_hand0, O__law_hand, B__law_hand_p1, _⟩ := ok__law_hand (P := P) (w := w) (base := base) Q
  have F__law_hand := F__law_hand0
  obtain ⟨fd__law_lists, F__law_lists0, O__law_lists, B__law_lists_p2, _⟩ := ok__law_lists (P := P) (w := w) (base := base) Q
  have F__law_lists := F__law_lists0
  have O__law_lists := O__law_lists 7
  obtain ⟨fd__law_rid, F__law_rid0, O__law_rid, B__law_rid_p1, _⟩ := ok__law_rid (P := P) (w := w) (base := base) Q
  have F__law_rid := F__law_rid0
  obtain ⟨fd__law_take, F__law_take0, O__law_take, B__law_take_p2, _⟩ := ok__law_take (P := P) (w := w) (base := base) Q
  have F__law_take := F__law_take0
  obtain ⟨fd__law_tuples, F__law_tuples0, O__law_tuples, B__law_tuples_p1, _⟩ := ok__law_tuples (P := P) (w := w) (base := base) Q
  have F__law_tuples := F__law_tuples0
  have O__law_tuples := O__law_tuples 7
  obtain ⟨fd__law_wrong, F__law_wrong0, O__law_wrong, B__law_wrong_p3, _⟩ := ok__law_wrong (P := P) (w := w) (base := base) Q
  have F__law_wrong := F__law_wrong0
  refine ⟨fd, F, funV F sc_law [false] m_law rfl (by decide) fun cdv A outer s H E hr => ?_, True.intro⟩
  exact (vss_cons (vs_set sc_law.nd (i := 1) rfl (by first | exact Or.inl rfl | exact Or.inr rfl) (by decide) (w_call (dd := []) tk_def hr O__law_hand B__law_hand_p1 Q.g__law_hand F__law_hand.kp (va_c (w_var 0) va_nil)))
  (vss_cons (vs_set sc_law.nd (i := 2) rfl (by first | exact Or.inl rfl | exact Or.inr rfl) (by decide) (w_add v_int (w_call (dd := []) tk_def hr O__law_take B__law_take_p2 Q.g__law_take F__law_take.kp (va_c (w_var 1) (va_c v_int va_nil)))))
  (vss_cons (by first | exact vs_setLc (own := [("_law_mark", 19)]) rfl sc_law.nd (i := 3) rfl rfl (by decide) rfl (vi_rng1 rfl Q.n_range (va_c (w_var 2) va_nil)) (blk_ok (by kernel_rfl)) (fun _ _ _ _ _ => (vg_nm sc_law.nd (i := 19) rfl (by first | exact Or.inl rfl | exact Or.inr rfl) (butP_no rfl))) (fun _ _ _ _ _ => vts_nil) (fun _ _ _ _ _ => (w_call (dd := []) takesF hr O__law_colour B__law_colour_p1 Q.g__law_colour F__law_colour.kp (va_c (w_var 1) va_nil))) | exact vs_set sc_law.nd (i := 3) rfl (by first | exact Or.inl rfl | exact Or.inr rfl) (by decide) (v_lc (own := [("_law_mark", 19)]) rfl sc_law.nd (vi_rng1 rfl Q.n_range (va_c (w_var 2) va_nil)) (blk_ok (by kernel_rfl)) (fun _ _ _ _ _ => (vg_nm sc_law.nd (i := 19) rfl (by first | exact Or.inl rfl | exact Or.inr rfl) (butP_no rfl))) (fun _ _ _ _ _ => vts_nil) (fun _ _ _ _ _ => (w_call (dd := []) takesF hr O__law_colour B__law_colour_p1 Q.g__law_colour F__law_colour.kp (va_c (w_var 1) va_nil)))))
  (vss_cons (vs_set sc_law.nd (i := 4) rfl (by first | exact Or.inl rfl | exact Or.inr rfl) (by decide) (v_lst va_nil))
  (vss_cons (vs_for ps_def rfl (vi_rng1 rfl Q.n_range (va_c (w_call (dd := []) tk_def hr O__law_take B__law_take_p2 Q.g__law_take F__law_take.kp (va_c (w_var 1) (va_c v_int va_nil))) va_nil)) (vg_nm sc_law.nd (i := 5) rfl (by first | exact Or.inl rfl | exact Or.inr rfl) (by decide)) (vss_cons (vs_set sc_law.nd (i := 6) rfl (by first | exact Or.inl rfl | exact Or.inr rfl) (by decide) (w_ix (v_lst (va_c (w_call (dd := []) tk_def hr O__law_take B__law_take_p2 Q.g__law_take F__law_take.kp (va_c (w_var 1) (va_c v_int va_nil))) (va_c (w_call (dd := []) tk_def hr O__law_take B__law_take_p2 Q.g__law_take F__law_take.kp (va_c (w_var 1) (va_c v_int va_nil))) (va_c v_int va_nil)))) (w_call (dd := []) tk_def hr O__law_take B__law_take_p2 Q.g__law_take F__law_take.kp (va_c (w_var 1) (va_c v_int va_nil)))))
  (vss_cons (by first | exact vs_setLc (own := [("_law_step", 9)]) rfl sc_law.nd (i := 7) rfl rfl (by decide) rfl (vi_rng1 rfl Q.n_range (va_c (w_var 6) va_nil)) (blk_ok (by kernel_rfl)) (fun _ _ _ _ _ => (vg_nm sc_law.nd (i := 9) rfl (by first | exact Or.inl rfl | exact Or.inr rfl) (butP_no rfl))) (fun _ _ _ _ _ => vts_nil) (fun _ _ _ _ _ => (v_tup (va_c (w_call (dd := []) takesF hr O__law_take B__law_take_p2 Q.g__law_take F__law_take.kp (va_c (w_var 1) (va_c (w_var 2) va_nil))) (va_c (w_call (dd := []) takesF hr O__law_colour B__law_colour_p1 Q.g__law_colour F__law_colour.kp (va_c (w_var 1) va_nil)) va_nil)))) | exact vs_set sc_law.nd (i := 7) rfl (by first | exact Or.inl rfl | exact Or.inr rfl) (by decide) (v_lc (own := [("_law_step", 9)]) rfl sc_law.nd (vi_rng1 rfl Q.n_range (va_c (w_var 6) va_nil)) (blk_ok (by kernel_rfl)) (fun _ _ _ _ _ => (vg_nm sc_law.nd (i := 9) rfl (by first | exact Or.inl rfl | exact Or.inr rfl) (butP_no rfl))) (fun _ _ _ _ _ => vts_nil) (fun _ _ _ _ _ => (v_tup (va_c (w_call (dd := []) takesF hr O__law_take B__law_take_p2 Q.g__law_take F__law_take.kp (va_c (w_var 1) (va_c (w_var 2) va_nil))) (va_c (w_call (dd := []) takesF hr O__law_colour B__law_colour_p1 Q.g__law_colour F__law_colour.kp (va_c (w_var 1) va_nil)) va_nil))))))
  (vss_cons (vs_set sc_law.nd (i := 8) rfl (by first | exact Or.inl rfl | exact Or.inr rfl) (by decide) (v_lst (va_c (w_tuple rfl Q.n_tuple (va_c (w_var 3) va_nil)) va_nil)))
  (vss_cons (vs_for ps_def rfl (vi_rng1 rfl Q.n_range (va_c (w_var 6) va_nil)) (vg_nm sc_law.nd (i := 9) rfl (by first | exact Or.inl rfl | exact Or.inr rfl) (by decide)) (vss_one (vs_expr (w_append 8 (va_c (w_tuple rfl Q.n_tuple (va_c (v_lc (own := [("_law_mark", 19)]) rfl sc_law.nd (vi_rng1 rfl Q.n_range (va_c (w_var 2) va_nil)) (blk_ok (by kernel_rfl)) (fun _ _ _ _ _ => (vg_nm sc_law.nd (i := 19) rfl (by first | exact Or.inl rfl | exact Or.inr rfl) (butP_no rfl))) (fun _ _ _ _ _ => vts_nil) (fun _ _ _ _ _ => (w_call (dd := []) takesF hr O__law_colour B__law_colour_p1 Q.g__law_colour F__law_colour.kp (va_c (w_var 1) va_nil)))) va_nil)) va_nil)))))
  (vss_one (vs_expr (w_append 4 (va_c (v_tup (va_c (w_var 7) (va_c (w_var 8) va_nil))) va_nil)))))))))
  (vss_cons (vs_set sc_law.nd (i := 10) rfl (by first | exact Or.inl rfl | exact Or.inr rfl) (by decide) (v_ifE (vt_tru (w_call (dd := []) tk_def hr O__law_take B__law_take_p2 Q.g__law_take F__law_take.kp (va_c (w_var 1) (va_c v_int va_nil)))) v_non (w_call (dd := []) tk_def hr O__law_take B__law_take_p2 Q.g__law_take F__law_take.kp (va_c (w_var 1) (va_c v_int va_nil)))))
  (vss_cons (vs_set sc_law.nd (i := 11) rfl (by first | exact Or.inl rfl | exact Or.inr rfl) (by decide) (v_ifE (vt_isN (w_var 10)) v_int (w_var 10)))
  (vss_cons (vs_set sc_law.nd (i := 12) rfl (by first | exact Or.inl rfl | exact Or.inr rfl) (by decide) (v_fz (w_call (dd := []) tk_def hr O__law_lists B__law_lists_p2 Q.g__law_lists F__law_lists.kp (va_c (w_var 1) (va_c (w_var 4) va_nil)))))
  (vss_cons (vs_set sc_law.nd (i := 13) rfl (by first | exact Or.inl rfl | exact Or.inr rfl) (by decide) (v_fz (w_call (dd := []) tk_def hr O__law_bare B__law_bare_p1 Q.g__law_bare F__law_bare.kp (va_c (w_var 12) va_nil))))
  (vss_cons (vs_if (VW.vt (vw_or (t_ne hr (w_call (dd := []) tk_def hr O__law_asked B__law_asked_p3 Q.g__law_asked F__law_asked.kp (va_c (w_call (dd := []) tk_def hr O__law_lists B__law_lists_p2 Q.g__law_lists F__law_lists.kp (va_c (w_var 1) (va_c (w_var 3) va_nil))) (va_c (w_var 12) (va_c (w_var 10) va_nil)))) (w_call (dd := []) tk_def hr O__law_due B__law_due_p3 Q.g__law_due F__law_due.kp (va_c (w_var 3) (va_c (w_var 4) (va_c (w_var 11) va_nil))))) (vw_or1 (t_neX hr rfl (w_call (dd := []) tk_def hr O__law_bare B__law_bare_p1 Q.g__law_bare F__law_bare.kp (va_c (w_var 12) va_nil)) (w_var 13))))) (vss_one (vs_ret v_bl)) vss_nil)
  (vss_cons (vs_for ps_def rfl (vi_rng1 rfl Q.n_range (va_c v_int va_nil)) (vg_nm sc_law.nd (i := 5) rfl (by first | exact Or.inl rfl | exact Or.inr rfl) (by decide)) (vss_cons (by first | exact vs_setLc (own := [("_law_sight", 20)]) rfl sc_law.nd (i := 14) rfl rfl (by decide) rfl (vi_seq rfl (w_var 4)) (blk_ok (by kernel_rfl)) (fun _ _ _ _ _ => (vg_nm sc_law.nd (i := 20) rfl (by first | exact Or.inl rfl | exact Or.inr rfl) (butP_no rfl))) (fun _ _ _ _ _ => vts_nil) (fun _ _ _ _ _ => (w_call (dd := []) takesF hr O__law_wrong B__law_wrong_p3 Q.g__law_wrong F__law_wrong.kp (va_c (w_var 1) (va_c (w_var 20) (va_c (w_var 2) va_nil))))) | exact vs_set sc_law.nd (i := 14) rfl (by first | exact Or.inl rfl | exact Or.inr rfl) (by decide) (v_lc (own := [("_law_sight", 20)]) rfl sc_law.nd (vi_seq rfl (w_var 4)) (blk_ok (by kernel_rfl)) (fun _ _ _ _ _ => (vg_nm sc_law.nd (i := 20) rfl (by first | exact Or.inl rfl | exact Or.inr rfl) (butP_no rfl))) (fun _ _ _ _ _ => vts_nil) (fun _ _ _ _ _ => (w_call (dd := []) takesF hr O__law_wrong B__law_wrong_p3 Q.g__law_wrong F__law_wrong.kp (va_c (w_var 1) (va_c (w_var 20) (va_c (w_var 2) va_nil)))))))
  (vss_cons (vs_if (t_eq hr (w_call (dd := []) tk_def hr O__law_take B__law_take_p2 Q.g__law_take F__law_take.kp (va_c (w_var 1) (va_c v_int va_nil))) v_int) (vss_one (vs_set sc_law.nd (i := 14) rfl (by first | exact Or.inl rfl | exact Or.inr rfl) (by decide) (w_call (dd := []) tk_def hr O__law_rid B__law_rid_p1 Q.g__law_rid F__law_rid.kp (va_c (w_var 1) va_nil)))) vss_nil)
  (vss_cons (vs_set sc_law.nd (i := 15) rfl (by first | exact Or.inl rfl | exact Or.inr rfl) (by decide) (v_fz (w_call (dd := []) tk_def hr O__law_begun B__law_begun_p2 Q.g__law_begun F__law_begun.kp (va_c (w_var 1) (va_c (w_var 3) va_nil)))))
  (vss_cons (vs_set sc_law.nd (i := 16) rfl (by first | exact Or.inl rfl | exact Or.inr rfl) (by decide) (v_fz (w_call (dd := []) tk_def hr O__law_due B__law_due_p3 Q.g__law_due F__law_due.kp (va_c (w_var 15) (va_c (w_var 14) (va_c (w_var 11) va_nil))))))
  (vss_cons (vs_set sc_law.nd (i := 17) rfl (by first | exact Or.inl rfl | exact Or.inr rfl) (by decide) (v_fz (w_call (dd := []) tk_def hr O__law_lists B__law_lists_p2 Q.g__law_lists F__law_lists.kp (va_c (w_var 1) (va_c (w_var 14) va_nil)))))
  (vss_cons (vs_set sc_law.nd (i := 13) rfl (by first | exact Or.inl rfl | exact Or.inr rfl) (by decide) (v_fz (w_call (dd := []) tk_def hr O__law_bare B__law_bare_p1 Q.g__law_bare F__law_bare.kp (va_c (w_var 17) va_nil))))
  (vss_cons (vs_set sc_law.nd (i := 18) rfl (by first | exact Or.inl rfl | exact Or.inr rfl) (by decide) (v_fz (w_call (dd := []) tk_def hr O__law_asked B__law_asked_p3 Q.g__law_asked F__law_asked.kp (va_c (w_var 15) (va_c (w_var 17) (va_c (w_var 10) va_nil))))))
  (vss_one (vs_if (VW.vt (vw_or (t_ne hr (w_var 18) (w_var 16)) (vw_or (VW.vt (vw_and (vt_tru (v_isi1 rfl Q.n_isinstance (w_var 18) ⟨⟨rfl, Q.n_tuple, PyProof.Rows.boot_tuple, by decide, by decide⟩, True.intro⟩)) (vw_and1 (vt_not (vt_tru (w_call (dd := []) tk_def hr O__law_tuples B__law_tuples_p1 Q.g__law_tuples F__law_tuples.kp (va_c (w_var 18) va_nil))))))) (vw_or1 (t_neX hr rfl (w_call (dd := []) tk_def hr O__law_bare B__law_bare_p1 Q.g__law_bare F__law_bare.kp (va_c (w_var 17) va_nil)) (w_var 13)))))) (vss_one (vs_ret v_bl)) vss_nil))))))))))
  (vss_one (vs_ret (w_eq hr (w_call (dd := []) tk_def hr O__law_asked B__law_asked_p3 Q.g__law_asked F__law_asked.kp (va_c (w_var 3) (va_c (v_lst va_nil) (va_c (w_var 10) va_nil)))) (v_tup va_nil)))))))))))))))
end
end LAWW
end
section
set_option Elab.async false
set_option linter.all false
set_option autoImplicit false
set_option maxRecDepth 100000
set_option maxHeartbeats 0
namespace LAWH
open PySem PySem.Spec PyProof.Rows L2 SV LAWM LAWW
def e_is_whole : He.DefD := ⟨("is_whole", none), "is_whole", "is_whole", defArgs s_is_whole, defBody s_is_whole, defScope s_is_whole, [.non, .non], []⟩
def e_check_marks : He.DefD := ⟨("check_marks", none), "check_marks", "check_marks", defArgs s_check_marks, defBody s_check_marks, defScope s_check_marks, [], []⟩
def e_check_firsts : He.DefD := ⟨("check_firsts", none), "check_firsts", "check_firsts", defArgs s_check_firsts, defBody s_check_firsts, defScope s_check_firsts, [], []⟩
def e_are_rows : He.DefD := ⟨("are_rows", none), "are_rows", "are_rows", defArgs s_are_rows, defBody s_are_rows, defScope s_are_rows, [], []⟩
def e_pour_fault : He.DefD := ⟨("pour_fault", none), "pour_fault", "pour_fault", defArgs s_pour_fault, defBody s_pour_fault, defScope s_pour_fault, [], []⟩
def e_check_script : He.DefD := ⟨("check_script", none), "check_script", "check_script", defArgs s_check_script, defBody s_check_script, defScope s_check_script, [], []⟩
def e_check_one_sight : He.DefD := ⟨("check_one_sight", none), "check_one_sight", "check_one_sight", defArgs s_check_one_sight, defBody s_check_one_sight, defScope s_check_one_sight, [], []⟩
def e_check_sights : He.DefD := ⟨("check_sights", none), "check_sights", "check_sights", defArgs s_check_sights, defBody s_check_sights, defScope s_check_sights, [.int 3], []⟩
def e__law_asked : He.DefD := ⟨("_law_asked", none), "_law_asked", "_law_asked", defArgs s__law_asked, defBody s__law_asked, defScope s__law_asked, [], []⟩
def e__law_bare : He.DefD := ⟨("_law_bare", none), "_law_bare", "_law_bare", defArgs s__law_bare, defBody s__law_bare, defScope s__law_bare, [], []⟩
def e__law_mixed : He.DefD := ⟨("_law_mixed", none), "_law_mixed", "_law_mixed", defArgs s__law_mixed, defBody s__law_mixed, defScope s__law_mixed, [], []⟩
def e__law_take : He.DefD := ⟨("_law_take", none), "_law_take", "_law_take", defArgs s__law_take, defBody s__law_take, defScope s__law_take, [], []⟩
def e__law_odd : He.DefD := ⟨("_law_odd", none), "_law_odd", "_law_odd", defArgs s__law_odd, defBody s__law_odd, defScope s__law_odd, [], []⟩
def e__law_rid : He.DefD := ⟨("_law_rid", none), "_law_rid", "_law_rid", defArgs s__law_rid, defBody s__law_rid, defScope s__law_rid, [], []⟩
def e__law_begun : He.DefD := ⟨("_law_begun", none), "_law_begun", "_law_begun", defArgs s__law_begun, defBody s__law_begun, defScope s__law_begun, [], []⟩
def e__law_colour : He.DefD := ⟨("_law_colour", none), "_law_colour", "_law_colour", defArgs s__law_colour, defBody s__law_colour, defScope s__law_colour, [], []⟩
def e__law_number : He.DefD := ⟨("_law_number", none), "_law_number", "_law_number", defArgs s__law_number, defBody s__law_number, defScope s__law_number, [], []⟩
def e__law_hues : He.DefD := ⟨("_law_hues", none), "_law_hues", "_law_hues", defArgs s__law_hues, defBody s__law_hues, defScope s__law_hues, [], []⟩
def e__law_pours : He.DefD := ⟨("_law_pours", none), "_law_pours", "_law_pours", defArgs s__law_pours, defBody s__law_pours, defScope s__law_pours, [], []⟩
def e__law_due : He.DefD := ⟨("_law_due", none), "_law_due", "_law_due", defArgs s__law_due, defBody s__law_due, defScope s__law_due, [], []⟩
def e__law_hand : He.DefD := ⟨("_law_hand", none), "_law_hand", "_law_hand", defArgs s__law_hand, defBody s__law_hand, defScope s__law_hand, [], []⟩
def e__law_lists : He.DefD := ⟨("_law_lists", none), "_law_lists", "_law_lists", defArgs s__law_lists, defBody s__law_lists, defScope s__law_lists, [], []⟩
def e__law_tuples : He.DefD := ⟨("_law_tuples", none), "_law_tuples", "_law_tuples", defArgs s__law_tuples, defBody s__law_tuples, defScope s__law_tuples, [], []⟩
def e__law_cracked : He.DefD := ⟨("_law_cracked", none), "_law_cracked", "_law_cracked", defArgs s__law_cracked, defBody s__law_cracked, defScope s__law_cracked, [], []⟩
def e__law_torn : He.DefD := ⟨("_law_torn", none), "_law_torn", "_law_torn", defArgs s__law_torn, defBody s__law_torn, defScope s__law_torn, [], []⟩
def e__law_wrong : He.DefD := ⟨("_law_wrong", none), "_law_wrong", "_law_wrong", defArgs s__law_wrong, defBody s__law_wrong, defScope s__law_wrong, [], []⟩
def e_law : He.DefD := ⟨("law", none), "law", "law", defArgs s_law, defBody s_law, defScope s_law, [], []⟩
def e_BadMarks : He.DefD := ⟨("BadMarks", some "__init__"), "__init__", "BadMarks.__init__", defArgs i_BadMarks, defBody i_BadMarks, defScope i_BadMarks, [], []⟩
def e_BadFirsts : He.DefD := ⟨("BadFirsts", some "__init__"), "__init__", "BadFirsts.__init__", defArgs i_BadFirsts, defBody i_BadFirsts, defScope i_BadFirsts, [], []⟩
def e_BadScript : He.DefD := ⟨("BadScript", some "__init__"), "__init__", "BadScript.__init__", defArgs i_BadScript, defBody i_BadScript, defScope i_BadScript, [], []⟩
def e_BadSight : He.DefD := ⟨("BadSight", some "__init__"), "__init__", "BadSight.__init__", defArgs i_BadSight, defBody i_BadSight, defScope i_BadSight, [], []⟩
def fn : List He.DefD := [e_is_whole, e_check_marks, e_check_firsts, e_are_rows, e_pour_fault, e_check_script, e_check_one_sight, e_check_sights, e__law_asked, e__law_bare, e__law_mixed, e__law_take, e__law_odd, e__law_rid, e__law_begun, e__law_colour, e__law_number, e__law_hues, e__law_pours, e__law_due, e__law_hand, e__law_lists, e__law_tuples, e__law_cracked, e__law_torn, e__law_wrong, e_law, e_BadMarks, e_BadFirsts, e_BadScript, e_BadSight]
def fa : List He.Fa := [.glo "is_whole", .glo "check_marks", .glo "check_firsts", .glo "are_rows", .glo "pour_fault", .glo "check_script", .glo "check_one_sight", .glo "check_sights", .glo "_law_asked", .glo "_law_bare", .glo "_law_mixed", .glo "_law_take", .glo "_law_odd", .glo "_law_rid", .glo "_law_begun", .glo "_law_colour", .glo "_law_number", .glo "_law_hues", .glo "_law_pours", .glo "_law_due", .glo "_law_hand", .glo "_law_lists", .glo "_law_tuples", .glo "_law_cracked", .glo "_law_torn", .glo "_law_wrong", .glo "law", .glo "BadMarks", .glo "BadFirsts", .glo "BadScript", .glo "BadSight", .glo "HueError", .free "abs", .free "bool", .free "enumerate", .free "int", .free "isinstance", .free "len", .free "list", .free "range", .free "tuple", .int "MOST_COLOUR" 99, .int "MOST_POURS" 12, .int "MOST_MARKS" 4]
def ex : PySem.W.Frag → Bool := fun K => (XL.all fun q => exFB K q.1 q.2) && (exmTab K TAB && true)
abbrev LO : List PySem.Str := (["HueError", "BadMarks", "BadScript", "BadFirsts", "BadSight", "MOST_COLOUR", "is_whole", "MOST_POURS", "MOST_MARKS", "check_marks", "pour_fault", "check_script", "check_firsts", "are_rows", "check_one_sight", "check_sights", "_law_hand", "_law_mixed", "_law_take", "_law_colour", "_law_tuples", "_law_bare", "_law_lists", "_law_odd", "_law_rid", "_law_asked", "_law_number", "_law_hues", "_law_pours", "_law_due"] : List PySem.Str) ++ (["_law_cracked", "_law_torn", "_law_wrong", "_law_begun"] : List PySem.Str)
abbrev R : PySem.W.OpenRow := PySem.W.OpenLaw.row PySem.Challenge.rw_spreadhues_k59_whole_sights_checked
abbrev hk : PySem.W.Hook := He.hookX 4 fa fn [] [] ex
def ob (s : PySem.W.SharedT) : He.AlX := He.obsX 4 fa fn [] [] ex (HandSHeadRun.getT s)
theorem ob_eq (s : PySem.W.SharedT) : ob s = hk.obs s.abs := He.obsX_eq (HandSHeadRun.getT_eq s)
theorem run (w : World) : HandSHeadRun.RunEq R (PySem.W.view R.prog [39]) hk ob 6800 LO w := by
  intro os
  kernel_rfl
theorem facts {K : PySem.W.Frag} {h : Heap} {mg : Str → Option Value} {w : World} (X : K.In h) (G : h.Ns mainGlobals mg) (c : He.SaysX fa fn [] [] ex w h K) : Fx K mg := by
  have d := c.t.d
  obtain ⟨e1, e23⟩ := Bool.and_eq_true_iff.mp (show ((XL.all fun q => exFB K q.1 q.2) && (exmTab K TAB && true)) = true from c.more)
  obtain ⟨e2, e3⟩ := Bool.and_eq_true_iff.mp e23
  exact {
    g_is_whole := He.glo_ok X G (d.fact 0 rfl)
    g_check_marks := He.glo_ok X G (d.fact 1 rfl)
    g_check_firsts := He.glo_ok X G (d.fact 2 rfl)
    g_are_rows := He.glo_ok X G (d.fact 3 rfl)
    g_pour_fault := He.glo_ok X G (d.fact 4 rfl)
    g_check_script := He.glo_ok X G (d.fact 5 rfl)
    g_check_one_sight := He.glo_ok X G (d.fact 6 rfl)
    g_check_sights := He.glo_ok X G (d.fact 7 rfl)
    g__law_asked := He.glo_ok X G (d.fact 8 rfl)
    g__law_bare := He.glo_ok X G (d.fact 9 rfl)
    g__law_mixed := He.glo_ok X G (d.fact 10 rfl)
    g__law_take := He.glo_ok X G (d.fact 11 rfl)
    g__law_odd := He.glo_ok X G (d.fact 12 rfl)
    g__law_rid := He.glo_ok X G (d.fact 13 rfl)
    g__law_begun := He.glo_ok X G (d.fact 14 rfl)
    g__law_colour := He.glo_ok X G (d.fact 15 rfl)
    g__law_number := He.glo_ok X G (d.fact 16 rfl)
    g__law_hues := He.glo_ok X G (d.fact 17 rfl)
    g__law_pours := He.glo_ok X G (d.fact 18 rfl)
    g__law_due := He.glo_ok X G (d.fact 19 rfl)
    g__law_hand := He.glo_ok X G (d.fact 20 rfl)
    g__law_lists := He.glo_ok X G (d.fact 21 rfl)
    g__law_tuples := He.glo_ok X G (d.fact 22 rfl)
    g__law_cracked := He.glo_ok X G (d.fact 23 rfl)
    g__law_torn := He.glo_ok X G (d.fact 24 rfl)
    g__law_wrong := He.glo_ok X G (d.fact 25 rfl)
    g_law := He.glo_ok X G (d.fact 26 rfl)
    g_BadMarks := He.glo_ok X G (d.fact 27 rfl)
    g_BadFirsts := He.glo_ok X G (d.fact 28 rfl)
    g_BadScript := He.glo_ok X G (d.fact 29 rfl)
    g_BadSight := He.glo_ok X G (d.fact 30 rfl)
    g_HueError := He.glo_ok X G (d.fact 31 rfl)
    n_abs := He.free_ok X G (d.fact 32 rfl)
    n_bool := He.free_ok X G (d.fact 33 rfl)
    n_enumerate := He.free_ok X G (d.fact 34 rfl)
    n_int := He.free_ok X G (d.fact 35 rfl)
    n_isinstance := He.free_ok X G (d.fact 36 rfl)
    n_len := He.free_ok X G (d.fact 37 rfl)
    n_list := He.free_ok X G (d.fact 38 rfl)
    n_range := He.free_ok X G (d.fact 39 rfl)
    n_tuple := He.free_ok X G (d.fact 40 rfl)
    i_MOST_COLOUR := He.int_ok X G (d.fact 41 rfl)
    i_MOST_POURS := He.int_ok X G (d.fact 42 rfl)
    i_MOST_MARKS := He.int_ok X G (d.fact 43 rfl)
    em := e2
    xl := fun q hq => exFB_ok (List.all_eq_true.mp e1 q hq)
    xg := fun q hq => by
      simp only [XL, List.mem_cons, List.not_mem_nil, or_false] at hq
      rcases hq with rfl | rfl | rfl | rfl
      · exact He.glo_ok X G (d.fact 27 rfl)
      · exact He.glo_ok X G (d.fact 28 rfl)
      · exact He.glo_ok X G (d.fact 29 rfl)
      · exact He.glo_ok X G (d.fact 30 rfl)
    xg2 := fun q hq => by
      simp only [XN, List.mem_cons, List.not_mem_nil, or_false] at hq
      rcases hq with rfl | rfl | rfl | rfl | rfl
      · exact He.glo_ok X G (d.fact 27 rfl)
      · exact He.glo_ok X G (d.fact 28 rfl)
      · exact He.glo_ok X G (d.fact 29 rfl)
      · exact He.glo_ok X G (d.fact 30 rfl)
      · exact He.glo_ok X G (d.fact 31 rfl)
    d_is_whole := d.def_ 0 rfl
    d_check_marks := d.def_ 1 rfl
    d_check_firsts := d.def_ 2 rfl
    d_are_rows := d.def_ 3 rfl
    d_pour_fault := d.def_ 4 rfl
    d_check_script := d.def_ 5 rfl
    d_check_one_sight := d.def_ 6 rfl
    d_check_sights := d.def_ 7 rfl
    d__law_asked := d.def_ 8 rfl
    d__law_bare := d.def_ 9 rfl
    d__law_mixed := d.def_ 10 rfl
    d__law_take := d.def_ 11 rfl
    d__law_odd := d.def_ 12 rfl
    d__law_rid := d.def_ 13 rfl
    d__law_begun := d.def_ 14 rfl
    d__law_colour := d.def_ 15 rfl
    d__law_number := d.def_ 16 rfl
    d__law_hues := d.def_ 17 rfl
    d__law_pours := d.def_ 18 rfl
    d__law_due := d.def_ 19 rfl
    d__law_hand := d.def_ 20 rfl
    d__law_lists := d.def_ 21 rfl
    d__law_tuples := d.def_ 22 rfl
    d__law_cracked := d.def_ 23 rfl
    d__law_torn := d.def_ 24 rfl
    d__law_wrong := d.def_ 25 rfl
    d_law := d.def_ 26 rfl
    d_BadMarks := d.def_ 27 rfl
    d_BadFirsts := d.def_ 28 rfl
    d_BadScript := d.def_ 29 rfl
    d_BadSight := d.def_ 30 rfl
  }
end LAWH
open PySem PySem.W PySem.Calls PyProof.Rows
theorem PySem.Challenge.cw_spreadhues_k59_whole_sights_checked_holds : PySem.Challenge.rw_spreadhues_k59_whole_sights_checked.Holds := by
  w_on; o_law
  refine HandSHeadRun.head_any (r := OpenLaw.row PySem.Challenge.rw_spreadhues_k59_whole_sights_checked) (q := view (OpenLaw.row PySem.Challenge.rw_spreadhues_k59_whole_sights_checked).prog [39]) (H := LAWH.hk) (ob := LAWH.ob) (M := 6800) (loose := LAWH.LO) (d := HandSHeadRun.topDef (OpenLaw.row PySem.Challenge.rw_spreadhues_k59_whole_sights_checked).prog 39) (kwd := []) LAWH.ob_eq
    (by kernel_rfl) (fun s => by kernel_rfl) LAWH.run (by kernel_rfl) (by kernel_rfl) (by kernel_rfl) (by rfl) (by first | assumption | decide +kernel) (by decide +kernel) ⟨rfl, rfl, rfl, rfl, rfl, by decide +kernel⟩ ?hw ?hc
  case hw => w_witness2
  case hc =>
    refine SV.law_walk (l := PySem.Challenge.rw_spreadhues_k59_whole_sights_checked) (n := 63) (k := 11) (x := "_law_script") rfl (by decide) (by kernel_rfl) ⟨rfl, by decide, by decide⟩ ?F
    intro w mg fa h Y G hmg0
    obtain ⟨K, KX, c⟩ := Y
    have hmg : mg ("law" : PySem.Str) = some (.ref fa) := by
      have e : (HandSHeadRun.topDef (OpenLaw.row PySem.Challenge.rw_spreadhues_k59_whole_sights_checked).prog 39).name = ("law" : PySem.Str) := by kernel_rfl
      rw [← e]
      exact hmg0
    have Q := LAWH.facts KX G c
    obtain ⟨fd, F⟩ := Q.d_law
    have e := hmg.symm.trans Q.g_law
    cases e
    have b := L2.FunD.bindsA (ps := ["_law_script"]) F fun _ _ _ _ _ _ us hl => match us, hl with | [_], _ => rfl
    refine ⟨K, fd, SV.spV (SV.cn mg K) [false] LAWM.f_law, KX, fun s v => b s [v] rfl, fun H a ns hl hO hS => SV.law_sp LAWP.law_true H a ns hl hO hS, fun base _ _ => ?_⟩
    obtain ⟨fd2, F2, O, _⟩ := LAWW.ok_law (P := (PySem.Challenge.rw_spreadhues_k59_whole_sights_checked).prog) (w := w) (base := base) Q
    have e2 : fd2 = fd := SV.fd_uniq F2 F
    rw [← e2]
    exact O
end
